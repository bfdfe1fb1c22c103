import PyProof.Rows.All
import Wide.All
import OpenK.AllK
import Wide.FinOn
import HandS.ForMost
import HandS.Wide
import HandS.IsInst
import HandS.EndBits
import HandS.Codes
import PyProof.LongRange
import KE.KExcSuper
import HandS.ForExc
import HandS.ExcInit
import HandS.ExcField
import HandS.HeadWalk
import HandS.TryMany
import HandS.ExcIs
import HandS.HotCalls
import HandS.Style
import PySem.Challenge.RW_tagblocks_k00_errors_made_from_their_fie
set_option Elab.async false
set_option linter.all false
set_option maxRecDepth 100000
set_option maxHeartbeats 3999000
namespace Tb
open PySem PyProof.Rows L2
open PySem.W (Frag)
open C8 (pss_cut tCut)
/-! ### calls by one hypothesis a callee -/
/-- a def under its global name keeps the promise sp -/
structure HasF (P : Program) (w : World) (K : Frag) (mg : Str → Option Value) (base : Heap) (x : Str) (k : Nat) (sp : Sp) : Prop where
  ex : ∃ (f : Addr) (fd : FuncData) (ps : List Str), FnOk P w K mg base CX0 k f fd ps sp ∧ mg x = some (.ref f) ∧ PySem.W.keepIn K (.ref f) = true ∧ Binds K fd ps []
/-- so does the method m of the class that stands at C -/
structure HasM (P : Program) (w : World) (K : Frag) (mg : Str → Option Value) (base : Heap) (C : Addr) (m : Str) (k : Nat) (sp : Sp) : Prop where
  ex : ∃ (f : Addr) (fd : FuncData) (ps : List Str), FnOk P w K mg base CX0 k f fd ps sp ∧ Meth K C m f ∧ Cls K C ∧ Binds K fd ps []
/-- a class under its global name, made by its __init__ -/
structure HasC (P : Program) (w : World) (K : Frag) (mg : Str → Option Value) (base : Heap) (x : Str) (C : Addr) (k : Nat) (sp : Sp) : Prop where
  ex : ∃ (f : Addr) (fd : FuncData) (ps : List Str), FnOk P w K mg base CX0 k f fd ps sp ∧ Mk K C f ∧ mg x = some (.ref C) ∧ Binds K fd ps []
def tFn (sp : Sp) (t : TA) : TE := fun σ H Q => t σ H fun vs H1 => sp vs H1 Q E0
def tMth (C : Addr) (m : Str) (sp : Sp) (ta : TE) (t : TA) : TE := fun σ H Q => ta σ H fun x H1 => ∃ a dx fs, x = .ref a ∧ H1 a = some (.ins C dx fs) ∧ fs.lookup m = none ∧
  t σ H1 fun vs H2 => sp (x :: vs) H2 Q E0
def tMk (C : Addr) (sp : Sp) (t : TA) : TE := fun σ H Q => t σ H fun vs H1 => ∀ x dx, H1 x = none → H1 dx = none → dx ≠ x →
  sp (.ref x :: vs) (upd (upd H1 dx (.own x)) x (.ins C dx [])) (fun v H2 => v = .non ∧ Q (.ref x) H2) E0
section
variable {X : Cx} {k : Nat} {C : Addr} {sp : Sp} {x m : Str} {q1 q2 q3 : Pos} {a1 o1 : Expr} {r1 : List Expr} {ta : TE} {t : TA}
theorem pe_fn (h : HasF X.prog X.w X.K X.mg X.base x k sp) (hr : Room k X.A) (hg : Gl X x) (ha : PA X (a1 :: r1) t) (z1 : (x == ("__debug__" : Str)) = false := by decide)
    (z2 : starEach (a1 :: r1) X.env = (false, eval a1 X.env) :: starEach r1 X.env := by rfl) (z3 : (backTo q2 (starEach r1 X.env)).any (·.1) = false := by rfl) : PE X (.Call (.Name x q1) (a1 :: r1) [] q2) (tFn sp t) := by
  obtain ⟨f, fd, ps, F, hm, hk, hb⟩ := h.ex
  have r := pe_call (p := q1) (pos := q2) F hr hg hm hk hb .nil pass0 ha z1 z2 z3
  exact ⟨fun pn s σ H Q I q => r.run pn s σ H Q I (by simp only [tCall, List.append_nil]; exact q)⟩
theorem pe_mth {pl : Sem Bool} (he : PE X o1 ta) (h : HasM X.prog X.w X.K X.mg X.base C m k sp) (hr : Room k X.A) (ha : PA X (a1 :: r1) t)
    (z2 : starEach (a1 :: r1) X.env = (false, eval a1 X.env) :: starEach r1 X.env := by rfl) (z3 : (backTo q2 (starEach r1 X.env)).any (·.1) = false := by rfl)
    (z4 : eval (.Call (.Attribute o1 m q3) (a1 :: r1) [] q2) X.env = (do let ov ← eval o1 X.env; standAt q3.atName; let (f, first) ← holding [ov] (getMethod ov m pl); callWith q2 f first (backTo q2 (starEach (a1 :: r1) X.env)) (backToKw q2 (keywordEach [] X.env))) := by rfl) :
    PE X (.Call (.Attribute o1 m q3) (a1 :: r1) [] q2) (tMth C m sp ta t) := by
  obtain ⟨f, fd, ps, F, hm, hc, hb⟩ := h.ex
  have r := pe_meth (pos := q2) (apos := q3) he hc hm F hr hb .nil pass0 ha z2 z3 z4
  exact ⟨fun pn s σ H Q I q => r.run pn s σ H Q I (by simp only [tMeth, List.append_nil]; exact q)⟩
theorem pe_mth0 {pl : Sem Bool} (he : PE X o1 ta) (h : HasM X.prog X.w X.K X.mg X.base C m k sp) (hr : Room k X.A)
    (z4 : eval (.Call (.Attribute o1 m q3) [] [] q2) X.env = (do let ov ← eval o1 X.env; standAt q3.atName; let (f, first) ← holding [ov] (getMethod ov m pl); callWith q2 f first (backTo q2 (starEach [] X.env)) (backToKw q2 (keywordEach [] X.env))) := by rfl) :
    PE X (.Call (.Attribute o1 m q3) [] [] q2) (tMth C m sp ta tNil) := by
  obtain ⟨f, fd, ps, F, hm, hc, hb⟩ := h.ex
  have r := pe_meth0 (pos := q2) (apos := q3) he hc hm F hr hb .nil pass0 z4
  exact ⟨fun pn s σ H Q I q => r.run pn s σ H Q I (by simp only [tMeth, List.append_nil]; exact q)⟩
theorem pe_mk (h : HasC X.prog X.w X.K X.mg X.base x C k sp) (hr : Room (k + 1) X.A) (hg : Gl X x) (ha : PA X (a1 :: r1) t) (z1 : (x == ("__debug__" : Str)) = false := by decide)
    (z2 : starEach (a1 :: r1) X.env = (false, eval a1 X.env) :: starEach r1 X.env := by rfl) (z3 : (backTo q2 (starEach r1 X.env)).any (·.1) = false := by rfl) : PE X (.Call (.Name x q1) (a1 :: r1) [] q2) (tMk C sp t) := by
  obtain ⟨f, fd, ps, F, hM, hm, hb⟩ := h.ex
  have r := pe_make (p := q1) (pos := q2) hM F hr hg hm hb .nil pass0 ha z1 z2 z3
  exact ⟨fun pn s σ H Q I q => r.run pn s σ H Q I (by simp only [tMake, List.append_nil]; exact q)⟩
/-! ### x *= e of great ints -/
def ipIC (C : Int → Int → Prop) (f : Int → Int → Int) : TIp := fun x y H Q => ∃ i j, x = .int i ∧ y = .int j ∧ C i j ∧ Q (.int (f i j)) H
theorem ip_mulW : PIp X .Mult (ipIC CMulW fun i j => i * j) := by
  rintro pn s σ H x y v u Q I rx ry ⟨i, j, rfl, rfl, hc, q⟩
  obtain ⟨tx, rfl⟩ := rx
  obtain ⟨ty, rfl⟩ := ry
  exact imul_int (show EP X pn σ Q (.int (i * j) s.toks) { s with toks := s.toks + 1 } from ⟨.int (i * j), H, I.tok _, ⟨_, rfl⟩, q⟩) hc.ok
end
/-! ### for over range(a, b), a and b of any size -/
/-- an iterator that counts up from lo, n times, by what its two steps do to its one object -/
theorem turn_by {P : Program} {w : World} {K : Frag} {tg : Expr} {me : Addr} {lo : Int} {n : Nat} {cl : String} {at_ : Nat → Heap → Prop}
    (nocl : ["enumerate", "zip", "dict_itemiterator", "dict_reverseitemiterator", "odict_iterator", "itertools.zip_longest", "itertools.pairwise"].contains cl = false)
    (ob : ∀ j h, at_ j h → ∃ (o : Obj) (vs : Array Value), h.get? me = some o ∧ o.cls = .type cl ∧ o.data = .fields vs)
    (fr : ∀ j h h', at_ j h → (∀ o, h.get? me = some o → h'.get? me = some o) → at_ j h')
    (nx : ∀ (A : Around) (j : Nat) (s : Shared) (Q : Option Value → Shared → Prop) (E : Value → Shared → Prop), A.handled = none → j < n → at_ j s.heap →
      (∀ tk h' n', at_ (j + 1) h' → (∀ b o, b ≠ me → s.heap.get? b = some o → h'.get? b = some o) → Q (some (.int (lo + j) tk)) { s with heap := h', toks := n' }) → wpAny (model P w) A (pyNext (.ref me)) Q E s)
    (en : ∀ (A : Around) (j : Nat) (s : Shared) (Q : Option Value → Shared → Prop) (E : Value → Shared → Prop), A.handled = none → n ≤ j → at_ j s.heap →
      (∀ h', (∀ b o, b ≠ me → s.heap.get? b = some o → h'.get? b = some o) → Q none { s with heap := h' }) → wpAny (model P w) A (pyNext (.ref me)) Q E s)
    (sf : ∀ (A : Around) (j : Nat) (s : Shared) (Q : Value → Shared → Prop) (E : Value → Shared → Prop), at_ j s.heap → Q (.ref me) s → wpAny (model P w) A (pyIter (.ref me)) Q E s) :
    Turn P w K tg (Itr lo n) [me] me at_ := by
  have one : ∀ {b : Addr}, b ∈ [me] → b = me := fun h => List.mem_singleton.mp h
  refine ⟨List.mem_singleton.mpr rfl, fun j h a b hb => ?_, fun j h h' a k => fr j h h' a (k me (List.mem_singleton.mpr rfl)), ?_, ?_, fun A j s Q E a q => sf A j s Q E a q⟩
  · obtain ⟨o, vs, e, _, d⟩ := ob j h a
    rw [one hb]
    exact ⟨o, e, fun v z => by rw [d] at z; exact Data.noConfusion z⟩
  · rintro c rfl rfl rfl calm j pn s σ H E I hf a hj
    obtain ⟨k0, k1, _, k3, k4, k5⟩ := hf me (List.mem_singleton.mpr rfl)
    refine nx c.A j s _ E (I.ok.hd calm) hj a fun tk h' n' a' kept => ?_
    have J := I.turned (it := me) (h' := h') (t' := n') (fun b o ne q => kept b o ne q) k0 k1 k3 k4 k5
    obtain ⟨o, vs, e, ec, ed⟩ := ob _ _ a'
    refine ⟨_, rfl, go_of (s := { s with heap := h', toks := n' }) e ec ed nocl ⟨.int (lo + j), H, J, ⟨tk, rfl⟩, ⟨rfl, rfl⟩, a', fun b hb => (hf b hb).1⟩⟩
  · rintro c rfl rfl rfl calm j pn s σ H E I hf a hj
    obtain ⟨k0, k1, _, k3, k4, k5⟩ := hf me (List.mem_singleton.mpr rfl)
    exact en c.A j s _ E (I.ok.hd calm) hj a fun h' kept => ⟨rfl, I.turned (it := me) (t' := s.toks) (fun b o ne q => kept b o ne q) k0 k1 k3 k4 k5⟩
theorem turn_long {P : Program} {w : World} {K : Frag} {tg : Expr} (me : Addr) (lo : Int) (n : Nat) : Turn P w K tg (Itr lo n) [me] me (fun j h => PySem.IsLongIter h me (lo + (j : Nat) * 1) ((n : Int) - (j : Nat)) 1) := by
  refine turn_by (cl := "longrange_iterator") (by decide) (fun j h a => ⟨_, _, a, rfl, rfl⟩) (fun j h h' a k => k _ a) (fun A j s Q E hd hj a q => ?_) (fun A j s Q E hd hj a q => ?_) (fun A j s Q E a q => PySem.wpAny_pyIter_longiter a q)
  · refine (Walks.longrange (prog := P) (w := w) hd me lo 1 n).item j s Q E hj a fun v h' n' ⟨tk, ev⟩ a' kept => ?_
    rw [ev, Int.mul_one]
    exact q tk h' n' a' fun b o ne e => kept b o (fun z => ne (List.mem_singleton.mp z)) e
  · exact PySem.wpAny_pyNext_long_end hd a (by omega) fun h' eb => q h' fun b o ne e => eb b o ne e
section
variable {X : Cx} {tg : Expr}
/-- the range object of two ints -/
abbrev rgO (lo hi : Int) (t u v : Tok) : Obj := { cls := .type "range", data := .fields #[.int lo t, .int hi u, .int 1 v] }
theorem range_itW {pn : List (Addr × Obj)} {σ : L2.St} {H : Hp} {s : Shared} {R : It → Hp → Prop} {E : Value → Shared → Prop} {lo hi : Int} {t u v : Tok} {n' : Nat} (I : Inv X pn σ H s) (q : R (Itr lo (hi - lo).toNat) H) :
    wpAny (model X.prog X.w) X.A (pyIter (.ref s.heap.objs.size)) (PIE X pn σ tg R) E { s with heap := s.heap.push (rgO lo hi t u v), toks := n' } := by
  have J : Inv X pn σ H { s with heap := s.heap.push (rgO lo hi t u v), toks := n' } := I.kept fun _ _ e => Heap.get?_push_of_some _ e
  have size : Builtin.Range.rangeSize lo hi 1 = (((hi - lo).toNat : Nat) : Int) - ((0 : Nat) : Int) := by
    rw [rangeSize_one]
    split <;> omega
  have first : lo = lo + ((0 : Nat) : Int) * 1 := by omega
  have fresh : ∀ b ∈ [(s.heap.push (rgO lo hi t u v)).objs.size], FpOk X pn H b := fun b hb => by
    rw [List.mem_singleton.mp hb]
    exact J.fpOk (Nat.le_refl _) (J.hok.fresh (Nat.le_refl _))
  cases hs : Builtin.Range.small lo hi 1 with
  | true =>
    refine wpAny_pyIter_range (IsRange.new ..) hs ⟨_, [_], _, _, H, rfl, J.kept (t' := n') fun _ _ e => Heap.get?_push_of_some _ e, turn_range _ lo (hi - lo).toNat, ?_, fresh, q⟩
    have z : ∀ a c : Int, a = lo → c = Builtin.Range.rangeSize lo hi 1 → IsRangeIter ((s.heap.push (rgO lo hi t u v)).push { cls := .type "range_iterator", data := .fields #[rawInt lo, rawInt (Builtin.Range.rangeSize lo hi 1), rawInt 1] }) (s.heap.push (rgO lo hi t u v)).objs.size a c 1 := by
      rintro _ _ rfl rfl
      exact Heap.get?_push_size (s.heap.push (rgO _ hi t u v)) rfl
    exact z _ _ first.symm size.symm
  | false =>
    refine PySem.wpAny_pyIter_longrange (IsRange.new ..) hs ⟨_, [_], _, _, H, rfl, J.kept (t' := n') fun _ _ e => Heap.get?_push_of_some _ e, turn_long _ lo (hi - lo).toNat, ?_, fresh, q⟩
    have z : ∀ a c : Int, a = lo → c = Builtin.Range.rangeSize lo hi 1 → PySem.IsLongIter ((s.heap.push (rgO lo hi t u v)).push { cls := .type "longrange_iterator", data := .fields #[rawInt lo, rawInt (Builtin.Range.rangeSize lo hi 1), rawInt 1] }) (s.heap.push (rgO lo hi t u v)).objs.size a c 1 := by
      rintro _ _ rfl rfl
      exact Heap.get?_push_size (s.heap.push (rgO _ hi t u v)) rfl
    exact z _ _ first.symm size.symm
def iRngW (ta : TA) : TI := fun σ H R => ta σ H fun vs H1 => ∃ i j : Int, vs = [.int i, .int j] ∧ R (Itr i (j - i).toNat) H1
theorem pi_range2W {a b : Expr} {ta : TA} {q1 q2 : Pos} (hg : Gl X "range") (hm : X.mg "range" = none) (ha : PA X [a, b] ta) (z1 : starEach [a, b] X.env = [(false, eval a X.env), (false, eval b X.env)] := by rfl) (z2 : starEach [b] X.env = [(false, eval b X.env)] := by rfl) :
    PI X tg (.Call (.Name "range" q1) [a, b] [] q2) (iRngW ta) := by
  refine ⟨fun pn s σ H R I h => Call_ (ld_blt I hg hm boot_range (PyProof.Rows.callWith_type1 (thn (ha.run q2 pn s σ H _ I h) ?_) (by rw [z1, z2]) (by rw [z2]; rfl)))⟩
  rintro us s1 ⟨vs, H1, J, rel, i, j, rfl, q⟩
  cases rel with
  | cons ri rest =>
    cases rest with
    | cons rj none =>
      cases none
      obtain ⟨ti, rfl⟩ := ri
      obtain ⟨tj, rfl⟩ := rj
      exact call_range_2 (range_itW J q)
end
/-! ### the end of a law row, its loose names told -/
theorem walk_ofX {l : PySem.W.OpenLaw} {n k : Nat} {q : Program} {ls : List Str} {XP : (Str → Option Value) → Heap → Prop} {YP : World → Heap → Prop} {d : DefRec} {K : Params → Frag} {sp : Frag → Sp} {x : Str} (hn : l.most = some n) (hn2 : n ≤ sizeLine)
    (hdf : d.params.defaults = []) (hr : Room k callerA) (hY : ∀ (w : World) (h : Heap), YP w h → (K w.params).In h)
    (F : ∀ (w : World) (mg : Str → Option Value) (fa : Addr) (h : Heap), (K w.params).In h → h.Ns mainGlobals mg → XP mg h → mg d.name = some (.ref fa) →
      ∃ fd : FuncData, (∀ (s : Shared) (v : Value), BindsTo s fd ⟨[v], []⟩ [(x, v)]) ∧ ∀ base : Heap, (K w.params).In base → base.Ns mainGlobals mg → FnOk l.prog w (K w.params) mg base CX0 k fa fd [x] (sp (K w.params)))
    (hsp : ∀ (K : Frag) (H : Hp) (a : Addr) (ns : List Int), ns.length ≤ n → (∀ z ∈ ns, Builtin.Int.intBits z ≤ 1048576) → SqL K H a (ns.map V.int) → sp K [.ref a] H (fun v _ => v = .bl true) fun _ _ _ => False) :
    PySem.W.WalkO q ls XP YP l.row.toRowW d [] (fun f vs => PySem.call f vs) :=
  Att.attach_callB hn hdf fun w _ _ mg _ _ _ _ _ _ a _ ns G Y _ _ _ hmg hobj hints hlen hbits hg =>
    let ⟨_, hb, hF⟩ := F w mg _ _ (hY w _ Y) G.T.g G.X hmg
    law_call (hY w _ Y) G.T.g G.T.b G.T.builtins G.T.nolimit hg hobj hints (Nat.le_trans hlen hn2) hr hF hb (fun H _ hS => hsp (K w.params) H a ns hlen hbits hS) fun _ _ _ z => z
end Tb

set_option Elab.async false
set_option linter.all false
set_option maxRecDepth 100000
set_option maxHeartbeats 3999000
namespace Tb
open PySem PySem.Calls PyProof.Rows L2
open PySem.W (Frag)
/-! ### an own error: class X(BlockError): def __init__(self, f, ..): super().__init__('..'); self.f = f; .. -/
inductive SetsOf : List Str → List Stmt → Prop
  | nil : SetsOf [] []
  | cons {f : Str} {q1 q2 q3 q4 : Pos} {fs : List Str} {l : List Stmt} : SetsOf fs l → SetsOf (f :: fs) (.Assign [.Attribute (.Name "self" q1) f q2] (.Name f q3) q4 :: l)
/-- the text of such an __init__ -/
structure ExBody (st : Stmt) (fs : List Str) : Prop where
  body : ∃ (q0 q1 q2 q3 q4 q5 : Pos) (kd : Nat) (msg : Str) (l : List Stmt), defBody st = .Expr (.Call (.Attribute (.Call (.Name "super" q0) [] [] q1) "__init__" q2) [.Constant (.str msg) kd q3] [] q4) q5 :: l ∧ SetsOf fs l ∧ (q2.endLine == q4.line) = true
  kind : (defScope st).kind = .function
  co : (defScope st).isCoroutine = false
  gen : (defScope st).isGenerator = false
  ks : (defScope st).names.lookup ("super" : Str) = some .globalImplicit
  kc : (defScope st).names.lookup ("__class__" : Str) = some .free
  kself : (defScope st).names.lookup ("self" : Str) = some .local
  kf : ∀ f ∈ fs, (defScope st).names.lookup f = some .local
  nocell : ∀ y ∈ (defScope st).names, y.2 ≠ .cell
  head : ∃ ar : Arg, ((defArgs st).posonlyargs ++ (defArgs st).args).head? = some ar ∧ ar.arg = "self"
  nd : (("self" : Str) :: fs).Nodup
  nb : ∀ f ∈ fs, (f == ("__debug__" : Str)) = false
/-- what the top has left of the class, at C, and of its __init__, at fI -/
structure ExCls (P : Program) (K : Frag) (C fI : Addr) (qual : Str) (st : Stmt) (fs : List Str) (fd : FuncData) : Prop where
  oex : OexC K C
  iC : PySem.W.findIn K (.ref C) "__init__" = some (some (.ref fI))
  tI : PySem.W.typeIn K (.ref fI) = some (.type "function")
  fn : ∃ (oc : Value) (od : Option Addr) (kV doc pm : Value) (an : Option Addr) (cda : Addr) (ct : Value) (cc : Addr) (osl : Array (Option Value)), fd = PySem.W.ksFn "__init__" qual (defArgs st) (defBody st) (defScope st) .none kV doc pm an (.ref cda) ct cc ∧
    K.lookup fI = some ⟨oc, od, .func fd, osl⟩ ∧ PySem.W.codeIn K (.ref cda) qual = true ∧
    (∃ (cl : Value) (cld : Option Addr) (csl : Array (Option Value)), K.lookup cc = some ⟨cl, cld, .cell (some (.ref C)), csl⟩) ∧
    ∃ (cl : Value) (cld : Option Addr) (vs : Array Value) (csl : Array (Option Value)) (file : Str) (tf : Tok), K.lookup cda = some ⟨cl, cld, .fields vs, csl⟩ ∧ vs[2]? = some (.str file tf) ∧ ((P.main.file : Str) == file) = true
  sup : PySem.W.ks_superIn K C C "__init__" = some (some (.builtin "ValueError.__init__"))
  opq : PySem.W.nsIn K cStatics "thirdparty.any" = some none
  mine : PySem.W.mroIn K C (.ref C) = some true
  isV : PySem.W.subIn K (.ref C) (.type "ValueError") = some true
  no : ∀ f ∈ fs, PySem.W.findIn K (.ref C) f = some none
  top : (P.main.scope.names.lookup ("super" : Str)).isSome = false
  txt : ExBody st fs
section
variable {P : Program} {w : World} {A : Around} {E : Value → Shared → Prop} {R : Result → Shared → Prop} {K : Frag} {C fI : Addr} {qual : Str} {st : Stmt} {fs : List Str} {fd : FuncData}
/-- the built-in __init__, bound, is called -/
theorem bound_init {h : Heap} {g : Array GenState} {d : Drawn} {t : Nat} {os : OsState} {u x t0 : Addr} {rest : List Value} {Q : Value → Shared → Prop} (T : OexC K C) (X : K.In h) (hu : h.get? u = some (PySem.W.kxs_mw "ValueError.__init__" x)) (hx : h.get? x = some (HandSPX.excO C t0)) (hz : rest.length ≤ sizeLine)
    (hq : ∀ h' t1, (∀ b o, b ≠ x → h.get? b = some o → h'.get? b = some o) → h'.get? x = some (HandSPX.excO C t1) → Q .none ⟨h', g, d, t, os⟩) : wpAny (model P w) A (call (.ref u) rest) Q E ⟨h, g, d, t, os⟩ := by
  obtain ⟨nam, q, N, bs, bm, sn, sub, ab, col, dd, k0, k1, k2, k3, k5, hC, hbm⟩ := T.cls
  have FB := F.excBase_ValueError
  refine wpAny_call (codeAny_of_tree (?_ : wpAny _ A.in1 (callAny (.ref u) ⟨rest, []⟩) _ _ _))
  simp only [callAny]; refine wpAny_bind (wpAny_load hu ?_)
  simp only [PySem.W.kxs_mw, show (Value.type "method-wrapper" == Value.type "method" || Value.type "method-wrapper" == Value.type "builtin_function_or_method" || Value.type "method-wrapper" == Value.type "method-wrapper") = true by decide, if_true]
  refine PySem.W.KFB.if_so (by decide) (wpAny_bind (PySem.W.check_bound_init FB.toExcCallFacts (X _ _ hC) hx rfl (wpAny_bind (wpAny_pure (wpAny_pure ?_)))))
  exact ⟨plainId_quiet FB.init.plain _, codeAny_builtin FB.initEntry (PySem.W.exc_init_tree (cls := .ref C) (t0 := t0) (dv := none) (c2 := .none) (c3 := .none) (b4 := .bool false) hx hz fun h' k e _ => hq h' _ k e)⟩
/-- what the fields' dict says: the later one stands first -/
def RelD (ps : List (Str × Value)) (m : Str → Option Value) : Prop := ∀ y, m y = ps.lookup y
theorem look_cons (f y : Str) (v : Value) (ps : List (Str × Value)) : ((f, v) :: ps).lookup y = if y = f then some v else ps.lookup y := by
  rw [List.lookup_cons]
  by_cases h : y = f
  · subst h; simp
  · have e : (y == f) = false := by simpa using h
    rw [e, if_neg h]
theorem within_rel {ps : List (Str × Value)} {m : Str → Option Value} (r : RelD ps m) : Within m (ps.map (·.1)) := fun y hy => by
  rw [r y] at hy
  cases e : ps.lookup y with
  | none => exact absurd e hy
  | some v => exact List.mem_map.mpr ⟨(y, v), PySem.mem_of_lookup e, rfl⟩
/-- the fields behind the first, set one after the other -/
theorem ex_more {env : Env} {loc : Str → Option Value} (T : OexC K C) (hk : env.scope.kind = .function) (hself : env.kindOf "self" = some .local) {x dx t1 : Addr} (hv : loc "self" = some (.ref x)) : ∀ {gs : List Str} {l : List Stmt}, SetsOf gs l → ∀ {us : List Value} {ps : List (Str × Value)} {m0 : Str → Option Value} {s : Shared} {Q : Flow → Shared → Prop},
    us.length = gs.length → (∀ f ∈ gs, env.kindOf f = some .local ∧ (f == ("__debug__" : Str)) = false ∧ PySem.W.findIn K (.ref C) f = some none) → (∀ (j : Nat) f, gs[j]? = some f → loc f = us[j]?) → (ps.length + gs.length ≤ 900) →
    K.In s.heap → s.heap.Ns env.locals loc → s.heap.get? x = some { cls := .ref C, dict := some dx, data := .fields #[.ref t1, .none, .none, .none, .bool false, .none] } → s.heap.Ns1 dx m0 → RelD ps m0 → K.lookup dx = none → dx ≠ env.locals → dx ≠ x →
    (∀ h' tk m1, (∀ b o, b ≠ dx → s.heap.get? b = some o → h'.get? b = some o) → h'.Ns1 dx m1 → RelD ((gs.zip us).reverse ++ ps) m1 → Q .next { s with heap := h', toks := tk }) →
    wpAny (model P w) A (execs l env) Q E s := by
  intro gs l hl
  induction hl with
  | nil =>
    intro us ps m0 s Q hu hg hloc hsz X hn hx hns hr hnd hdl hdx hq
    refine wpAny_execs_nil (hq s.heap s.toks m0 (fun _ _ _ e => e) hns ?_)
    simpa using hr
  | @cons f q1 q2 q3 q4 gs l hl ih =>
    intro us ps m0 s Q hu hg hloc hsz X hn hx hns hr hnd hdl hdx hq
    obtain ⟨u, us, rfl⟩ : ∃ u r, us = u :: r := by
      cases us with
      | nil => simp at hu
      | cons u r => exact ⟨u, r, rfl⟩
    obtain ⟨kf, kd, kn⟩ := hg f List.mem_cons_self
    obtain ⟨nam, q, N, bs, bm, sn, sub, ab, col, dd, k0, k1, k2, k3, k5, hC, hbm⟩ := T.cls
    have hcl : PySem.W.clsIn K C = some { name := nam, bases := bs, mro := .ref C :: bm, ns := N, qualname := q, hasDict := true, slotNames := sn, subclasses := sub, abstract := ab, collection := col, hasDel := false } := by unfold PySem.W.clsIn; rw [hC] <;> rfl
    have lf : loc f = some u := hloc 0 f rfl
    obtain ⟨oD, _, _, hoD, _, _⟩ := hns.count (within_rel hr)
    have sz : (ps.map (·.1)).length ≤ 1000 := by
      rw [List.length_map]
      simp only [List.length_cons] at hsz
      omega
    refine wpAny_execs_cons (plainObj_wpAny_Assign_Attribute (wpAny_Name (wpAny_loadName_local hk kf hn lf (wpAny_Name (wpAny_loadName_local hk hself hn hv ?_) (by decide))) kd))
    obtain ⟨hp, g, d, t, os⟩ := s
    refine PySem.W.set_plain X (ox := { cls := .ref C, dict := some dx, data := .fields #[.ref t1, .none, .none, .none, .bool false, .none] }) (od := some oD) ⟨hx, rfl, rfl, hoD⟩ T.sa ?_
    refine PySem.OEX.osa_old X hx hns (within_rel hr) sz hcl (show HandSPX.refsVE (.ref C :: bm) = true from hbm) rfl kn fun h' tk' k hn' => ?_
    show wpAny (model P w) _ (execs _ _) _ _ _
    have kin : K.In h' := fun a o e => k a o (fun z => by rw [z, hnd] at e; cases e) (X a o e)
    have hn2 : h'.Ns env.locals loc := by
      obtain ⟨o, es, ep, e1, e2⟩ := hn
      exact ⟨o, es, ep, k _ _ hdl.symm e1, e2⟩
    refine ih (us := us) (ps := (f, u) :: ps) (by simpa using hu) (fun f' hf => hg f' (List.mem_cons_of_mem _ hf)) (fun j f' e => hloc (j + 1) f' e) (by simp only [List.length_cons] at hsz ⊢; omega) kin hn2 (k _ _ hdx.symm hx) hn' (fun y => ?_) hnd hdl hdx fun h2 tk2 m1 k2 n2 r2 => ?_
    · rw [look_cons]
      by_cases e : y = f
      · simp [e]
      · simp only [if_neg e]; exact hr y
    · refine hq h2 tk2 m1 (fun b o hb e => k2 b o hb (k b o hb e)) n2 ?_
      rw [List.zip_cons_cons, List.reverse_cons, List.append_assoc]
      exact r2
end
end Tb

set_option Elab.async false
set_option linter.all false
set_option maxRecDepth 100000
set_option maxHeartbeats 3999000
namespace Tb
open PySem PySem.Calls PyProof.Rows L2
open PySem.W (Frag)
theorem look_rev : ∀ {ps : List Str} {us : List Value} {j : Nat} {p : Str}, ps.Nodup → us.length = ps.length → ps[j]? = some p → (ps.zip us).reverse.lookup p = us[j]?
  | [], _, _, _, _, _, h => by simp at h
  | p0 :: ps, [], _, _, _, h, _ => by simp at h
  | p0 :: ps, u0 :: us, 0, p, hn, hl, h => by
    have e : p0 = p := by simpa using h
    subst e
    obtain ⟨g1, g2⟩ := List.nodup_cons.mp hn
    rw [List.zip_cons_cons, List.reverse_cons, List.lookup_append]
    have e1 : (ps.zip us).reverse.lookup p0 = none := by
      cases e : (ps.zip us).reverse.lookup p0 with
      | none => rfl
      | some v =>
        have hm := List.mem_reverse.mp (PySem.mem_of_lookup e)
        exact absurd (List.of_mem_zip hm).1 g1
    rw [e1]
    simp [List.lookup]
  | p0 :: ps, u0 :: us, j + 1, p, hn, hl, h => by
    obtain ⟨g1, g2⟩ := List.nodup_cons.mp hn
    have ih := look_rev (ps := ps) (us := us) (j := j) (p := p) g2 (by simpa using hl) (by simpa using h)
    rw [List.zip_cons_cons, List.reverse_cons, List.lookup_append, ih]
    have hj : j < us.length := by
      have := (List.getElem?_eq_some_iff.mp (by simpa using h : ps[j]? = some p)).1
      simp at hl
      omega
    simp [List.getElem?_eq_getElem hj]
theorem sup_line {q0 q1 q2 q3 q4 : Pos} {kd : Nat} {msg : Str} {env : Env} (hl : (q2.endLine == q4.line) = true) : eval (.Call (.Attribute (.Call (.Name "super" q0) [] [] q1) "__init__" q2) [.Constant (.str msg) kd q3] [] q4) env = (do
      let ov ← attributeBase (.Call (.Name "super" q0) [] [] q1) "__init__" env (eval (.Call (.Name "super" q0) [] [] q1) env)
      standAt q2.atName
      let (f, first) ← holding [ov] (getMethod ov "__init__" (plainOf (.Call (.Name "super" q0) [] [] q1) env))
      callWith q4 f first (backTo q4 (starEach [.Constant (.str msg) kd q3] env)) []) := by
  have e : ∀ ov, methodCall (.Call (.Name "super" q0) [] [] q1) "__init__" q2 q4 env ov 1 (backTo q4 (starEach [.Constant (.str msg) kd q3] env)) [] = _ := fun ov => mcall_line rfl hl
  rw [arm_eval_Call]
  show (do
    let ov ← attributeBase (.Call (.Name "super" q0) [] [] q1) "__init__" env (eval (.Call (.Name "super" q0) [] [] q1) env)
    standAt q2.atName
    methodCall (.Call (.Name "super" q0) [] [] q1) "__init__" q2 q4 env ov 1 (backTo q4 (starEach [.Constant (.str msg) kd q3] env)) []) = _
  simp only [e]
section
variable {P : Program} {w : World} {A : Around} {R : Result → Shared → Prop} {K : Frag} {C fI : Addr} {qual : Str} {st : Stmt} {fs : List Str} {fd : FuncData} {mg mb : Str → Option Value} {s : Shared}
/-- such an __init__, called upon a fresh error at x -/
theorem ex_init (T : ExCls P K C fI qual st fs fd) {x t0 : Addr} {us : List Value} {args : Args} (X : K.In s.heap) (hlim : s.heap.NoLimit) (hG : s.heap.Ns mainGlobals mg) (hm : mg "super" = none) (hB : s.heap.Ns builtinsNs mb) (hbb : mb "super" = some (.type "super"))
    (hx : s.heap.get? x = some (HandSPX.excO C t0)) (hnx : K.lookup x = none) (hroom : A.depth < recursionLimit) (hne : fs ≠ []) (hus : us.length = fs.length) (hf9 : fs.length ≤ 900) (hb : BindsTo s fd args ((("self" : Str) :: fs).zip (.ref x :: us)))
    (hq : ∀ h' tk t1 dx m1, (∀ b o, b ≠ x → s.heap.get? b = some o → h'.get? b = some o) → h'.get? x = some { cls := .ref C, dict := some dx, data := .fields #[.ref t1, .none, .none, .none, .bool false, .none] } → s.heap.objs.size ≤ dx → dx ≠ x →
      h'.Ns1 dx m1 → RelD (fs.zip us).reverse m1 → R (.ok (.ret .none)) { s with heap := h', toks := tk }) : codeAny (model P w) A (.call (.ref fI) args) R s := by
  obtain ⟨oc, od, kV, doc, pm, an, cda, ct, cc, osl, rfl, lk, hcd, ⟨cl, cld, csl, hcell⟩, cl2, cld2, vs, csl2, file, tf, hcode, hvs, hfile⟩ := T.fn
  obtain ⟨nm, q, N, bs, bm, sn, sub, ab, col, dd, k0, k1, k2, k3, k5, hC, hbm⟩ := T.oex.cls
  have hcl : PySem.W.clsIn K C = some { name := nm, bases := bs, mro := .ref C :: bm, ns := N, qualname := q, hasDict := true, slotNames := sn, subclasses := sub, abstract := ab, collection := col, hasDel := false } := by unfold PySem.W.clsIn; rw [hC] <;> rfl
  obtain ⟨q0, q1, q2, q3, q4, q5, kd, msg, l, ebody, hsets, hline⟩ := T.txt.body
  obtain ⟨ar, har, hars⟩ := T.txt.head
  have hk := T.txt.kind
  have hxs : x < s.heap.objs.size := Heap.lt_size hx
  refine PySem.ks_codeAny_call_defAt (fd := PySem.W.ksFn "__init__" qual (defArgs st) (defBody st) (defScope st) .none kV doc pm an (.ref cda) ct cc) (body := defBody st) (binds := (("self" : Str) :: fs).zip (.ref x :: us)) hroom (X _ _ lk) rfl hlim (PySem.W.codeRec_of X hcd) rfl hb T.txt.nocell (fun y hy => ?_) (fun h₁ hns kept => ?_) T.txt.co T.txt.gen T.txt.kind
  · rcases List.mem_cons.mp (List.of_mem_zip (show (y.1, y.2) ∈ _ from hy)).1 with e | e
    · rw [e]; exact T.txt.kself
    · exact T.txt.kf _ e
  have nd := T.txt.nd
  have hlen : (Value.ref x :: us).length = (("self" : Str) :: fs).length := by simp [hus]
  have vself : ((("self" : Str) :: fs).zip (.ref x :: us)).reverse.lookup ("self" : Str) = some (.ref x) := look_rev (j := 0) nd hlen rfl
  have X1 : K.In h₁ := X.keeps kept
  have hx1 := kept _ _ hx
  rw [ebody]
  refine PySem.ks_wpAt_execs_cons (PySem.ks_wpAt_Expr_any (PySem.ks_wpAt_MethodCall (PySem.ks_wpAt_super_base (f := fI) (cc := cda) T.txt.ks T.txt.kc (by decide) rfl (X1 _ _ lk) rfl har rfl (X1 _ _ hcode) rfl hvs hfile T.top ?_) (sup_line hline)) (by show ((defScope st).kind == .module && _) = false; rw [hk]; rfl) (by rfl))
  refine PySem.W.ks_loadName_global hk T.txt.ks (loadGlobal_builtin (hG.keeps kept) hm (hB.keeps kept) hbb ⟨rfl, ?_⟩)
  refine wpAny_loadName_free (c := cc) hk T.txt.kc rfl ⟨_, X1 _ _ hcell, rfl⟩ ?_
  rw [hars]
  refine wpAny_loadName_local hk T.txt.kself hns vself ?_
  have hCo := X1 _ _ hC
  refine PySem.ks_wpAny_isType_cls hCo rfl ⟨rfl, ?_⟩
  refine PySem.ks_wpAny_call_super hCo rfl hx1 rfl (fun c e => by cases e) (PySem.W.looks_mroIn X1 T.mine) (fun h2 e2 kp2 => ?_)
  have X2 : K.In h2 := X1.keeps kp2
  have hx2 := kp2 _ _ hx1
  have hsup := T.sup
  unfold PySem.W.ks_superIn at hsup
  rw [hcl, Option.bind_some] at hsup
  have hxC : x ≠ C := fun z => by rw [z, hC] at hnx; cases hnx
  have hI : PySem.W.Looks (model P w) h2 (isInstance (.ref x) (.type "ValueError")) true :=
    PySem.W.Looks.andThen (a := .ref C) (fun A Q E s k q => wpAny_typeOf_ref (k _ _ hx2) q) (PySem.W.looks_subIn X2 T.isV)
  refine PySem.W.kxs_getMethod PySem.W.kxs_ValueError e2 (PySem.W.looks_opaque X2 T.opq) (l₀ := .ref C :: bm) (fun A Q E s k q => wpAny_bind ((PySem.W.looks_clsIn X2 hcl) A _ E s k (wpAny_pure q))) rfl X2 hsup hI hxC (by decide) ?_
  -- the bound __init__ is called with the text
  refine PySem.W.kxs_callWith (i := "ValueError.__init__") (x := x) rfl ?_
  refine evalArgs_plain (spliced_cons (Constant_str (k := kd) (pos := q3) (x := msg) (spliced_nil ⟨?_, ?_⟩)))
  · exact Heap.get?_push_size h2 rfl
  · show wpAny _ _ (call (.ref h2.objs.size) [_]) _ _ _
    have kp3 : ∀ b o, h2.get? b = some o → (h2.push (PySem.W.kxs_mw "ValueError.__init__" x)).get? b = some o := fun _ _ e => Heap.get?_push_of_some _ e
    refine bound_init T.oex (X2.keeps kp3) (Heap.get?_push_size h2 rfl) (kp3 _ _ hx2) (by rw [sizeLine_eq]; show 1 ≤ 16777216; decide) fun h4 t4 k4 hx4 => ?_
    -- self.f = f, ..
    have up : ∀ b o, b ≠ x → h₁.get? b = some o → h4.get? b = some o := fun b o hb e => k4 b o hb (kp3 b o (kp2 b o e))
    have X4 : K.In h4 := fun b o e => k4 b o (fun z => by rw [z, hnx] at e; cases e) (kp3 b o (X2 b o e))
    have hLx : s.heap.objs.size ≠ x := Nat.ne_of_gt hxs
    have n4 : h4.Ns s.heap.objs.size (fun y => ((("self" : Str) :: fs).zip (.ref x :: us)).reverse.lookup y) := by
      obtain ⟨o, es, ep, e1, e2⟩ := hns
      exact ⟨o, es, ep, up _ _ hLx e1, e2⟩
    have loc : ∀ (j : Nat) f, fs[j]? = some f → ((("self" : Str) :: fs).zip (.ref x :: us)).reverse.lookup f = us[j]? := fun j f e => look_rev (j := j + 1) nd hlen e
    cases hsets with
    | nil => exact absurd rfl hne
    | @cons f p1 p2 p3 p4 gs l hl =>
      obtain ⟨u, us, rfl⟩ : ∃ u r, us = u :: r := by
        cases us with
        | nil => simp at hus
        | cons u r => exact ⟨u, r, rfl⟩
      have kf := T.txt.kf f List.mem_cons_self
      refine wpAt_of_wpAny ?_
      refine wpAny_execs_cons (plainObj_wpAny_Assign_Attribute (wpAny_Name (wpAny_loadName_local hk kf n4 (loc 0 f rfl) (wpAny_Name (wpAny_loadName_local hk T.txt.kself n4 vself ?_) (by decide))) (T.txt.nb f List.mem_cons_self)))
      refine PySem.W.set_plain X4 (ox := HandSPX.excO C t4) (od := none) ⟨hx4, rfl, rfl, trivial⟩ T.oex.sa ?_
      refine HandSPX.exc_osa X4 hx4 hcl (show HandSPX.refsVE (.ref C :: bm) = true from hbm) rfl (T.no f List.mem_cons_self) fun h5 tk5 dx k5 dn5 dne5 hx5 hn5 => ?_
      have s4 : s.heap.objs.size < h4.objs.size := by
        obtain ⟨o, es, ep, e1, e2⟩ := n4
        exact Heap.lt_size e1
      have hKdx : K.lookup dx = none := by
        cases e : K.lookup dx with
        | none => rfl
        | some o => exact absurd (Heap.lt_size (X4 _ _ e)) (Nat.not_lt.mpr dn5)
      have X5 : K.In h5 := fun b o e => k5 b o (fun z => by rw [z, hnx] at e; cases e) (X4 b o e)
      have n5 : h5.Ns s.heap.objs.size (fun y => ((("self" : Str) :: f :: gs).zip (.ref x :: u :: us)).reverse.lookup y) := by
        obtain ⟨o, es, ep, e1, e2⟩ := n4
        exact ⟨o, es, ep, k5 _ _ hLx e1, e2⟩
      show wpAny (model P w) _ (execs _ _) _ _ _
      refine ex_more (t1 := t4) (dx := dx) (x := x) T.oex (by exact hk) (by exact T.txt.kself) vself hl (us := us) (ps := [(f, u)]) (by simpa using hus) (fun g hg => ⟨by exact T.txt.kf g (List.mem_cons_of_mem _ hg), T.txt.nb g (List.mem_cons_of_mem _ hg), T.no g (List.mem_cons_of_mem _ hg)⟩) (fun j g e => loc (j + 1) g e) (by simp only [List.length_cons] at hf9 ⊢; simp; omega) X5 n5 hx5 hn5 (fun y => ?_) hKdx (Nat.ne_of_gt (Nat.lt_of_lt_of_le s4 dn5)) dne5 fun h6 tk6 m6 k6 hn6 hr6 => ?_
      · rw [look_cons]; rfl
      · refine hq h6 tk6 t4 dx m6 (fun b o hb e => ?_) (k6 _ _ dne5.symm hx5) (Nat.le_of_lt (Nat.lt_of_lt_of_le s4 dn5)) dne5 hn6 ?_
        · have hbs : b ≠ dx := Nat.ne_of_lt (Nat.lt_of_lt_of_le (Heap.lt_size e) (Nat.le_of_lt (Nat.lt_of_lt_of_le s4 dn5)))
          exact k6 b o hbs (k5 b o hb (up b o hb (kept b o e)))
        · rw [List.zip_cons_cons, List.reverse_cons]
          exact hr6
end
end Tb

set_option Elab.async false
set_option linter.all false
set_option maxRecDepth 100000
set_option maxHeartbeats 3999000
namespace Tb
open PySem PySem.Calls PyProof.Rows L2
open PySem.W (Frag)
/-- the promise of such an __init__ -/
def spEx (C : Addr) (fs : List Str) : Sp := fun vs H Q _ => ∃ (a : Addr) (ws : List V), vs = .ref a :: ws ∧ ws.length = fs.length ∧ H a = some (exo a C none) ∧
  ∀ dx, H dx = none → dx ≠ a → Q .non (upd (upd H dx (exd dx (fs.zip ws).reverse)) a (exo a C (some dx)))
theorem rel_rev : ∀ (fs : List Str) (ws : List V) (us : List Value), Vals ws us → ws.length = fs.length → ∀ (ps : List (Str × V)) (qs : List (Str × Value)), (∀ y, RelO (ps.lookup y) (qs.lookup y)) → ∀ y, RelO (((fs.zip ws).reverse ++ ps).lookup y) (((fs.zip us).reverse ++ qs).lookup y)
  | [], [], _, .nil, _, ps, qs, h, y => h y
  | f :: fs, w :: ws, _, .cons r rs, hl, ps, qs, h, y => by
    rename_i u us
    rw [List.zip_cons_cons, List.zip_cons_cons, List.reverse_cons, List.reverse_cons, List.append_assoc, List.append_assoc]
    refine rel_rev fs ws us rs (by simpa using hl) ((f, w) :: ps) ((f, u) :: qs) (fun z => ?_) y
    rw [lookup_put, look_cons]
    by_cases e : z = f
    · rw [if_pos e, if_pos e]; exact r
    · rw [if_neg e, if_neg e]; exact h z
section
variable {P : Program} {w : World} {K : Frag} {C fI : Addr} {qual : Str} {st : Stmt} {fs : List Str} {fd : FuncData} {mg : Str → Option Value} {base : Heap} {CX : CXT}
theorem ok_ex (T : ExCls P K C fI qual st fs fd) (hne : fs ≠ []) (hf9 : fs.length ≤ 900) (hm : mg "super" = none) : FnOk P w K mg base CX 1 fI fd ("self" :: fs) (spEx C fs) := by
  refine ⟨fun vs H Q E ⟨a, ws, e, hl, _⟩ => by rw [e, List.length_cons, List.length_cons, hl], fun A outer s H args us vs Q E hr e0 hb rv h => ?_⟩
  obtain ⟨a, ws, rfl, hl, ea, q⟩ := h
  cases rv with
  | @cons _ u0 _ us r0 rv =>
    obtain rfl : u0 = .ref a := r0
    obtain ⟨t0, hx⟩ := exo_at e0.hok ea
    have bk : ∀ b o, base.get? b = some o → s.heap.get? b = some o := fun b o z => (e0.bs b o z).1
    have X : K.In s.heap := fun b o z => bk b o (e0.mod.kin b o z)
    obtain ⟨mb, hB, hbb⟩ := e0.mod.blt
    have hnx : K.lookup a = none := by
      cases z : K.lookup a with
      | none => rfl
      | some o => exact absurd ((e0.bs a o (e0.mod.kin a o z)).2.symm.trans ea) (by intro y; cases y)
    have hus : us.length = fs.length := by rw [← Paired.length rv]; exact hl
    refine ex_init T (x := a) (t0 := t0) (us := us) X (e0.mod.nolimit.keeps bk) (e0.mod.glob.keeps bk) hm (hB.keeps bk) ((hbb "super" (by decide)).trans (by decide +kernel)) hx hnx (by have := hr.dp; omega) hne hus hf9 hb fun h' tk t1 dx m1 k hx' dn dne hn1 r1 => ?_
    have hnd : H dx = none := e0.hok.fresh dn
    have nd : ∀ {b : Addr} {o : Obj}, s.heap.get? b = some o → b ≠ dx := fun {b o} q => Nat.ne_of_lt (Nat.lt_of_lt_of_le (Heap.lt_size q) dn)
    have na : ∀ {b : Addr}, H b = none → b ≠ a := fun {b} n z => by rw [z, ea] at n; cases n
    refine ⟨.non, upd (upd H dx (exd dx (fs.zip ws).reverse)) a (exo a C (some dx)), rfl, e0.bare, ?_, ?_, rfl, q dx hnd dne⟩
    · exact {
        keep := fun b o z n _ _ => k b o (na n) z
        slot := fun b o z n _ _ => ⟨o.slots, k b o (na n) z⟩
        free := fun b o z n _ => by rw [upd_ne (na n), upd_ne (nd z)]; exact n
        there := fun b o z _ => by
          by_cases hb : b = a
          · exact ⟨_, by rw [hb]; exact hx'⟩
          · exact ⟨o, k b o hb z⟩
        tups := fun b xs z => by rw [upd_ne (at_ne ea z exo_tup), upd_ne (ne_of_none z hnd)]; exact z
        frzs := fun b o v z => by rw [upd_ne (at_ne ea z exo_frz), upd_ne (ne_of_none z hnd)]; exact z
        tbls := fun b ps z => ⟨#[], by rw [upd_ne (at_ne ea z exo_tbl), upd_ne (ne_of_none z hnd), z]; simp⟩ }
    · intro b o z
      by_cases hb : b = a
      · subst hb
        rw [upd_same] at z
        cases z
        exact exo_ok hx'
      · rw [upd_ne hb] at z
        by_cases hd : b = dx
        · subst hd
          rw [upd_same] at z
          cases z
          refine exd_ok hn1 fun f => ?_
          rw [r1 f]
          have := rel_rev fs ws us rv hl [] [] (fun _ => True.intro) f
          rwa [List.append_nil, List.append_nil] at this
        · rw [upd_ne hd] at z
          exact (e0.hok b o z).stay (fun c v hc y => k c v (by
              rcases hc with hc | hc
              · rw [hc]; exact hb
              · exact at_ne ea hc exo_own) y)
            (fun c hc => by rw [upd_ne (at_ne ea hc exo_own), upd_ne (ne_of_none hc hnd)]; exact hc) (fun c xs hc => by rw [upd_ne (at_ne ea hc exo_tup), upd_ne (ne_of_none hc hnd)]; exact hc)
end
/-- an own error under its global name -/
structure HasX (P : Program) (K : Frag) (mg : Str → Option Value) (x : Str) (C : Addr) (fs : List Str) : Prop where
  ex : ∃ (fI : Addr) (qual : Str) (st : Stmt) (fd : FuncData), ExCls P K C fI qual st fs fd ∧ Binds K fd ("self" :: fs) []
  at_ : mg x = some (.ref C)
  sup : mg "super" = none
  ne : fs ≠ []
  few : fs.length ≤ 900
/-- C(e, ..), to be raised -/
def tMkX (C : Addr) (fs : List Str) (ta : TA) : L2.St → Hp → XK → Prop := fun σ H Q => ta σ H fun vs H1 => vs.length = fs.length ∧ ∀ d, H1 d = none → Q (.ref C) (some d) (upd H1 d (.xd (fs.zip vs).reverse))
theorem del_upd2 {H : Hp} {a d : Addr} {o u u' : HO} (hn : H a = none) (hd : d ≠ a) {v : HO} : upd (del (upd (upd (upd H a o) d u) a v) a) d u' = upd H d u' := by
  funext b
  by_cases h1 : b = d
  · rw [h1, upd_same, upd_same]
  · rw [upd_ne h1, upd_ne h1]
    by_cases h2 : b = a
    · rw [h2, del_same, hn]
    · rw [del_ne h2, upd_ne h2, upd_ne h1, upd_ne h2]
section
variable {X : Cx} {x : Str} {C : Addr} {fs : List Str} {e : Expr} {es : List Expr} {ta : TA} {p pos : Pos}
theorem pmk_x (h : HasX X.prog X.K X.mg x C fs) (hr : Room 2 X.A) (hg : Gl X x) (ha : PA X (e :: es) ta)
    (d1 : (x == ("__debug__" : Str)) = false := by decide) (d2 : starEach (e :: es) X.env = (false, eval e X.env) :: starEach es X.env := by rfl) (d3 : (backTo pos (starEach es X.env)).any (·.1) = false := by rfl) :
    PMk X (.Call (.Name x p) (e :: es) [] pos) (tMkX C fs ta) := by
  obtain ⟨fI, qual, st, fd, T, hb⟩ := h.ex
  have ha' : PA X (e :: es) (fun σ H Q => ∃ Q0 : List V → Hp → Prop, ta σ H Q0 ∧ ∀ vs H1, Q0 vs H1 → Q vs H1) :=
    ⟨fun q pins s σ H Q I ⟨Q0, h0, up⟩ => thn (ha.run q pins s σ H _ I h0) fun us s1 ⟨vs, H1, I1, r1, z⟩ => ⟨vs, H1, I1, r1, up _ _ z⟩⟩
  have r := pmk_oex (x := x) (p := p) (pos := pos) (CX := fun _ _ _ _ _ _ => False) T.oex T.iC T.tI (ok_ex T h.ne h.few h.sup) hr hb .nil (fun _ _ _ _ _ _ _ z => z.elim) hg h.at_ ha' d1 d2 d3
  intro pins s σ H Q I q
  refine r pins s σ H Q I ⟨_, q, fun vs H1 z => ?_⟩
  obtain ⟨hl, z⟩ := z
  refine ⟨by rw [hl]; exact Nat.le_trans h.few (by decide), fun a hn => ⟨a, vs, by rw [List.append_nil], hl, upd_same, fun dx hdx dne => ⟨rfl, dx, (fs.zip vs).reverse, upd_same, ?_, ?_, ?_⟩⟩⟩
  · rw [upd_ne dne, upd_same]
  · rw [upd_ne dne] at hdx; exact hdx
  · rw [del_upd2 hn dne]
    rw [upd_ne dne] at hdx
    exact z dx hdx
end
end Tb

set_option Elab.async false
set_option linter.all false
set_option maxRecDepth 100000
set_option maxHeartbeats 3999000
namespace Tb
open PySem PySem.Calls PyProof.Rows L2
open PySem.W (Frag)
/-! ### several clauses, each with a name: except C as n: .. -/
/-- a clause: its class, its name's slot, its suite's reading -/
structure Cl where
  c : Value
  i : Nat
  ts : Addr → Value → Option Addr → TS
def endsOf (i : Nat) (D : Ends) : Ends := { nx := fun σ H => D.nx (σ.set i none) H, rt := D.rt, bk := fun σ H => D.bk (σ.set i none) H, ct := fun σ H => D.ct (σ.set i none) H }
/-- what the clauses want of an error of the body -/
def wCls (K : Frag) (Wo : WX) (D : Ends) : List Cl → WX
  | [] => Wo
  | z :: zs => fun k d σ H => ∃ b, PySem.W.exmOne K k z.c = some b ∧ (b = true → ∀ a, H a = none → z.ts a k d (endsOf z.i D) (σ.set z.i (some (.ref a))) H) ∧ (b = false → wCls K Wo D zs k d σ H)
inductive ClsOk (X : Cx) : List ExceptHandler → List Cl → Prop
  | nil : ClsOk X [] []
  | cons {x n : Str} {z : Cl} {s1 : Stmt} {su : List Stmt} {p1 p2 : Pos} {hs : List ExceptHandler} {zs : List Cl} (hc : Names X x z.c) (hi : X.N[z.i]? = some n) (hl : X.env.kindOf n = some .local)
      (hsu : ∀ (a : Addr) (oe : Obj) (k : Value) (d : Option Addr) (pn : List (Addr × Obj)), Zc k d oe → (∃ vs, oe.data = .fields vs) → PSs (X.suite a ((a, oe) :: pn)) (s1 :: su) (z.ts a k d)) (r : ClsOk X hs zs) :
      ClsOk X (.ExceptHandler (some (.Name x p1)) (some n) (s1 :: su) p2 :: hs) (z :: zs)
/-- an error that has landed in the frame -/
structure Landed (X : Cx) (pins : List (Addr × Obj)) (σ : L2.St) (H : Hp) (a : Addr) (k : Value) (d : Option Addr) (B : Heap) (sI s : Shared) : Prop where
  inv0 : Inv X pins σ H sI
  nb : ∀ b o, sI.heap.get? b = some o → b ∉ frs X.stack → B.get? b = some o
  up : sI.heap.UpToSlots s.heap
  fl : HandSPX.FlyingZ B (X.env :: X.outer) a (Zc k d) s.heap
  os : s.os = sI.os
  ag : AllBare s.gens
  na : H a = none
section
variable {X : Cx} {pins : List (Addr × Obj)} {σ : L2.St} {H : Hp} {a : Addr} {k : Value} {d : Option Addr} {B : Heap} {sI s : Shared} {Wo : WX} {D : Ends}
theorem Landed.inv (h : Landed X pins σ H a k d B sI s) : Inv X pins σ H s := h.inv0.landed h.nb h.fl.1 h.up h.os h.ag
theorem Landed.out (h : Landed X pins σ H a k d B sI s) (hf : X.env.frame = some X.env.locals) : a ≠ X.env.locals ∧ a ∉ X.fs := by
  obtain ⟨oe, vs, e1, _, e2⟩ := h.fl.there
  have no : a ∉ frs (X.env :: X.outer) := fun hm => by
    obtain ⟨_, o', e3, e4⟩ := h.fl.2.2.1.mem hm
    exact e4 _ ((Option.some.inj (e1.symm.trans e3)) ▸ e2)
  refine ⟨fun z => no (List.mem_filterMap.mpr ⟨X.env, List.mem_cons_self, by rw [hf, z]⟩), fun hm => ?_⟩
  obtain ⟨e, h1, h2⟩ := List.mem_filterMap.mp hm
  exact no (List.mem_filterMap.mpr ⟨e, List.mem_cons_of_mem _ h1, h2⟩)
theorem Landed.suite (h : Landed X pins σ H a k d B sI s) (hf : X.env.frame = some X.env.locals) : ∃ oe, Zc k d oe ∧ (∃ vs, oe.data = .fields vs) ∧ s.heap.get? a = some oe ∧ Inv (X.suite a ((a, oe) :: (X.pn ++ pins))) [] σ H s := by
  obtain ⟨oe, vs, e1, e2, e3⟩ := h.fl.there
  obtain ⟨n1, n2⟩ := h.out hf
  exact ⟨oe, e2, ⟨vs, e3⟩, e1, h.inv.suite e1 e3 h.na n1 n2⟩
/-- the name goes behind the suite -/
theorem suite_end {i : Nat} {n : Str} {pos : Pos} {q : Addr × Obj} (ok : X.Ok) (hN : X.N.Nodup) (hi : X.N[i]? = some n) (hl : X.env.kindOf n = some .local) {f : Flow} (h : SP (X.suite a (q :: (X.pn ++ pins))) [] (endsOf i D) f s) :
    wpAny (model X.prog X.w) X.A (do bindName X.env n .none; unbindBehindTheSuite X.env n pos) (fun _ s7 => SP X pins D f s7) X.xe s := by
  have key : ∀ {σ6 : L2.St} {H6 : Hp} {Q : Shared → Prop}, Inv (X.suite a (q :: (X.pn ++ pins))) [] σ6 H6 s → (∀ s7, Inv X pins (σ6.set i none) H6 s7 → Q s7) → wpAny (model X.prog X.w) X.A (do bindName X.env n .none; unbindBehindTheSuite X.env n pos) (fun _ s7 => Q s7) X.xe s :=
    fun S hq => gone_ok (S.unsuite ok) hN hi hl hq
  cases f with
  | ret u => obtain ⟨v6, σ6, H6, S, r, z⟩ := h; exact key S fun _ J => ⟨_, _, _, J, r, z⟩
  | next => obtain ⟨σ6, H6, S, z⟩ := h; exact key S fun _ J => ⟨_, _, J, z⟩
  | brk => obtain ⟨σ6, H6, S, z⟩ := h; exact key S fun _ J => ⟨_, _, J, z⟩
  | cont => obtain ⟨σ6, H6, S, z⟩ := h; exact key S fun _ J => ⟨_, _, J, z⟩
theorem handle_all (hs : X.stack = X.env :: X.outer) (hf : X.env.frame = some X.env.locals) (hN : X.N.Nodup) (tk : Takes X Wo) (L : Landed X pins σ H a k d B sI s) :
    ∀ {hds : List ExceptHandler} {zs : List Cl}, ClsOk X hds zs → wCls X.K Wo D zs k d σ H → wpAny (model X.prog X.w) X.A (handleBy (.ref a) X.env hds) (SP X pins D) X.xe s := by
  intro hds zs hk
  have ok := L.inv0.ok
  induction hk with
  | nil =>
    intro w
    refine wpAny_handleBy_nil ?_
    obtain ⟨k1, k2, k3, oe, vs, T, oT, ts', he, hz, hd, h1, hr⟩ := id L.fl
    have last : wpAny (model X.prog X.w) X.A (setFlight (.ref a) X.env.frame) (fun _ s4 => wpAny (model X.prog X.w) X.A (throw (.ref a) : Sem Flow) (SP X pins D) X.xe s4) X.xe s := by
      rw [hf]
      exact HandSPX.setFlight_upZ L.fl fun h4 hh4 up4 => wpAny_throw (tk _ _ ⟨a, B, sI, pins, σ, H, k, d, rfl, L.inv0, L.nb, L.up.trans up4, .inr (.inr (by rw [hs]; exact hh4)), L.na, L.os, L.ag, w⟩)
    unfold PySem.passOn; refine wpAny_bind (wpAny_field he hd h1 ?_); rw [if_neg (show ¬ ((Value.ref T == Value.none) = true) by simp)]
    first | exact wpAny_bind (wpAny_pure (wpAny_bind last)) | exact wpAny_bind last
  | @cons x n z s1 su p1 p2 hs2 zs2 hc hi hl hsu r ih =>
    rintro ⟨b, e1, yes, no⟩
    obtain ⟨oe, hz, hd, he, S⟩ := L.suite hf
    refine wpAny_handleBy_cons (codeAny_handlers_test ?_) (by intro y; cases y)
    have L1 : PySem.W.Looks (model X.prog X.w) s.heap (typeOf (.ref a)) k := fun A Q E s' kp q => wpAny_typeOf_ref (kp _ _ he) (by rw [hz.1]; exact q)
    have L2' := PySem.W.exm_one (M := model X.prog X.w) L.inv.kIn L1 e1
    have look : ∀ {Q : Value → Shared → Prop} {E : Value → Shared → Prop}, Q z.c s → wpAny (model X.prog X.w) (X.A.mark (some (.ref a))) (eval (.Name x p1) X.env) Q E s := fun {Q E} q => by
      obtain ⟨hg, hdb, hm | ⟨hm, hv, hn⟩⟩ := hc
      · exact ld_glob (X := X.suite a ((a, oe) :: (X.pn ++ pins))) S hg hm q hdb
      · exact ld_blt (X := X.suite a ((a, oe) :: (X.pn ++ pins))) S hg hm hv q hn hdb
    refine look (L2'.here ?_)
    cases b with
    | false => exact ih (no rfl)
    | true =>
      refine codeAny_handlers_suite_as (HandSPX.lands_againZ L.fl fun h4 fl4 up4 => ?_)
      have M : Landed X pins σ H a k d B sI { s with heap := h4 } := ⟨L.inv0, L.nb, L.up.trans up4, fl4, L.os, L.ag, L.na⟩
      obtain ⟨oe4, hz4, hd4, he4, S4⟩ := M.suite hf
      refine store_ok (X := X.suite a ((a, oe4) :: (X.pn ++ pins))) (v := .ref a) S4 hN hi (.inl hl) rfl (fun s5 S5 => ?_) (.inr hl)
      exact wpAny_mono ((hsu a oe4 k d (X.pn ++ pins) hz4 hd4).run [] s5 _ H _ S5 (yes rfl a L.na)) (fun f s6 hsp => suite_end ok hN hi hl hsp) (fun _ _ y => False.elim y)
end
section
variable {X : Cx} {body : List Stmt} {h₀ : ExceptHandler} {hds : List ExceptHandler} {zs : List Cl} {pos : Pos} {tb : WX → TS} {Wo : WX}
theorem ps_try_cls (hs : X.stack = X.env :: X.outer) (hf : X.env.frame = some X.env.locals) (hN : X.N.Nodup) (tk : Takes X Wo)
    (hb : ∀ (W : WX) (pn : List (Addr × Obj)) (xe : Value → Shared → Prop), Takes (X.tr pn xe) W → PassesOwn (model X.prog X.w) X.A X.env xe → PSs (X.tr pn xe) body (tb W)) (hh : ClsOk X (h₀ :: hds) zs) :
    PS X (.Try body (h₀ :: hds) [] [] pos) (fun D σ H => tb (wCls X.K Wo D zs) D σ H) := by
  refine ⟨fun pins s σ H D I h0 => ?_⟩
  have ok := I.ok
  have fr : X.A.frames = some (X.env :: X.outer) := by rw [ok.frames, hs]
  refine wpAny_Try_except (wpAny_mono ((hb (wCls X.K Wo D zs) (X.pn ++ pins) (fun e s₁ => wpAny (model X.prog X.w) X.A (noteFrame e X.env) (fun _ s₂ => wpAny (model X.prog X.w) X.A (setFlight e none) (fun _ s₃ => wpAny (model X.prog X.w) X.A (handleBy e X.env (h₀ :: hds)) (SP X pins D) X.xe s₃) X.xe s₂) X.xe s₁)
    (fun u s' xx => ?_) PassesOwn.looking).run [] s σ H D (I.toTry _) h0) (fun f s1 hsp => ?_) (fun e s1 he => he))
  · obtain ⟨a, B, sI, pins', σ', H', k, d, rfl, J', nb, up, sky, na, os, ag, w⟩ := xx
    have sky' : Sky B (X.env :: X.outer) a (Zc k d) X.env.locals s'.heap := by rw [← hs]; exact sky
    show wpAny (model X.prog X.w) X.A (noteFrame (.ref a) X.env) _ _ _; exact Sky.land Zc.steady fr hf sky' fun h3 fl3 up3 => handle_all (s := { s' with heap := h3 }) hs hf hN tk ⟨J'.ofTry ok, nb, up.trans up3, fl3, os, ag, na⟩ hh w
  · cases f with
    | ret u => obtain ⟨v, σ', H', J', r, q⟩ := hsp; exact ⟨v, σ', H', J'.ofTry ok, r, q⟩
    | next => obtain ⟨σ', H', J', q⟩ := hsp; exact wpAny_execs_nil ⟨σ', H', J'.ofTry ok, q⟩
    | brk => obtain ⟨σ', H', J', q⟩ := hsp; exact ⟨σ', H', J'.ofTry ok, q⟩
    | cont => obtain ⟨σ', H', J', q⟩ := hsp; exact ⟨σ', H', J'.ofTry ok, q⟩
end
end Tb

set_option Elab.async false
set_option linter.all false
set_option maxRecDepth 100000
set_option maxHeartbeats 3999000
namespace Tb
open PySem PySem.Spec PySem.Calls PyProof.Rows PySem.W L2
/-! ### isinstance of an error that has fields -/
section
variable {prog : Program} {w : World} {A : Around} {E : Value → Shared → Prop} {s : Shared} {K : Frag} {x D : Addr} {ox : Obj} {od : Option Obj}
theorem find_dataX {name : Str} {a g : Value} (h1 : (clsIn K D).isSome = true) (h2 : findIn K (.ref D) name = some (some a)) (h3 : specialIn K a "__get__" = some (some g)) (h4 : takesIn K a = some true) : findObj K D od name = some (.bind g a) := by
  obtain ⟨cd, e⟩ := Option.isSome_iff_exists.mp h1
  unfold findObj; rw [e, Option.bind_some, h2, Option.bind_some]
  simp [h3, h4]
theorem class_ofX {Q : Option Value → Shared → Prop} (T : ExcC K D) (X : K.In s.heap) (I : InstAt s.heap x ox D od) (h : Q (some (.ref D)) { s with toks := s.toks + 1 }) : wpAny (model prog w) A (getAttr? (.ref x) "__class__") Q E s := by
  have isD : (clsIn K D).isSome = true := by obtain ⟨cd, hc, _⟩ := any_some T.hd; rw [hc]; rfl
  obtain ⟨hp, g, d, t, os⟩ := s
  have l0 := I.type (M := model prog w)
  have l1 := looks_findIn (M := model prog w) X T.hg
  have l2 := looks_findIn (M := model prog w) X T.hk
  have l3 := looks_find (M := model prog w) X I (find_dataX (od := od) isD T.ha T.hn T.ht)
  have l4 : Looks (model prog w) hp (isInstance (.ref x) (.type "BaseException")) true := l0.andThen (looks_subIn X T.hs)
  have z1 : (onTheHeap (Value.ref D) && Value.builtin "BaseException.__getattribute__" == Value.builtin "object.__getattribute__") = false := by rw [show (Value.builtin "BaseException.__getattribute__" == Value.builtin "object.__getattribute__") = false by decide +kernel]; rfl
  unfold getAttr? getAttrBy? getAttrBy; refine wpAny_bind (wpAny_mkText (wpAny_bind (wpAny_attempt (wpAny_holding (wpAny_bind (l0.at (wpAny_bind (l1.at ?_))))))))
  show wpAny _ _ (if (onTheHeap (Value.ref D) && Value.builtin "BaseException.__getattribute__" == Value.builtin "object.__getattribute__") = true then _ else _) _ _ _; rw [z1]; refine if_neg (Bool.false_ne_true) ▸ ?_
  unfold getAttrByItsOwn hookBefore; refine wpAny_bind ?_; rw [if_pos (show onTheHeap (Value.ref D) = true from rfl)]
  refine l2.at (wpAny_bind (wpAny_attempt (wpAny_holding ?_)))
  unfold callGetattribute; rw [show (false && onTheHeap (Value.builtin "BaseException.__getattribute__")) = false from rfl, if_neg Bool.false_ne_true]
  unfold boundAndCalled; rw [PySem.F.excAttr_ValueError.ga.bind (.ref x)]; refine wpAny_bind (wpAny_pure ?_)
  show wpAny _ _ (call (.builtin "BaseException.__getattribute__") [.ref x, .str "__class__" t]) _ _ _; refine wpAny_call (codeAny_call_builtin PySem.F.excAttr_ValueError.ga.plain PySem.F.entry_bexc_ga (@check_slot (model prog w) _ _ ⟨hp, g, d, t + 1, os⟩ "BaseException.__getattribute__" "BaseException" "__getattribute__" (.ref x) [.str "__class__" t] [] _ (by decide +kernel) (by decide +kernel) l4 (PySem.F.args_bexc_ga (.ref x) (.str "__class__" t)) ?_))
  unfold Builtin.«object.__getattribute__»; refine wpAny_bind (wpAny_of_eq (a := ((Value.ref x : Value), [Value.str "__class__" t])) (by first | rfl | (simp only [slotArgs]; rfl)) (wpAny_bind (wpAny_pure (wpAny_bind (l0.at (wpAny_bind (l3.at ?_)))))))
  show wpAny _ _ (holding [Value.builtin "object.__class__"] (call (.builtin "getset_descriptor.__get__") [.builtin "object.__class__", .ref x, .ref D]) >>= ret) _ _ _; refine wpAny_bind (wpAny_holding (wpAny_call (class_get (s := ⟨hp, g, d, t + 1, os⟩) (ox := ox) (od := od) X I T.hm (wpAny_pure ?_))))
  show wpAny _ _ (handedOut (.ref D)) _ _ _; rw [handedOut_of (v := .ref D) rfl]
  first | exact wpAny_pure (wpAny_pure h) | exact wpAny_pure h | exact wpAny_pure (wpAny_bind (wpAny_pure (wpAny_pure h)))
theorem kitX_of (T : ExcC K D) : KitX K (.ref x) (.ref D) (fun h => InstAt h x ox D od) := by
  obtain ⟨cd, hc, _⟩ := any_some T.hd
  have at_ : ∃ c d sl, K.lookup D = some ⟨c, d, .cls cd, sl⟩ := by
    unfold clsIn at hc
    split at hc
    · rename_i c' d' cd' sl' ho
      cases hc
      exact ⟨_, _, _, ho⟩
    · cases hc
  obtain ⟨c1, d1, sl1, ho⟩ := at_
  exact {
    ty := fun _ _ _ I => I.type
    it := fun _ _ X _ A' Q' E' s' k q => by unfold isType loadHead; exact wpAny_bind (wpAny_loadPart (k _ _ (X _ _ ho)) (wpAny_pure q))
    ne := fun h tp dd its n sl X htp => Bool.eq_false_iff.mpr fun q => by
      have eD : D = tp := Value.ref.inj (beq_iff_eq.mp q)
      subst eD
      exact nomatch (X _ _ ho).symm.trans htp
    ca := fun X I k => class_ofX T X I k }
end
/-- isinstance(e, c), e the error that is pinned: cls its class, d its dict -/
def rIsX (K : Frag) (a : Addr) (cls : Value) (d : Option Addr) : List V → Hp → VK → Prop := fun xs H Q => ∃ (D dd : Addr) (c : V) (cv : Value) (b : Bool) (fs : List (Str × V)), xs = [.ref a, c] ∧ cls = .ref D ∧ d = some dd ∧ ExcC K D ∧ (∀ u, RelV c u → u = cv) ∧ H dd = some (.xd fs) ∧ kitOne K (.ref D) cv = some b ∧ Q (.bl b) H
theorem call_isX {X : Cx} {K : Frag} {a : Addr} {oe : Obj} {cls : Value} {d : Option Addr} (hK : X.K = K) (hp : (a, oe) ∈ X.pn) (hz : Zc cls d oe) (hf : ∃ vs, oe.data = .fields vs) : CallR X (.builtin "isinstance") (rIsX K a cls d) := by
  subst hK
  intro pn s σ H xs us Q I r h
  obtain ⟨D, dd, c, cv, b, fs, rfl, rfl, rfl, C, hcv, hdd, e, q⟩ := h
  obtain ⟨u1, u2, rfl, r1, r2⟩ : ∃ u1 u2, us = [u1, u2] ∧ RelV (.ref a) u1 ∧ RelV c u2 := by
    cases r with
    | cons r1 rr =>
      cases rr with
      | cons r2 rr => cases rr; exact ⟨_, _, rfl, r1, r2⟩
  obtain rfl : u1 = Value.ref a := r1
  obtain rfl := hcv _ r2
  have g1 := (I.pin (a, oe) (List.mem_append.mpr (.inl hp))).1
  have hx : ObjOk X.prog X.w H s.heap dd (.xd fs) := I.hok dd _ hdd
  obtain ⟨mA, ⟨od, es, ep, ho, _⟩, _⟩ := hx
  obtain ⟨vs, hv⟩ := hf
  have J : InstAt s.heap a oe D (some od) := ⟨g1, hz.1, by unfold notCls; rw [hv] <;> rfl, by rw [hz.2]; exact ho⟩
  exact kia_one (kitX_of C) I.kIn J e (fun z => nomatch z) fun tk => ⟨.bl b, H, I.kept (t' := tk) fun _ _ z => z, rfl, q⟩
end Tb

set_option Elab.async false
set_option linter.all false
set_option maxRecDepth 100000
set_option maxHeartbeats 3999000
namespace Tb
open PySem PySem.Spec PySem.Calls PyProof.Rows PySem.W L2
open L2H (RoomH PinOk cxH inv_startH)
/-! ### a def that is called within an except suite with the error that is held there: its promise may speak of the error's object -/
structure FnP (P : Program) (w : World) (K : Frag) (mg : Str → Option Value) (base : Heap) (k : Nat) (f : Addr) (fd : FuncData) (ps : List Str) (sp : Addr → Value → Option Addr → Sp) : Prop where
  len : ∀ a c d vs H Q E, sp a c d vs H Q E → vs.length = ps.length
  run : ∀ (a : Addr) (oe : Obj) (c : Value) (d : Option Addr) (A : Around) (l : List Env) (s : Shared) (H : Hp) (args : Args) (us : List Value) (vs : List V) (Q : VK) (E : XK), RoomH k A → Zc c d oe → (∃ vs, oe.data = .fields vs) → PinOk l H s (a, oe) → Env0 P w K mg base A l s H → BindsTo s fd args (ps.zip us) → Vals vs us → sp a c d vs H Q E → codeAny (model P w) A (.call (.ref f) args) (CR CX0 l P w H s Q E) s
theorem fnP_of {P : Program} {w : World} {K : Frag} {mg : Str → Option Value} {base : Heap} {k : Nat} {f : Addr} {fd : FuncData} {x qual : Str} {st : Stmt} {N ps : List Str} {sp : Addr → Value → Option Addr → Sp} (F : Fun K x qual st f fd) (S : FnScope N ps (defScope st)) (len : ∀ a c d vs H Q E, sp a c d vs H Q E → vs.length = ps.length)
    (walk : ∀ (cdv : Value) (A : Around) (l : List Env) (s : Shared) (H : Hp) (vs : List V) (Q : VK) (E : XK) (a : Addr) (oe : Obj) (c : Value) (d : Option Addr), Zc c d oe → (∃ vs, oe.data = .fields vs) → RoomH k (A.deeper (envOfC qual (defScope st) s.heap.objs.size f cdv)) → sp a c d vs H Q E →
      ∃ t, PSs (cxH CX0 P w K mg base N qual (defScope st) f cdv A l s H E (a, oe)) (defBody st) t ∧ t { nx := fun _ H' => Q .non H', rt := Q } (L2.start N vs) H) : FnP P w K mg base (k + 1) f fd ps sp := by
  obtain ⟨o1, d1, kV, doc, pm, an, cdv, ct, osl, rfl, lk, hcd⟩ := F.ex
  refine ⟨len, fun a oe c d A l s H args us vs Q E hr hz hf hpin e0 hb r h => ?_⟩
  have up : ∀ b o, base.get? b = some o → s.heap.get? b = some o := fun b o e => (e0.bs b o e).1
  have KX : K.In s.heap := e0.mod.kin.keeps up
  have kinds : ∀ y ∈ ps.zip us, (defScope st).names.lookup y.1 = some .local ∨ ((defScope st).names.lookup y.1 = some .cell ∧ ((cellsFrom (s.heap.objs.size + 1) (defScope st).names []).lookup y.1).isSome = true) := fun ⟨n, v⟩ hy => by
    rcases S.par n (List.of_mem_zip hy).1 with c | c
    · exact .inl c
    · exact .inr ⟨c, cellsFrom_some _ _ _ (.inl c)⟩
  refine codeAny_call_function hr.depth (KX _ _ lk) rfl S.co S.gen rfl (codeRec_of KX hcd) (hb _ _ _ _ (wpAny_newFunctionEnv_cells S.kind kinds fun env he s1 x => ?_))
  subst he
  obtain ⟨t, ht, hq⟩ := walk cdv A l s H vs Q E a oe c d hz hf (hr.deeper _) h
  have I := inv_startH (CX := CX0) (P := P) (w := w) (mg := mg) (base := base) (A := A) (H := H) (E := E) S hpin e0 (len _ _ _ _ _ _ _ h) r x
  refine ⟨(e0.mod.nolimit.keeps up).keeps x.toInCall.keep, codeAny_func (wpAny_mono (ht.run [] s1 (L2.start N vs) H _ I hq) (fun fl s' hs => ?_) fun e s' z => z)⟩
  cases fl with
  | ret u => obtain ⟨v, σ', H', J, rv, q⟩ := hs; exact ⟨v, H', J.os, J.bare, J.base, J.hok, rv, q⟩
  | next => obtain ⟨σ', H', J, q⟩ := hs; exact ⟨V.non, H', J.os, J.bare, J.base, J.hok, rfl, q⟩
  | brk => obtain ⟨_, _, _, q⟩ := hs; exact q.elim
  | cont => obtain ⟨_, _, _, q⟩ := hs; exact q.elim
theorem roomS {A : Around} {v : Option Value} {j k : Nat} (r : Room k A) (h : j ≤ k) : RoomH j (A.mark v) :=
  ⟨by have := r.dp; show A.depth + 3 * j + 5 < _; omega, by have := r.un; show A.units + 16 * j + 200 < _; omega⟩
/-- such a def under its global name -/
structure HasP (P : Program) (w : World) (K : Frag) (mg : Str → Option Value) (base : Heap) (x : Str) (k : Nat) (sp : Addr → Value → Option Addr → Sp) : Prop where
  ex : ∃ (f : Addr) (fd : FuncData) (ps : List Str), FnP P w K mg base k f fd ps sp ∧ mg x = some (.ref f) ∧ keepIn K (.ref f) = true ∧ Binds K fd ps []
section
variable {X : Cx} {x : Str} {k : Nat} {sp : Addr → Value → Option Addr → Sp} {q1 q2 : Pos} {e : Expr} {es : List Expr} {t : TA} {a : Addr} {oe : Obj} {c : Value} {d : Option Addr}
theorem pe_fnP (h : HasP X.prog X.w X.K X.mg X.base x k sp) (hr : RoomH k X.A) (hp : (a, oe) ∈ X.pn) (hz : Zc c d oe) (hf : ∃ vs, oe.data = .fields vs) (hg : Gl X x) (ha : PA X (e :: es) t) (z1 : (x == ("__debug__" : Str)) = false := by decide)
    (z2 : starEach (e :: es) X.env = (false, eval e X.env) :: starEach es X.env := by rfl) (z3 : (backTo q2 (starEach es X.env)).any (·.1) = false := by rfl) : PE X (.Call (.Name x q1) (e :: es) [] q2) (tFn (sp a c d) t) := by
  obtain ⟨f, fd, ps, F, hm, hk, hb⟩ := h.ex
  refine ⟨fun pins s σ H Q I h => wpAny_Call_Name_kw (ld_glob I hg hm (callWith_K (h₀ := X.base) I.ok.mod.kin hk (thn (ha.run q2 pins s σ H _ I h) fun us s1 ⟨vs, H1, I1, r, q⟩ => ⟨I1.kIn, ?_⟩) z2 z3) z1)⟩
  have hl : us.length = ps.length := by rw [← r.length]; exact F.len _ _ _ _ _ _ _ q
  have b := hb s1 us I1.kIn (by rw [List.append_nil]; exact hl)
  rw [List.append_nil] at b
  have P1 := I1.pin (a, oe) (List.mem_append_left _ hp)
  have hpin : PinOk X.stack H1 s1 (a, oe) := ⟨P1.1, P1.2.1, fun hm => (List.mem_cons.mp (I1.stkSub a hm)).elim P1.2.2.1 P1.2.2.2.1, P1.2.2.2.2⟩
  show wpAny _ _ (call (.ref f) us) _ _ _; refine wpAny_call (codeAny_mono (F.run a oe c d X.A X.stack s1 H1 ⟨us, []⟩ us vs Q E0 hr hz hf hpin I1.env0 b r q) fun r s' hq => ?_)
  cases r with
  | error e => exact hq.elim
  | ok fl =>
    cases fl with
    | ret u => exact I1.after hq
    | next => exact False.elim hq
    | brk => exact False.elim hq
    | cont => exact False.elim hq
end
end Tb

set_option Elab.async false
set_option linter.all false
set_option maxRecDepth 100000
set_option maxHeartbeats 3999000
namespace Tb
open PySem PySem.Calls PyProof.Rows L2
open PySem.W (Frag)
/-! ### an own error and its base, as the top has left them -/
/-- the error x at C over the base at B: all that calls, clauses, fields and isinstance ask -/
structure ErrAt (P : Program) (K : Frag) (mg : Str → Option Value) (B : Addr) (x : Str) (C : Addr) (fs : List Str) : Prop where
  has : HasX P K mg x C fs
  xf : XfC K C
  no : ∀ f ∈ fs, PySem.W.findIn K (.ref C) f = some none
  is : ExcC K C
  cls : ∃ nm q N bs sn sub ab col dd k0 k1 k2 k3 k5, K.lookup C = some (excClassObj nm q C N bs (.ref B :: HandSPX.veTail) true sn sub ab col dd k0 k1 k2 k3 k5 "ValueError.__new__")
  ty : PySem.W.typeIn K (.ref C) = some (.type "type")
/-- the base stands at B, under its name -/
structure BaseAt (K : Frag) (mg : Str → Option Value) (x : Str) (B : Addr) : Prop where
  at_ : mg x = some (.ref B)
  cls : ∃ nm q N bs sn sub ab col dd k0 k1 k2 k3 k5, K.lookup B = some (excClassObj nm q B N bs HandSPX.veTail true sn sub ab col dd k0 k1 k2 k3 k5 "ValueError.__new__")
  ini : PySem.W.findIn K (.ref B) "__init__" = some (some (.builtin "ValueError.__init__"))
  hd : PySem.W.hasDictIn K B = true
  ty : PySem.W.typeIn K (.ref B) = some (.type "type")
theorem BaseAt.sub {K : Frag} {mg : Str → Option Value} {x : Str} {B : Addr} (b : BaseAt K mg x B) : PySem.W.subIn K (.ref B) (.type "BaseException") = some true := by
  obtain ⟨nm, q, N, bs, sn, sub, ab, col, dd, k0, k1, k2, k3, k5, e⟩ := b.cls
  show PySem.W.mroIn K B _ = _
  unfold PySem.W.mroIn PySem.W.clsIn
  rw [e] <;> rfl
/-- what all the errors share -/
structure Shared0 (P : Program) (K : Frag) : Prop where
  opq : PySem.W.nsIn K cStatics "thirdparty.any" = some none
  cg : PySem.W.specialIn K (.builtin "object.__class__") "__get__" = some (some (.builtin "getset_descriptor.__get__"))
  ctk : PySem.W.takesIn K (.builtin "object.__class__") = some true
  zs : PySem.W.nsIn K mainGlobals "super" = some none
  top : (P.main.scope.names.lookup ("super" : Str)).isSome = false
inductive NoneOf (K : Frag) (C : Addr) : List Str → Prop
  | nil : NoneOf K C []
  | cons {f : Str} {fs : List Str} : PySem.W.findIn K (.ref C) f = some none → NoneOf K C fs → NoneOf K C (f :: fs)
theorem NoneOf.all {K : Frag} {C : Addr} {fs : List Str} (h : NoneOf K C fs) : ∀ f ∈ fs, PySem.W.findIn K (.ref C) f = some none := by
  induction h with
  | nil => intro f hf; cases hf
  | cons h1 _ ih =>
    intro f hf
    rcases List.mem_cons.mp hf with e | e
    · rw [e]; exact h1
    · exact ih f e
section
variable {P : Program} {K : Frag} {mg : Str → Option Value} {B C D : Addr} {x y : Str} {fs gs : List Str}
theorem sub_of {nm q : Str} {N : Addr} {bs : List Value} {sn : List Str} {sub : List Value} {ab : Bool} {col : Option Bool} {dd : Option Addr} {k0 k1 k2 k3 k5 : Option Value} (h : K.lookup C = some (excClassObj nm q C N bs (.ref B :: HandSPX.veTail) true sn sub ab col dd k0 k1 k2 k3 k5 "ValueError.__new__")) (v : Value) :
    PySem.W.subIn K (.ref C) v = some ((.ref C :: .ref B :: HandSPX.veTail).contains v) := by
  show PySem.W.mroIn K C v = _
  unfold PySem.W.mroIn PySem.W.clsIn
  rw [h] <;> rfl
theorem ErrAt.sub (h : ErrAt P K mg B x C fs) (v : Value) : PySem.W.subIn K (.ref C) v = some ((.ref C :: .ref B :: HandSPX.veTail).contains v) := by
  obtain ⟨nm, q, N, bs, sn, sub, ab, col, dd, k0, k1, k2, k3, k5, e⟩ := h.cls
  exact sub_of e v
theorem ErrAt.isCls (h : ErrAt P K mg B x C fs) : (PySem.W.clsIn K C).isSome = true := by
  obtain ⟨cd, hc, _⟩ := PySem.W.any_some h.is.hd
  rw [hc] <;> rfl
/-- an error against a clause of another, of its own, of the base -/
theorem ErrAt.exm (h : ErrAt P K mg B x C fs) (g : ErrAt P K mg B y D gs) (hb : D ≠ B) : PySem.W.exmOne K (.ref C) (.ref D) = some (decide (C = D)) := by
  refine PySem.W.exm_ref g.is.hs g.is.hd g.ty ?_
  rw [h.sub]
  congr 1
  by_cases e : C = D
  · subst e; simp
  · have e1 : (Value.ref D == Value.ref C) = false := by simpa using fun z => e z.symm
    have e2 : (Value.ref D == Value.ref B) = false := by simpa using hb
    have e3 : HandSPX.veTail.contains (Value.ref D) = false := rfl
    simp only [List.contains_cons, e1, e2, e3, decide_eq_false e, Bool.or_false]
theorem ErrAt.kit (h : ErrAt P K mg B x C fs) (g : ErrAt P K mg B y D gs) (hb : D ≠ B) : PySem.W.kitOne K (.ref C) (.ref D) = some (decide (C = D)) := by
  unfold PySem.W.kitOne
  by_cases e : C = D
  · subst e; simp
  · have e1 : (Value.ref C == Value.ref D) = false := by simpa using e
    rw [if_neg (by rw [e1]; decide)]
    show (if ((PySem.W.clsIn K D).isSome && PySem.W.typeIn K (.ref D) == some (.type "type")) = true then PySem.W.subIn K (.ref C) (.ref D) else none) = _
    rw [if_pos (by rw [g.isCls, g.ty]; rfl), h.sub]
    have e2 : (Value.ref D == Value.ref B) = false := by simpa using hb
    have e3 : HandSPX.veTail.contains (Value.ref D) = false := rfl
    have e4 : (Value.ref D == Value.ref C) = false := by simpa using fun z => e z.symm
    simp only [List.contains_cons, e4, e2, e3, decide_eq_false e, Bool.or_false]
theorem ErrAt.kitVE (h : ErrAt P K mg B x C fs) : PySem.W.kitOne K (.ref C) (.type "ValueError") = some true := by
  unfold PySem.W.kitOne
  rw [if_neg (show ¬ ((Value.ref C == Value.type "ValueError") = true) by simp)]
  show (if PySem.W.kitMeta "ValueError" = true then PySem.W.subIn K (.ref C) (.type "ValueError") else none) = _
  rw [if_pos (by decide +kernel), h.sub]
  congr 1
theorem ErrAt.exmB (h : ErrAt P K mg B x C fs) (b : BaseAt K mg y B) : PySem.W.exmOne K (.ref C) (.ref B) = some true := by
  refine PySem.W.exm_ref b.sub b.hd b.ty ?_
  rw [h.sub]
  congr 1
  simp only [List.contains_cons, BEq.rfl, Bool.true_or, Bool.or_true]
end
theorem errAt_mk {P : Program} {K : Frag} {h : Heap} {mg : Str → Option Value} {x qual : Str} {st : Stmt} {fs : List Str} {B C fI N cda cc : Addr} {nm q : Str} {bs : List Value} {sn : List Str} {sub : List Value} {ab : Bool} {col : Option Bool} {dd : Option Addr} {k0 k1 k2 k3 k5 : Option Value}
    {oc kV doc pm ct cl cl2 : Value} {od an cld cld2 : Option Addr} {osl csl csl2 : Array (Option Value)} {vs : Array Value} {file : Str} {tf : Tok} {xb : Str} (b : BaseAt K mg xb B) (S0 : Shared0 P K) (X : K.In h) (G : h.Ns mainGlobals mg)
    (aC : PySem.W.nsIn K mainGlobals x = some (some (.ref C))) (xL : K.lookup C = some (excClassObj nm q C N bs (.ref B :: HandSPX.veTail) true sn sub ab col dd k0 k1 k2 k3 k5 "ValueError.__new__"))
    (sa : PySem.W.findIn K (.ref C) "__setattr__" = some (some (.builtin "object.__setattr__"))) (ty : PySem.W.typeIn K (.ref C) = some (.type "type")) (kC : PySem.W.keepIn K (.ref C) = true)
    (iC : PySem.W.findIn K (.ref C) "__init__" = some (some (.ref fI))) (tI : PySem.W.typeIn K (.ref fI) = some (.type "function"))
    (l : K.lookup fI = some ⟨oc, od, .func (PySem.W.ksFn "__init__" qual (defArgs st) (defBody st) (defScope st) .none kV doc pm an (.ref cda) ct cc), osl⟩) (c : PySem.W.codeIn K (.ref cda) qual = true)
    (ce : K.lookup cc = some ⟨cl, cld, .cell (some (.ref C)), csl⟩) (co : K.lookup cda = some ⟨cl2, cld2, .fields vs, csl2⟩) (cv : vs[2]? = some (.str file tf)) (cf : ((P.main.file : Str) == file) = true)
    (no : NoneOf K C fs)
    (ga : PySem.W.findIn K (.ref C) "__getattribute__" = some (some (.builtin "BaseException.__getattribute__"))) (gg : PySem.W.findIn K (.ref C) "__getattr__" = some none) (hd : PySem.W.hasDictIn K C = true)
    (ca : PySem.W.findIn K (.ref C) "__class__" = some (some (.builtin "object.__class__")))
    (txt : ExBody st fs) (ne : fs ≠ []) (few : fs.length ≤ 900)
    (bi : ∀ (kV doc pm : Value) (an : Option Addr) (cdv ct : Value) (cc : Addr) (us : List Value), us.length = (("self" : Str) :: fs).length → bindArgs (PySem.W.ksFn "__init__" qual (defArgs st) (defBody st) (defScope st) .none kV doc pm an cdv ct cc) ⟨us, []⟩ = pure ((("self" : Str) :: fs).zip us)) :
    ErrAt P K mg B x C fs := by
  have sb := fun v => sub_of (B := B) xL v
  have ex : PySem.W.subIn K (.ref C) (.type "BaseException") = some true := by rw [sb]; rfl
  have no' := no.all
  have hcl : PySem.W.clsIn K C = some { name := nm, bases := bs, mro := .ref C :: .ref B :: HandSPX.veTail, ns := N, qualname := q, hasDict := true, slotNames := sn, subclasses := sub, abstract := ab, collection := col, hasDel := false } := by unfold PySem.W.clsIn; rw [xL] <;> rfl
  have su : PySem.W.ks_superIn K C C "__init__" = some (some (.builtin "ValueError.__init__")) := by
    obtain ⟨nm1, q1, N1, bs1, sn1, sub1, ab1, col1, dd1, j0, j1, j2, j3, j5, eB⟩ := b.cls
    have fB := b.ini
    have e2 : PySem.W.findIn K (.ref B) "__init__" = PySem.W.alongIn K "__init__" (.ref B :: HandSPX.veTail) := by
      show (match K.lookup B with | some ⟨_, _, .cls cd, _⟩ => PySem.W.alongIn K "__init__" cd.mro | _ => none) = _
      rw [eB] <;> rfl
    rw [e2] at fB
    unfold PySem.W.ks_superIn
    rw [hcl, Option.bind_some]
    have e3 : ((Value.ref C :: Value.ref B :: HandSPX.veTail).dropWhile (· != Value.ref C)).drop 1 = .ref B :: HandSPX.veTail := by
      (rw [List.dropWhile_cons_of_neg (by simp)]); rfl
    show PySem.W.alongIn K "__init__" (((Value.ref C :: Value.ref B :: HandSPX.veTail).dropWhile (· != Value.ref C)).drop 1) = _
    rw [e3]; exact fB
  have rv : HandSPX.refsVE (.ref B :: HandSPX.veTail) = true := by show HandSPX.refsVE HandSPX.veTail = true; decide +kernel
  have ox : OexC K C := ⟨⟨nm, q, N, bs, _, sn, sub, ab, col, dd, k0, k1, k2, k3, k5, xL, rv⟩, sa, ex, ty, kC⟩
  have me : PySem.W.mroIn K C (.ref C) = some true := (sb (.ref C)).trans (by simp only [List.contains_cons, BEq.rfl, Bool.true_or])
  have T : ExCls P K C fI qual st fs _ := ⟨ox, iC, tI, ⟨oc, od, kV, doc, pm, an, cda, ct, cc, osl, rfl, l, c, ⟨cl, cld, csl, ce⟩, cl2, cld2, vs, csl2, file, tf, co, cv, cf⟩, su, S0.opq, me, by rw [sb]; rfl, no', S0.top, txt⟩
  exact ⟨⟨⟨fI, qual, st, _, T, .all fun us hu => bi kV doc pm an (.ref cda) ct cc us hu⟩, PySem.W.mg_of X G aC, PySem.W.mg_none_of X G S0.zs, ne, few⟩, ⟨ga, gg, ex, hd⟩, no', ⟨ga, gg, ex, hd, ca, S0.cg, S0.ctk, (sb (.type "object")).trans rfl⟩, ⟨nm, q, N, bs, sn, sub, ab, col, dd, k0, k1, k2, k3, k5, xL⟩, ty⟩
/-! ### defs that may raise -/
structure HasE (P : Program) (w : World) (K : Frag) (mg : Str → Option Value) (base : Heap) (x : Str) (k : Nat) (sp : Sp) : Prop where
  ex : ∃ (f : Addr) (fd : FuncData) (ps : List Str), FnOk P w K mg base (L2.CX P w) k f fd ps sp ∧ mg x = some (.ref f) ∧ PySem.W.keepIn K (.ref f) = true ∧ Binds K fd ps []
structure HasMX (P : Program) (w : World) (K : Frag) (mg : Str → Option Value) (base : Heap) (C : Addr) (m : Str) (k : Nat) (sp : Sp) : Prop where
  ex : ∃ (f : Addr) (fd : FuncData) (ps : List Str), FnOk P w K mg base (L2.CX P w) k f fd ps sp ∧ Meth K C m f ∧ Cls K C ∧ Binds K fd ps []
structure HasCX (P : Program) (w : World) (K : Frag) (mg : Str → Option Value) (base : Heap) (x : Str) (C : Addr) (k : Nat) (sp : Sp) : Prop where
  ex : ∃ (f : Addr) (fd : FuncData) (ps : List Str), FnOk P w K mg base (L2.CX P w) k f fd ps sp ∧ Mk K C f ∧ mg x = some (.ref C) ∧ Binds K fd ps []
def tFnE (sp : Sp) (W : WX) (t : TA) : TE := fun σ H Q => t σ H fun vs H1 => sp vs H1 Q fun c d H2 => W c d σ H2
/-- the fields of the error that the suite holds -/
abbrev XfR (a : Addr) (cls : Value) (d : Option Addr) (C : Addr) (f : Str) (te : TE) : TE := tXf a cls d C f te
section
variable {X : Cx} {k : Nat} {B C : Addr} {sp : Sp} {x m : Str} {q1 q2 q3 : Pos} {a1 o1 : Expr} {r1 : List Expr} {ta : TE} {t : TA} {W : WX} {fs : List Str}
/-- called, nothing is let out -/
theorem pe_fnQ (h : HasE X.prog X.w X.K X.mg X.base x k sp) (hr : Room k X.A) (hg : Gl X x) (ha : PA X (a1 :: r1) t) (z1 : (x == ("__debug__" : Str)) = false := by decide)
    (z2 : starEach (a1 :: r1) X.env = (false, eval a1 X.env) :: starEach r1 X.env := by rfl) (z3 : (backTo q2 (starEach r1 X.env)).any (·.1) = false := by rfl) : PE X (.Call (.Name x q1) (a1 :: r1) [] q2) (tFn sp t) := by
  obtain ⟨f, fd, ps, F, hm, hk, hb⟩ := h.ex
  have r := pe_call (p := q1) (pos := q2) F hr hg hm hk hb .nil passL ha z1 z2 z3
  exact ⟨fun pn s σ H Q I q => r.run pn s σ H Q I (by simp only [tCall, List.append_nil]; exact q)⟩
/-- called, what it raises is taken -/
theorem pe_fnE (h : HasE X.prog X.w X.K X.mg X.base x k sp) (hr : Room k X.A) (tk : Takes X W) (hg : Gl X x) (ha : PA X (a1 :: r1) t) (z1 : (x == ("__debug__" : Str)) = false := by decide)
    (z2 : starEach (a1 :: r1) X.env = (false, eval a1 X.env) :: starEach r1 X.env := by rfl) (z3 : (backTo q2 (starEach r1 X.env)).any (·.1) = false := by rfl) : PE X (.Call (.Name x q1) (a1 :: r1) [] q2) (tFnE sp W t) := by
  obtain ⟨f, fd, ps, F, hm, hk, hb⟩ := h.ex
  have r := pe_callS (p := q1) (pos := q2) (E := fun σ c d H2 => W c d σ H2) F hr hg hm hk hb (fun σ => passAt tk σ) ha z1 z2 z3
  exact ⟨fun pn s σ H Q I q => r.run pn s σ H Q I q⟩
theorem pe_xfE {a : Addr} {oe : Obj} {cls : Value} {d : Option Addr} {pn : List (Addr × Obj)} (h : ErrAt X.prog X.K X.mg B x C fs) (hm : m ∈ fs) (hz : Zc cls d oe) (hf : ∃ vs, oe.data = .fields vs) (he : PE (X.suite a ((a, oe) :: pn)) o1 ta) (hb : attributeBase o1 m X.env (eval o1 X.env) = eval o1 X.env := by rfl) :
    PE (X.suite a ((a, oe) :: pn)) (.Attribute o1 m q1) (tXf a cls d C m ta) := pe_xf h.xf (h.no m hm) hz hf he hb
end
end Tb

set_option Elab.async false
set_option linter.all false
set_option maxRecDepth 100000
set_option maxHeartbeats 3999000
namespace Tb
open PySem L2
open C8 (pss_cut tCut)
open PySem.W (Frag)
/-! ### great ints -/
def Bd (n : Nat) (x : Int) : Prop := x.natAbs < 2 ^ n
theorem Bd.mul {a b : Nat} {i j : Int} (h : Bd a i) (k : Bd b j) : Bd (a + b) (i * j) := wide_lt h k
theorem Bd.mono {a b : Nat} {i : Int} (h : Bd a i) (l : a ≤ b) : Bd b i := Nat.lt_of_lt_of_le h (Nat.pow_le_pow_right (by decide) l)
theorem Bd.add {a b : Nat} {i j : Int} (h : Bd a i) (k : Bd b j) : Bd (max a b + 1) (i + j) := by
  have h' : i.natAbs < 2 ^ max a b := h.mono (Nat.le_max_left _ _)
  have k' : j.natAbs < 2 ^ max a b := k.mono (Nat.le_max_right _ _)
  have e : 2 ^ (max a b + 1) = 2 * 2 ^ max a b := by rw [Nat.pow_succ, Nat.mul_comm]
  unfold Bd
  omega
theorem Bd.neg {a : Nat} {i : Int} (h : Bd a i) : Bd a (-i) := by unfold Bd at *; omega
theorem Bd.sub {a b : Nat} {i j : Int} (h : Bd a i) (k : Bd b j) : Bd (max a b + 1) (i - j) := by
  have := h.add k.neg
  rw [Int.sub_eq_add_neg]; exact this
theorem Bd.le {a : Nat} {i j : Int} (h : Bd a j) (h0 : 0 ≤ i) (h1 : i ≤ j) : Bd a i := by unfold Bd at *; omega
theorem Bd.between {a : Nat} {i j l : Int} (h : Bd a j) (h' : Bd a l) (h0 : l ≤ i) (h1 : i ≤ j) : Bd a i := by unfold Bd at *; omega
theorem Bd.div {a : Nat} {i j : Int} (h : Bd a i) (hj : 0 < j) : Bd a (i / j) := by
  unfold Bd at *
  by_cases c : 0 ≤ i
  · have h1 : i / j ≤ i := Int.ediv_le_self _ c
    have h2 : 0 ≤ i / j := Int.ediv_nonneg c (by omega)
    omega
  · have h1 : i ≤ i / j := by
      apply Int.le_ediv_of_mul_le hj
      have : i * j ≤ i * 1 := Int.mul_le_mul_of_nonpos_left (by omega) (by omega)
      omega
    have h2 : i / j ≤ 0 := by
      apply Int.le_of_lt_add_one
      apply Int.ediv_lt_of_lt_mul hj
      omega
    omega
theorem bd_of {a : Nat} {i : Int} (n : Int) (h0 : 0 ≤ i) (h1 : i ≤ n) (h : Bd a n) : Bd a i := h.le h0 h1
theorem bd_most {i : Int} (h0 : 0 ≤ i) (h1 : i ≤ 10 ^ 60) : Bd 200 i := bd_of (10 ^ 60) h0 h1 (by unfold Bd; decide)
theorem bd_lit {a : Nat} {i : Int} (h : i.natAbs < 2 ^ a) : Bd a i := h
theorem cmul {a b : Nat} {i j : Int} (h : Bd a i) (k : Bd b j) (h0 : 0 < a := by decide) (h1 : 0 < b := by decide) (h2 : a + b ≤ 1000000 := by decide) : CMulW i j := wide_mul h k h0 h1 h2
theorem cdiv {b : Nat} {i j : Int} (h : 0 < j) (k : Bd b j) (h0 : 0 < b := by decide) (h9 : b ≤ 9000 := by decide) : CDivW i j := wide_div h k h0 h9
theorem ifD {c A B : Prop} [i : Decidable c] (h1 : c → A) (h2 : ¬ c → B) : if decide c = true then A else B := by
  by_cases h : c
  · rw [if_pos (decide_eq_true h)]; exact h1 h
  · rw [if_neg (by rw [decide_eq_false h]; decide)]; exact h2 h
theorem ifD_pos {c A B : Prop} [i : Decidable c] (h : c) (a : A) : if decide c = true then A else B := ifD (fun _ => a) fun z => absurd h z
theorem ifD_neg {c A B : Prop} [i : Decidable c] (h : ¬ c) (a : B) : if decide c = true then A else B := ifD (fun z => absurd z h) fun _ => a
theorem same_new {H H' : Hp} {p : Addr} {o : HO} (s : Same H H') (h : H' p = none) : Same H (upd H' p o) := fun c u hc => by
  rw [upd_ne (ne_of_none (s c u hc) h)]; exact s c u hc
theorem lk_ne {a k : Str} {v : V} {r : List (Str × V)} (h : (a == k) = false) : List.lookup a ((k, v) :: r) = List.lookup a r := by
  rw [List.lookup_cons, h]
theorem lk_eq {a : Str} {v : V} {r : List (Str × V)} : List.lookup a ((a, v) :: r) = some v := by
  rw [List.lookup_cons]; simp
theorem putF_ne {f k : Str} {v u : V} {r : List (Str × V)} (h : ¬ k = f) : putF f v ((k, u) :: r) = (k, u) :: putF f v r := by
  show (if k = f then _ else _) = _
  rw [if_neg h]
theorem pow_pos' (n : Nat) : (1 : Int) ≤ 2 ^ n := by
  have := Int.pow_pos (n := 2) (m := n) (by decide)
  omega
theorem bd_pow {n k : Nat} (h : n < k) : Bd k ((2 : Int) ^ n) := by
  unfold Bd
  have : ((2 : Int) ^ n).natAbs = 2 ^ n := by rw [Int.natAbs_pow]; rfl
  rw [this]
  exact Nat.pow_lt_pow_right (by decide) h
/-! ### the bag: what the script draws -/
def SameBut (p : Addr) (H H' : Hp) : Prop := ∀ b o, H b = some o → b ≠ p → H' b = some o
theorem SameBut.refl (p : Addr) (H : Hp) : SameBut p H H := fun _ _ h _ => h
theorem SameBut.trans {p : Addr} {H H1 H2 : Hp} (a : SameBut p H H1) (b : SameBut p H1 H2) : SameBut p H H2 := fun c o h n => b c o (a c o h n) n
theorem Same.but {p : Addr} {H H1 : Hp} (a : Same H H1) : SameBut p H H1 := fun c o h _ => a c o h
theorem SameBut.upd {p : Addr} {H H1 : Hp} {o : HO} (a : SameBut p H H1) : SameBut p H (upd H1 p o) := fun c u h n => by
  rw [upd_ne n]; exact a c u h n
theorem SameBut.new {p q : Addr} {H H1 : Hp} {o : HO} (a : SameBut p H H1) (hq : H q = none) : SameBut p H (L2.upd H1 q o) := fun c u h n => by
  rw [upd_ne (ne_of_none h hq)]; exact a c u h n
def bagKV (c : Addr) (ix dg ct fo : Int) : List (Key × V) := [(.inr "cells", .ref c), (.inr "at", .int ix), (.inr "digits", .int dg), (.inr "count", .int ct), (.inr "fold", .int fo)]
theorem mapK_pos {p : Key × V} {r : List (Key × V)} {k : Key} {v : V} (e : p.1 = k) : (p :: r).map (fun kv => if kv.1 = k then (kv.1, v) else kv) = (p.1, v) :: r.map (fun kv => if kv.1 = k then (kv.1, v) else kv) := by
  rw [List.map_cons, if_pos e]
theorem mapK_neg {p : Key × V} {r : List (Key × V)} {k : Key} {v : V} (e : ¬ p.1 = k) : (p :: r).map (fun kv => if kv.1 = k then (kv.1, v) else kv) = p :: r.map (fun kv => if kv.1 = k then (kv.1, v) else kv) := by
  rw [List.map_cons, if_neg e]
theorem putK_old {kvs : List (Key × V)} {k : Key} {u v : V} (h : valV kvs k = some u) : putK kvs k v = kvs.map (fun kv => if kv.1 = k then (kv.1, v) else kv) := by
  unfold putK
  rw [if_pos (by rw [valV_any, h]; rfl)]
theorem mergeK_nd : ∀ (kvs acc : List (Key × V)), ((acc ++ kvs).map (·.1)).Nodup → mergeK acc kvs = acc ++ kvs
  | [], acc, _ => by simp [mergeK]
  | (k, v) :: r, acc, h => by
    have hn : valV acc k = none := by
      cases e : valV acc k with
      | none => rfl
      | some u =>
        have hm := valV_in e
        rw [List.map_append, List.nodup_append] at h
        exact absurd rfl (h.2.2 k hm k (by simp))
    show mergeK (putK acc k v) r = _
    rw [putK_new v hn, mergeK_nd r (acc ++ [(k, v)]) (by rw [List.append_assoc]; exact h), List.append_assoc]
    rfl
section
variable {c : Addr} {ix dg ct fo v : Int} {H : Hp} {p : Addr}
theorem v_cells : valV (bagKV c ix dg ct fo) (Sum.inr "cells") = some (.ref c) := by unfold bagKV; rw [valV_pos rfl]
theorem v_at : valV (bagKV c ix dg ct fo) (Sum.inr "at") = some (.int ix) := by
  unfold bagKV; rw [valV_neg (by show ¬ (Sum.inr "cells" : Key) = (Sum.inr "at" : Key); decide +kernel), valV_pos rfl]
theorem v_digits : valV (bagKV c ix dg ct fo) (Sum.inr "digits") = some (.int dg) := by
  unfold bagKV; rw [valV_neg (by show ¬ (Sum.inr "cells" : Key) = (Sum.inr "digits" : Key); decide +kernel), valV_neg (by show ¬ (Sum.inr "at" : Key) = (Sum.inr "digits" : Key); decide +kernel), valV_pos rfl]
theorem v_count : valV (bagKV c ix dg ct fo) (Sum.inr "count") = some (.int ct) := by
  unfold bagKV; rw [valV_neg (by show ¬ (Sum.inr "cells" : Key) = (Sum.inr "count" : Key); decide +kernel), valV_neg (by show ¬ (Sum.inr "at" : Key) = (Sum.inr "count" : Key); decide +kernel), valV_neg (by show ¬ (Sum.inr "digits" : Key) = (Sum.inr "count" : Key); decide +kernel), valV_pos rfl]
theorem v_fold : valV (bagKV c ix dg ct fo) (Sum.inr "fold") = some (.int fo) := by
  unfold bagKV; rw [valV_neg (by show ¬ (Sum.inr "cells" : Key) = (Sum.inr "fold" : Key); decide +kernel), valV_neg (by show ¬ (Sum.inr "at" : Key) = (Sum.inr "fold" : Key); decide +kernel), valV_neg (by show ¬ (Sum.inr "digits" : Key) = (Sum.inr "fold" : Key); decide +kernel), valV_neg (by show ¬ (Sum.inr "count" : Key) = (Sum.inr "fold" : Key); decide +kernel), valV_pos rfl]
theorem g_cells (h : H p = some (.dK (bagKV c ix dg ct fo))) : DGet H p (.str "cells") (some (.ref c)) := .inl ⟨_, Sum.inr "cells", .inl h, rfl, v_cells.symm⟩
theorem g_at (h : H p = some (.dK (bagKV c ix dg ct fo))) : DGet H p (.str "at") (some (.int ix)) := .inl ⟨_, Sum.inr "at", .inl h, rfl, v_at.symm⟩
theorem g_digits (h : H p = some (.dK (bagKV c ix dg ct fo))) : DGet H p (.str "digits") (some (.int dg)) := .inl ⟨_, Sum.inr "digits", .inl h, rfl, v_digits.symm⟩
theorem g_count (h : H p = some (.dK (bagKV c ix dg ct fo))) : DGet H p (.str "count") (some (.int ct)) := .inl ⟨_, Sum.inr "count", .inl h, rfl, v_count.symm⟩
theorem g_fold (h : H p = some (.dK (bagKV c ix dg ct fo))) : DGet H p (.str "fold") (some (.int fo)) := .inl ⟨_, Sum.inr "fold", .inl h, rfl, v_fold.symm⟩
theorem q_at : putK (bagKV c ix dg ct fo) (Sum.inr "at") (.int v) = bagKV c v dg ct fo := by
  rw [putK_old v_at]; unfold bagKV
  rw [mapK_neg (by show ¬ (Sum.inr "cells" : Key) = (Sum.inr "at" : Key); decide +kernel), mapK_pos (k := (Sum.inr "at" : Key)) rfl, mapK_neg (by show ¬ (Sum.inr "digits" : Key) = (Sum.inr "at" : Key); decide +kernel), mapK_neg (by show ¬ (Sum.inr "count" : Key) = (Sum.inr "at" : Key); decide +kernel), mapK_neg (by show ¬ (Sum.inr "fold" : Key) = (Sum.inr "at" : Key); decide +kernel)]; rfl
theorem q_digits : putK (bagKV c ix dg ct fo) (Sum.inr "digits") (.int v) = bagKV c ix v ct fo := by
  rw [putK_old v_digits]; unfold bagKV
  rw [mapK_neg (by show ¬ (Sum.inr "cells" : Key) = (Sum.inr "digits" : Key); decide +kernel), mapK_neg (by show ¬ (Sum.inr "at" : Key) = (Sum.inr "digits" : Key); decide +kernel), mapK_pos (k := (Sum.inr "digits" : Key)) rfl, mapK_neg (by show ¬ (Sum.inr "count" : Key) = (Sum.inr "digits" : Key); decide +kernel), mapK_neg (by show ¬ (Sum.inr "fold" : Key) = (Sum.inr "digits" : Key); decide +kernel)]; rfl
theorem q_count : putK (bagKV c ix dg ct fo) (Sum.inr "count") (.int v) = bagKV c ix dg v fo := by
  rw [putK_old v_count]; unfold bagKV
  rw [mapK_neg (by show ¬ (Sum.inr "cells" : Key) = (Sum.inr "count" : Key); decide +kernel), mapK_neg (by show ¬ (Sum.inr "at" : Key) = (Sum.inr "count" : Key); decide +kernel), mapK_neg (by show ¬ (Sum.inr "digits" : Key) = (Sum.inr "count" : Key); decide +kernel), mapK_pos (k := (Sum.inr "count" : Key)) rfl, mapK_neg (by show ¬ (Sum.inr "fold" : Key) = (Sum.inr "count" : Key); decide +kernel)]; rfl
theorem q_fold : putK (bagKV c ix dg ct fo) (Sum.inr "fold") (.int v) = bagKV c ix dg ct v := by
  rw [putK_old v_fold]; unfold bagKV
  rw [mapK_neg (by show ¬ (Sum.inr "cells" : Key) = (Sum.inr "fold" : Key); decide +kernel), mapK_neg (by show ¬ (Sum.inr "at" : Key) = (Sum.inr "fold" : Key); decide +kernel), mapK_neg (by show ¬ (Sum.inr "digits" : Key) = (Sum.inr "fold" : Key); decide +kernel), mapK_neg (by show ¬ (Sum.inr "count" : Key) = (Sum.inr "fold" : Key); decide +kernel), mapK_pos (k := (Sum.inr "fold" : Key)) rfl]; rfl
theorem bag_sz : (bagKV c ix dg ct fo).length < sizeLine := by show 5 < sizeLine; decide
theorem p_at (h : H p = some (.dK (bagKV c ix dg ct fo))) : DPut H p (.str "at") (.int v) (upd H p (.dK (bagKV c v dg ct fo))) := .inl ⟨_, Sum.inr "at", h, rfl, bag_sz, by rw [q_at]⟩
theorem p_digits (h : H p = some (.dK (bagKV c ix dg ct fo))) : DPut H p (.str "digits") (.int v) (upd H p (.dK (bagKV c ix v ct fo))) := .inl ⟨_, Sum.inr "digits", h, rfl, bag_sz, by rw [q_digits]⟩
theorem p_count (h : H p = some (.dK (bagKV c ix dg ct fo))) : DPut H p (.str "count") (.int v) (upd H p (.dK (bagKV c ix dg v fo))) := .inl ⟨_, Sum.inr "count", h, rfl, bag_sz, by rw [q_count]⟩
theorem p_fold (h : H p = some (.dK (bagKV c ix dg ct fo))) : DPut H p (.str "fold") (.int v) (upd H p (.dK (bagKV c ix dg ct v))) := .inl ⟨_, Sum.inr "fold", h, rfl, bag_sz, by rw [q_fold]⟩
end
/-- a bag from which at most n were drawn -/
structure BagAt (H : Hp) (p : Addr) (n : Nat) : Prop where
  ex : ∃ (c : Addr) (ns : List Int) (ix dg ct fo : Int), H p = some (.dK (bagKV c ix dg ct fo)) ∧ H c = some (.lst (ns.map V.int)) ∧ 0 ≤ ix ∧ 0 ≤ dg ∧ 0 ≤ ct ∧ ct ≤ n ∧ 0 ≤ fo ∧ fo < 4294967296
theorem BagAt.mono {H : Hp} {p : Addr} {n k : Nat} (B : BagAt H p n) (h : n ≤ k) : BagAt H p k := by
  obtain ⟨c, ns, ix, dg, ct, fo, h1, h2, h3, h4, h5, h6, h7⟩ := B.ex
  exact ⟨c, ns, ix, dg, ct, fo, h1, h2, h3, h4, h5, by omega, h7⟩
theorem BagAt.same {H H' : Hp} {p : Addr} {n : Nat} (B : BagAt H p n) (s : Same H H') : BagAt H' p n := by
  obtain ⟨c, ns, ix, dg, ct, fo, h1, h2, h3⟩ := B.ex
  exact ⟨c, ns, ix, dg, ct, fo, s _ _ h1, s _ _ h2, h3⟩
theorem BagAt.ne_ins {H : Hp} {p q C dx : Addr} {n : Nat} {fs : List (Str × V)} (B : BagAt H p n) (h : H q = some (.ins C dx fs)) : q ≠ p := by
  obtain ⟨c, ns, ix, dg, ct, fo, h1, _⟩ := B.ex
  exact ne_of h h1 (by intro z; cases z)
theorem BagAt.ne_lst {H : Hp} {p q : Addr} {n : Nat} {xs : List V} (B : BagAt H p n) (h : H q = some (.lst xs)) : q ≠ p := by
  obtain ⟨c, ns, ix, dg, ct, fo, h1, _⟩ := B.ex
  exact ne_of h h1 (by intro z; cases z)
/-! ### promises -/
def spBag (K : Frag) : Sp := fun vs H Q _ => ∃ (a : Addr) (ns : List Int), vs = [.ref a] ∧ SqL K H a (ns.map V.int) ∧ ns.length ≤ 63 ∧ ∀ p H', H p = none → Same H H' → BagAt H' p 0 → Q (.ref p) H'
def spDraw : Sp := fun vs H Q _ => ∃ (p : Addr) (n : Nat) (lim : Int), vs = [.ref p, .int lim] ∧ BagAt H p n ∧ n < 2 ^ 40 ∧ 0 < lim ∧ Bd 5000 lim ∧ ∀ r H', 0 ≤ r → r < lim → BagAt H' p (n + 1) → SameBut p H H' → Q (.int r) H'
def spPick : Sp := fun vs H Q _ => ∃ (p a : Addr) (n : Nat) (xs : List V), vs = [.ref p, .ref a] ∧ BagAt H p n ∧ n < 2 ^ 40 ∧ H a = some (.lst xs) ∧ 0 < xs.length ∧ xs.length < 1000 ∧ ∀ v H', v ∈ xs → BagAt H' p (n + 1) → SameBut p H H' → Q v H'
/-- no name of the program hides a built-in one -/
structure Bl (mg : Str → Option Value) : Prop where
  range : mg "range" = none
  len : mg "len" = none
  int : mg "int" = none
  bool : mg "bool" = none
  min : mg "min" = none
  max : mg "max" = none
  list : mg "list" = none
  isinstance : mg "isinstance" = none
  abs : mg "abs" = none
  tuple : mg "tuple" = none
  str : mg "str" = none
  dict : mg "dict" = none
  sorted : mg "sorted" = none
  all : mg "all" = none
  any : mg "any" = none
  sum : mg "sum" = none
  set : mg "set" = none
  repr : mg "repr" = none
  enumerate : mg "enumerate" = none
  zip : mg "zip" = none
  ValueError : mg "ValueError" = none
end Tb

set_option Elab.async false
set_option linter.all false
set_option maxRecDepth 100000
set_option maxHeartbeats 3999000
set_option exponentiation.threshold 6000
namespace Tb
open PySem L2
open C8 (pss_cut tCut)
open PySem.W (Frag)
def topS (i : Nat) : Stmt := PySem.Challenge.pw_tagblocks_k00_errors_made_from_their_fie.main.body.getD i (.Pass ⟨0, 0, 0, 0⟩)
abbrev s_BadKind : Stmt := inClass (topS 2) 0
theorem eb_BadKind : ExBody s_BadKind ["kind"] := ⟨⟨_, _, _, _, _, _, _, _, _, rfl, (.cons .nil), rfl⟩, rfl, rfl, rfl, rfl, rfl, rfl, by decide +kernel, by decide +kernel, ⟨_, rfl, rfl⟩, by decide +kernel, by decide +kernel⟩
abbrev s_BadLine : Stmt := inClass (topS 3) 0
theorem eb_BadLine : ExBody s_BadLine ["line"] := ⟨⟨_, _, _, _, _, _, _, _, _, rfl, (.cons .nil), rfl⟩, rfl, rfl, rfl, rfl, rfl, rfl, by decide +kernel, by decide +kernel, ⟨_, rfl, rfl⟩, by decide +kernel, by decide +kernel⟩
abbrev s_Refused : Stmt := inClass (topS 4) 0
theorem eb_Refused : ExBody s_Refused ["line"] := ⟨⟨_, _, _, _, _, _, _, _, _, rfl, (.cons .nil), rfl⟩, rfl, rfl, rfl, rfl, rfl, rfl, by decide +kernel, by decide +kernel, ⟨_, rfl, rfl⟩, by decide +kernel, by decide +kernel⟩
abbrev s_TooMany : Stmt := inClass (topS 5) 0
theorem eb_TooMany : ExBody s_TooMany ["what", "many", "most"] := ⟨⟨_, _, _, _, _, _, _, _, _, rfl, (.cons (.cons (.cons .nil))), rfl⟩, rfl, rfl, rfl, rfl, rfl, rfl, by decide +kernel, by decide +kernel, ⟨_, rfl, rfl⟩, by decide +kernel, by decide +kernel⟩
abbrev s_BadPromise : Stmt := inClass (topS 6) 0
theorem eb_BadPromise : ExBody s_BadPromise ["promise"] := ⟨⟨_, _, _, _, _, _, _, _, _, rfl, (.cons .nil), rfl⟩, rfl, rfl, rfl, rfl, rfl, rfl, by decide +kernel, by decide +kernel, ⟨_, rfl, rfl⟩, by decide +kernel, by decide +kernel⟩
abbrev s_BadRule : Stmt := inClass (topS 7) 0
theorem eb_BadRule : ExBody s_BadRule ["what"] := ⟨⟨_, _, _, _, _, _, _, _, _, rfl, (.cons .nil), rfl⟩, rfl, rfl, rfl, rfl, rfl, rfl, by decide +kernel, by decide +kernel, ⟨_, rfl, rfl⟩, by decide +kernel, by decide +kernel⟩
abbrev s_BadSize : Stmt := inClass (topS 8) 0
theorem eb_BadSize : ExBody s_BadSize ["size"] := ⟨⟨_, _, _, _, _, _, _, _, _, rfl, (.cons .nil), rfl⟩, rfl, rfl, rfl, rfl, rfl, rfl, by decide +kernel, by decide +kernel, ⟨_, rfl, rfl⟩, by decide +kernel, by decide +kernel⟩
abbrev s_BadNumber : Stmt := inClass (topS 9) 0
theorem eb_BadNumber : ExBody s_BadNumber ["number"] := ⟨⟨_, _, _, _, _, _, _, _, _, rfl, (.cons .nil), rfl⟩, rfl, rfl, rfl, rfl, rfl, rfl, by decide +kernel, by decide +kernel, ⟨_, rfl, rfl⟩, by decide +kernel, by decide +kernel⟩
abbrev s_BadCount : Stmt := inClass (topS 10) 0
theorem eb_BadCount : ExBody s_BadCount ["many"] := ⟨⟨_, _, _, _, _, _, _, _, _, rfl, (.cons .nil), rfl⟩, rfl, rfl, rfl, rfl, rfl, rfl, by decide +kernel, by decide +kernel, ⟨_, rfl, rfl⟩, by decide +kernel, by decide +kernel⟩
abbrev s_BadCase : Stmt := inClass (topS 11) 0
theorem eb_BadCase : ExBody s_BadCase ["case"] := ⟨⟨_, _, _, _, _, _, _, _, _, rfl, (.cons .nil), rfl⟩, rfl, rfl, rfl, rfl, rfl, rfl, by decide +kernel, by decide +kernel, ⟨_, rfl, rfl⟩, by decide +kernel, by decide +kernel⟩
abbrev s_BadOutcomes : Stmt := inClass (topS 12) 0
theorem eb_BadOutcomes : ExBody s_BadOutcomes ["word"] := ⟨⟨_, _, _, _, _, _, _, _, _, rfl, (.cons .nil), rfl⟩, rfl, rfl, rfl, rfl, rfl, rfl, by decide +kernel, by decide +kernel, ⟨_, rfl, rfl⟩, by decide +kernel, by decide +kernel⟩
abbrev s_BadName : Stmt := inClass (topS 13) 0
theorem eb_BadName : ExBody s_BadName ["name"] := ⟨⟨_, _, _, _, _, _, _, _, _, rfl, (.cons .nil), rfl⟩, rfl, rfl, rfl, rfl, rfl, rfl, by decide +kernel, by decide +kernel, ⟨_, rfl, rfl⟩, by decide +kernel, by decide +kernel⟩
abbrev s_BadLength : Stmt := inClass (topS 14) 0
theorem eb_BadLength : ExBody s_BadLength ["length"] := ⟨⟨_, _, _, _, _, _, _, _, _, rfl, (.cons .nil), rfl⟩, rfl, rfl, rfl, rfl, rfl, rfl, by decide +kernel, by decide +kernel, ⟨_, rfl, rfl⟩, by decide +kernel, by decide +kernel⟩
abbrev s_OtherKinds : Stmt := inClass (topS 15) 0
theorem eb_OtherKinds : ExBody s_OtherKinds ["part"] := ⟨⟨_, _, _, _, _, _, _, _, _, rfl, (.cons .nil), rfl⟩, rfl, rfl, rfl, rfl, rfl, rfl, by decide +kernel, by decide +kernel, ⟨_, rfl, rfl⟩, by decide +kernel, by decide +kernel⟩
abbrev s_OtherRules : Stmt := inClass (topS 16) 0
theorem eb_OtherRules : ExBody s_OtherRules ["part"] := ⟨⟨_, _, _, _, _, _, _, _, _, rfl, (.cons .nil), rfl⟩, rfl, rfl, rfl, rfl, rfl, rfl, by decide +kernel, by decide +kernel, ⟨_, rfl, rfl⟩, by decide +kernel, by decide +kernel⟩
abbrev s_Broken : Stmt := inClass (topS 17) 0
theorem eb_Broken : ExBody s_Broken ["part"] := ⟨⟨_, _, _, _, _, _, _, _, _, rfl, (.cons .nil), rfl⟩, rfl, rfl, rfl, rfl, rfl, rfl, by decide +kernel, by decide +kernel, ⟨_, rfl, rfl⟩, by decide +kernel, by decide +kernel⟩
abbrev s_BadGap : Stmt := inClass (topS 18) 0
theorem eb_BadGap : ExBody s_BadGap ["gap"] := ⟨⟨_, _, _, _, _, _, _, _, _, rfl, (.cons .nil), rfl⟩, rfl, rfl, rfl, rfl, rfl, rfl, by decide +kernel, by decide +kernel, ⟨_, rfl, rfl⟩, by decide +kernel, by decide +kernel⟩
abbrev s_BadMap : Stmt := inClass (topS 19) 0
theorem eb_BadMap : ExBody s_BadMap ["index"] := ⟨⟨_, _, _, _, _, _, _, _, _, rfl, (.cons .nil), rfl⟩, rfl, rfl, rfl, rfl, rfl, rfl, by decide +kernel, by decide +kernel, ⟨_, rfl, rfl⟩, by decide +kernel, by decide +kernel⟩
abbrev s_Lbag : Stmt := topS 21
abbrev nm_Lbag : List Str := ["_law_script", "_law_fold", "_law_cell"]
theorem sc_Lbag : FnScope nm_Lbag ["_law_script"] (defScope s_Lbag) := ⟨rfl, rfl, rfl, by decide +kernel, rfl, by decide +kernel, by decide +kernel⟩
abbrev s_Ldraw : Stmt := topS 22
abbrev nm_Ldraw : List Str := ["_law_bag_here", "_law_limit", "_law_cell", "_law_digit", "_law_base", "_law_found"]
theorem sc_Ldraw : FnScope nm_Ldraw ["_law_bag_here", "_law_limit"] (defScope s_Ldraw) := ⟨rfl, rfl, rfl, by decide +kernel, rfl, by decide +kernel, by decide +kernel⟩
abbrev s_Lthing : Stmt := topS 23
abbrev nm_Lthing : List Str := ["_law_bag_here", "_law_great", "_law_things"]
theorem sc_Lthing : FnScope nm_Lthing ["_law_bag_here"] (defScope s_Lthing) := ⟨rfl, rfl, rfl, by decide +kernel, rfl, by decide +kernel, by decide +kernel⟩
abbrev s_Lraised_0 : Stmt := topS 24
abbrev nm_Lraised_0 : List Str := ["_law_k", "_law_a", "_law_b", "_law_c"]
theorem sc_Lraised_0 : FnScope nm_Lraised_0 ["_law_k", "_law_a", "_law_b", "_law_c"] (defScope s_Lraised_0) := ⟨rfl, rfl, rfl, by decide +kernel, rfl, by decide +kernel, by decide +kernel⟩
abbrev s_Lraised_1 : Stmt := topS 25
abbrev nm_Lraised_1 : List Str := ["_law_k", "_law_a", "_law_b", "_law_c"]
theorem sc_Lraised_1 : FnScope nm_Lraised_1 ["_law_k", "_law_a", "_law_b", "_law_c"] (defScope s_Lraised_1) := ⟨rfl, rfl, rfl, by decide +kernel, rfl, by decide +kernel, by decide +kernel⟩
abbrev s_Lraised_2 : Stmt := topS 26
abbrev nm_Lraised_2 : List Str := ["_law_k", "_law_a", "_law_b", "_law_c"]
theorem sc_Lraised_2 : FnScope nm_Lraised_2 ["_law_k", "_law_a", "_law_b", "_law_c"] (defScope s_Lraised_2) := ⟨rfl, rfl, rfl, by decide +kernel, rfl, by decide +kernel, by decide +kernel⟩
abbrev s_Lraised : Stmt := topS 27
abbrev nm_Lraised : List Str := ["_law_k", "_law_a", "_law_b", "_law_c"]
theorem sc_Lraised : FnScope nm_Lraised ["_law_k", "_law_a", "_law_b", "_law_c"] (defScope s_Lraised) := ⟨rfl, rfl, rfl, by decide +kernel, rfl, by decide +kernel, by decide +kernel⟩
abbrev s_Lkinds_of : Stmt := topS 28
abbrev nm_Lkinds_of : List Str := ["_law_e", "_law_found"]
theorem sc_Lkinds_of : FnScope nm_Lkinds_of ["_law_e"] (defScope s_Lkinds_of) := ⟨rfl, rfl, rfl, by decide +kernel, rfl, by decide +kernel, by decide +kernel⟩
abbrev s_Lcaught : Stmt := topS 29
abbrev nm_Lcaught : List Str := ["_law_k", "_law_a", "_law_b", "_law_c", "_law_e"]
theorem sc_Lcaught : FnScope nm_Lcaught ["_law_k", "_law_a", "_law_b", "_law_c"] (defScope s_Lcaught) := ⟨rfl, rfl, rfl, by decide +kernel, rfl, by decide +kernel, by decide +kernel⟩
abbrev s_Lfields_0 : Stmt := topS 30
abbrev nm_Lfields_0 : List Str := ["_law_k", "_law_a", "_law_b", "_law_c", "_law_told", "_law_e"]
theorem sc_Lfields_0 : FnScope nm_Lfields_0 ["_law_k", "_law_a", "_law_b", "_law_c"] (defScope s_Lfields_0) := ⟨rfl, rfl, rfl, by decide +kernel, rfl, by decide +kernel, by decide +kernel⟩
abbrev s_Lfields_1 : Stmt := topS 31
abbrev nm_Lfields_1 : List Str := ["_law_k", "_law_a", "_law_b", "_law_c", "_law_told", "_law_e"]
theorem sc_Lfields_1 : FnScope nm_Lfields_1 ["_law_k", "_law_a", "_law_b", "_law_c"] (defScope s_Lfields_1) := ⟨rfl, rfl, rfl, by decide +kernel, rfl, by decide +kernel, by decide +kernel⟩
abbrev s_Lfields_2 : Stmt := topS 32
abbrev nm_Lfields_2 : List Str := ["_law_k", "_law_a", "_law_b", "_law_c", "_law_told", "_law_e"]
theorem sc_Lfields_2 : FnScope nm_Lfields_2 ["_law_k", "_law_a", "_law_b", "_law_c"] (defScope s_Lfields_2) := ⟨rfl, rfl, rfl, by decide +kernel, rfl, by decide +kernel, by decide +kernel⟩
abbrev s_Lfields : Stmt := topS 33
abbrev nm_Lfields : List Str := ["_law_k", "_law_a", "_law_b", "_law_c"]
theorem sc_Lfields : FnScope nm_Lfields ["_law_k", "_law_a", "_law_b", "_law_c"] (defScope s_Lfields) := ⟨rfl, rfl, rfl, by decide +kernel, rfl, by decide +kernel, by decide +kernel⟩
abbrev s_law : Stmt := topS 34
abbrev nm_law : List Str := ["_law_script", "_law_bag_here", "_law_sizes", "_law_k", "_law_a", "_law_b", "_law_c", "_law_j"]
theorem sc_law : FnScope nm_law ["_law_script"] (defScope s_law) := ⟨rfl, rfl, rfl, by decide +kernel, rfl, by decide +kernel, by decide +kernel⟩
section
variable {P : Program} {w : World} {K : Frag} {mg : Str → Option Value} {base : Heap}
theorem ok_bag {f : Addr} {fd : FuncData} (F : Fun K "_law_bag" "_law_bag" s_Lbag f fd) (T : Bl mg) : FnOk P w K mg base CX0 1 f fd ["_law_script"] (spBag K) := by
  refine F.ok sc_Lbag (fun vs H Q E h => ?_) (fun cdv A outer s H vs Q E hr h => ?_)
  · obtain ⟨n, ns, rfl, _⟩ := h; rfl
  · obtain ⟨a, ns, rfl, hS, hln, k⟩ := h
    refine ⟨_, (pss_cons (ps_set (i := 1) sc_Lbag.nd rfl (by first | exact Or.inl rfl | exact Or.inr rfl) pe_int)
      (pss_cons (ps_for PassesOwn.never rfl (pi_list (pv 0)) (pg_name (i := 2) sc_Lbag.nd rfl (by first | exact Or.inl rfl | exact Or.inr rfl))
        (pss_one (ps_set (i := 1) sc_Lbag.nd rfl (by first | exact Or.inl rfl | exact Or.inr rfl) (pe_op op_mod (pe_callTy call_int1 (by rfl) T.int PyProof.Rows.boot_int (pa_cons (pe_op op_add (pe_op op_mulW (pv 1) pe_int) (pv 2)) pa_nil)) pe_int))))
      (pss_one (ps_ret (pe_disp (pps_cons pe_str (pe_callTy call_list_of (by rfl) T.list PyProof.Rows.boot_list (pa_cons (pv 0) pa_nil)) (pps_cons pe_str pe_int (pps_cons pe_str pe_int (pps_cons pe_str pe_int (pps_cons pe_str (pv 1) pps_nil))))) (by rfl) (by rfl) (fun z => by cases z) (by decide)))))), ?_⟩
    refine ⟨_, rfl, a, rfl, ⟨_, hS⟩, for_list (K := K) (a := a) (xs := ns.map V.int) (fun i σ H2 => H2 = H ∧ ∃ (fo : Int) (v : Option V), σ = [some (.ref a), some (.int fo), v] ∧ 0 ≤ fo ∧ fo < 4294967296)
      ⟨rfl, 0, none, rfl, by omega, by omega⟩ (fun i σ H2 _ h => by rw [h.1]; exact hS) ?_ ?_⟩
    · rintro i y σ H2 hi ⟨rfl, fo, v, rfl, f0, f1⟩
      obtain ⟨z, rfl⟩ : ∃ z : Int, y = V.int z := by
        rw [List.getElem?_map] at hi
        cases e : ns[i]? with
        | none => rw [e] at hi; cases hi
        | some z => rw [e] at hi; exact ⟨z, (Option.some.inj hi).symm⟩
      refine ⟨_, rfl, _, _, rfl, rfl, cmul (a := 33) (b := 64) (by unfold Bd; omega) (by unfold Bd; decide), _, rfl, _, _, rfl, rfl, .inl ⟨_, rfl, _, _, rfl, rfl, (by show (0 : Int) < _; decide), rfl, _, _, rfl, ?_, ?_⟩⟩
      · exact Int.emod_nonneg _ (by decide)
      · exact Int.lt_trans (Int.emod_lt_of_pos _ (by decide)) (by decide)
    · rintro σ H2 ⟨rfl, fo, v, rfl, f0, f1⟩
      intro p hp
      have hS' : SqL K (upd H2 p (.dK [])) a (ns.map V.int) := by
        rcases hS with (h | ⟨o, h⟩) | h
        · exact .inl (.inl (by rw [upd_ne (ne_of_none h hp)]; exact h))
        · exact .inl (.inr ⟨o, by rw [upd_ne (ne_of_none h hp)]; exact h⟩)
        · exact .inr h
      refine ⟨_, rfl, a, _, rfl, .inl hS', fun c hc => ?_⟩
      have hcp : p ≠ c := ne_of_none upd_same hc
      have hc0 : H2 c = none := by rw [upd_ne hcp.symm] at hc; exact hc
      refine ⟨_, rfl, ?_⟩
      refine ⟨by rw [upd_ne hcp, upd_same], bagKV c 0 0 0 fo, rfl, by show 5 ≤ 15; decide, ?_⟩
      have em : mergeK [] (bagKV c 0 0 0 fo) = bagKV c 0 0 0 fo := mergeK_nd _ [] (by show (([Sum.inr "cells", Sum.inr "at", Sum.inr "digits", Sum.inr "count", Sum.inr "fold"] : List Key)).Nodup; decide +kernel)
      rw [em]
      refine k p _ hp (fun b o hb => ?_) ⟨c, ns, 0, 0, 0, fo, upd_same, by rw [upd_ne hcp.symm, upd_same], by omega, by omega, by omega, by omega, f0, f1⟩
      have h1 : b ≠ p := ne_of_none hb hp
      rw [upd_ne h1, upd_ne (ne_of_none hb hc0), upd_ne h1]
      exact hb
theorem ok_draw {f : Addr} {fd : FuncData} (F : Fun K "_law_draw" "_law_draw" s_Ldraw f fd) (T : Bl mg) : FnOk P w K mg base CX0 1 f fd ["_law_bag_here", "_law_limit"] spDraw := by
  refine F.ok sc_Ldraw (fun vs H Q E h => ?_) (fun cdv A outer s H vs Q E hr h => ?_)
  · obtain ⟨p, n, lim, rfl, _⟩ := h; rfl
  · obtain ⟨p, n, lim, rfl, B, hn, hl0, bl, k⟩ := h
    have hu := hu_of hr
    obtain ⟨c, ns, ix, dg, ct, fo, hp, hc, i0, d0, c0, c1, f0, f1⟩ := B.ex
    have hcp : c ≠ p := ne_of hc hp (by intro z; cases z)
    refine ⟨_, (pss_cons (ps_dput hu (pv 0) pe_str (pe_op op_add (pe_dget hu (pv 0) pe_str (fun _ _ => rfl)) pe_int) rfl)
      (pss_cut (ps_if (PW.pt (pw_and (pt_cmpR op_eq (pe_dget hu (pv 0) pe_str (fun _ _ => rfl)) pe_int (nomark _)) (pw_and1 (pt_cmpR op_lt (pe_dget hu (pv 0) pe_str (fun _ _ => rfl)) (pe_callB call_len_seq (by rfl) T.len PySem.boot_len (pa_cons (pe_dget hu (pv 0) pe_str (fun _ _ => rfl)) pa_nil)) (nomark _)))))
        (pss_cons (ps_set (i := 2) sc_Ldraw.nd rfl (by first | exact Or.inl rfl | exact Or.inr rfl) (pe_ix ix_list (pe_dget hu (pv 0) pe_str (fun _ _ => rfl)) (pe_dget hu (pv 0) pe_str (fun _ _ => rfl)) (fun _ _ => rfl)))
        (pss_cons (ps_dput hu (pv 0) pe_str (pe_op op_add (pe_dget hu (pv 0) pe_str (fun _ _ => rfl)) pe_int) rfl)
        (pss_one (ps_if (pt_cmpR op_ge (pv 2) (pe_op op_pow pe_int pe_int) (nomark _))
          (pss_one (ps_dput hu (pv 0) pe_str (pe_op op_sub (pv 2) (pe_op op_pow pe_int pe_int)) rfl))
          (pss_one (ps_dput hu (pv 0) pe_str (pe_op op_mod (pe_callTy call_int1 (by rfl) T.int PyProof.Rows.boot_int (pa_cons (pe_op op_add (pe_op op_mulW (pe_dget hu (pv 0) pe_str (fun _ _ => rfl)) pe_int) (pv 2)) pa_nil)) pe_int) rfl))))))
        pss_nil)
      (pss_cons (ps_if (pt_cmpR op_gt (pe_dget hu (pv 0) pe_str (fun _ _ => rfl)) pe_int (nomark _))
        (pss_cons (ps_set (i := 3) sc_Ldraw.nd rfl (by first | exact Or.inl rfl | exact Or.inr rfl) (pe_op op_mod (pe_callTy call_int1 (by rfl) T.int PyProof.Rows.boot_int (pa_cons (pe_dget hu (pv 0) pe_str (fun _ _ => rfl)) pa_nil)) (pv 1)))
        (pss_cons (ps_dput hu (pv 0) pe_str (pe_op op_fdivW (pe_dget hu (pv 0) pe_str (fun _ _ => rfl)) (pv 1)) rfl)
        (pss_one (ps_ret (pv 3)))))
        pss_nil)
      (pss_cons (ps_set (i := 4) sc_Ldraw.nd rfl (by first | exact Or.inl rfl | exact Or.inr rfl) (pe_op op_add (pe_op op_add (pe_dget hu (pv 0) pe_str (fun _ _ => rfl)) (pe_op op_mulW (pe_dget hu (pv 0) pe_str (fun _ _ => rfl)) pe_int)) pe_int))
      (pss_cons (ps_set (i := 5) sc_Ldraw.nd rfl (by first | exact Or.inl rfl | exact Or.inr rfl) (pe_op op_fdivW (pe_callTy call_int1 (by rfl) T.int PyProof.Rows.boot_int (pa_cons (pe_op op_mod (pe_op op_pow (pv 4) pe_int) pe_int) pa_nil)) pe_int))
      (pss_one (ps_ret (pe_ifExp (pt_cmpR op_lt (pv 1) (pe_op op_pow pe_int pe_int) (nomark _)) (pe_op op_mod (pv 5) (pv 1)) (pe_op op_mod (pe_callTy call_int1 (by rfl) T.int PyProof.Rows.boot_int (pa_cons (pe_op op_pow (pv 5) pe_int) pa_nil)) (pv 1)))))))))), ?_⟩
    refine ⟨_, rfl, p, _, rfl, g_count hp, _, _, rfl, rfl, _, rfl, p, _, rfl, p_count hp, ?_⟩
    -- behind the first if: a bag again
    refine ⟨fun σ H2 => ∃ (ix' dg' fo' : Int) (v : Option V), σ = [some (.ref p), some (.int lim), v, none, none, none] ∧ H2 p = some (.dK (bagKV c ix' dg' (ct + 1) fo')) ∧ H2 c = some (.lst (ns.map V.int)) ∧ SameBut p H H2 ∧ 0 ≤ ix' ∧ 0 ≤ dg' ∧ 0 ≤ fo' ∧ fo' < 4294967296, ?_, ?_⟩
    · have h1 : (upd H p (.dK (bagKV c ix dg (ct + 1) fo))) p = some (.dK (bagKV c ix dg (ct + 1) fo)) := upd_same
      have h2 : (upd H p (.dK (bagKV c ix dg (ct + 1) fo))) c = some (.lst (ns.map V.int)) := by rw [upd_ne hcp]; exact hc
      have s1 : SameBut p H (upd H p (.dK (bagKV c ix dg (ct + 1) fo))) := (SameBut.refl p H).upd
      generalize upd H p (.dK (bagKV c ix dg (ct + 1) fo)) = H1 at *
      have skip : ∃ (ix' dg' fo' : Int) (v : Option V), ([some (.ref p), some (.int lim), none, none, none, none] : L2.St) = [some (.ref p), some (.int lim), v, none, none, none] ∧ H1 p = some (.dK (bagKV c ix' dg' (ct + 1) fo')) ∧ H1 c = some (.lst (ns.map V.int)) ∧ SameBut p H H1 ∧ 0 ≤ ix' ∧ 0 ≤ dg' ∧ 0 ≤ fo' ∧ fo' < 4294967296 := ⟨ix, dg, fo, none, rfl, h1, h2, s1, i0, d0, f0, f1⟩
      refine ⟨_, rfl, p, _, rfl, g_digits h1, rfl, _, rfl, ifD (fun _ => ?_) (fun _ => iteF skip)⟩
      refine ⟨_, rfl, p, _, rfl, g_at h1, _, rfl, p, _, rfl, g_cells h1, c, _, rfl, .inl (Or.inl (Or.inl h2)), _, _, rfl, rfl, _, rfl, ifD (fun hlt => ?_) (fun _ => skip)⟩
      have hlt' : ix.toNat < ns.length := by
        have : ix < ((ns.map V.int).length : Int) := hlt
        rw [List.length_map] at this
        omega
      obtain ⟨z, hz⟩ : ∃ z, ns[ix.toNat]? = some z := ⟨_, List.getElem?_eq_getElem hlt'⟩
      have hat : atI (ns.map V.int) ix = some (.int z) := by
        have e : ((ix.toNat : Nat) : Int) = ix := Int.toNat_of_nonneg i0
        rw [← e]
        exact atI_nat (by rw [List.getElem?_map, hz]; rfl)
      refine ⟨_, rfl, p, _, rfl, g_cells h1, _, rfl, p, _, rfl, g_at h1, c, _, _, _, rfl, rfl, Or.inl (Or.inl h2), hat, ?_⟩
      refine ⟨_, rfl, p, _, rfl, g_at h1, _, _, rfl, rfl, _, rfl, p, _, rfl, p_at h1, ?_⟩
      refine ⟨_, rfl, _, _, rfl, rfl, ⟨by decide, by decide, by decide⟩, _, _, rfl, rfl, _, rfl, ifD (fun hz => ?_) (fun hz => ?_)⟩
      · refine ⟨_, rfl, _, _, rfl, rfl, ⟨by decide, by decide, by decide⟩, _, _, rfl, rfl, _, rfl, p, _, rfl, p_digits upd_same, ?_⟩
        rw [upd_upd]
        exact ⟨ix + 1, _, fo, _, rfl, upd_same, by rw [upd_ne hcp]; exact h2, s1.upd, by omega, by
          have : (10 : Int) ^ (18 : Int).toNat ≤ z := hz
          show 0 ≤ z - (10 : Int) ^ (18 : Int).toNat
          omega, f0, f1⟩
      · refine ⟨_, rfl, p, _, rfl, g_fold upd_same, _, _, rfl, rfl, cmul (a := 33) (b := 64) (by unfold Bd; omega) (by unfold Bd; decide), _, rfl, _, _, rfl, rfl, .inl ⟨_, rfl, _, _, rfl, rfl, (by show (0 : Int) < _; decide), _, rfl, p, _, rfl, p_fold upd_same, ?_⟩⟩
        rw [upd_upd]
        exact ⟨ix + 1, dg, _, _, rfl, upd_same, by rw [upd_ne hcp]; exact h2, s1.upd, by omega, d0, Int.emod_nonneg _ (by decide), Int.lt_trans (Int.emod_lt_of_pos _ (by decide)) (by decide)⟩
    · rintro σ H2 ⟨ix', dg', fo', v, rfl, h1, h2, s1, i0', d0', f0', f1'⟩
      have bag : ∀ dg2, 0 ≤ dg2 → BagAt (upd H2 p (.dK (bagKV c ix' dg2 (ct + 1) fo'))) p (n + 1) := fun dg2 hd => ⟨c, ns, ix', dg2, ct + 1, fo', upd_same, by rw [upd_ne hcp]; exact h2, i0', hd, by omega, by omega, f0', f1'⟩
      have bag0 : BagAt H2 p (n + 1) := ⟨c, ns, ix', dg', ct + 1, fo', h1, h2, i0', d0', by omega, by omega, f0', f1'⟩
      refine ⟨_, rfl, p, _, rfl, g_digits h1, _, _, rfl, rfl, _, rfl, ifD (fun hd => ?_) (fun hd => ?_)⟩
      · refine ⟨_, rfl, p, _, rfl, g_digits h1, .inl ⟨_, rfl, _, rfl, _, _, rfl, rfl, hl0, ?_⟩⟩
        refine ⟨_, rfl, p, _, rfl, g_digits h1, _, rfl, _, _, rfl, rfl, cdiv hl0 bl, _, rfl, p, _, rfl, p_digits h1, ?_⟩
        exact ⟨_, rfl, k _ _ (Int.emod_nonneg _ (by omega)) (Int.emod_lt_of_pos _ hl0) (bag _ (Int.ediv_nonneg d0' (by omega))) s1.upd⟩
      · refine ⟨_, rfl, p, _, rfl, g_fold h1, _, rfl, p, _, rfl, g_count h1, _, _, rfl, rfl, cmul (a := 64) (b := 64) (by unfold Bd; omega) (by unfold Bd; decide), _, _, rfl, rfl, _, _, rfl, rfl, ?_⟩
        refine ⟨_, rfl, _, _, rfl, rfl, ⟨by decide, by decide, ?_⟩, _, _, rfl, rfl, (by show (0 : Int) < _; decide), .inl ⟨_, rfl, _, _, rfl, rfl, cdiv (by decide) (show Bd 64 128 by unfold Bd; decide), ?_⟩⟩
        · show (fo' + (ct + 1) * 7907 + 31).natAbs < 2 ^ 64
          omega
        · generalize hg : (fo' + (ct + 1) * 7907 + 31 : Int) ^ (17 : Int).toNat % 2305843009213693951 / 128 = g
          have g0 : 0 ≤ g := by rw [← hg]; exact Int.ediv_nonneg (Int.emod_nonneg _ (by decide)) (by decide)
          have g1 : g < 2305843009213693951 := by
            rw [← hg]
            have h1 := Int.emod_lt_of_pos ((fo' + (ct + 1) * 7907 + 31 : Int) ^ (17 : Int).toNat) (show (0 : Int) < 2305843009213693951 by decide)
            have h2 := Int.emod_nonneg ((fo' + (ct + 1) * 7907 + 31 : Int) ^ (17 : Int).toNat) (show (2305843009213693951 : Int) ≠ 0 by decide)
            generalize (fo' + (ct + 1) * 7907 + 31 : Int) ^ (17 : Int).toNat % 2305843009213693951 = y at *
            omega
          refine ⟨_, rfl, _, _, rfl, rfl, ⟨by decide, by decide, by decide⟩, _, _, rfl, rfl, _, rfl, ifD (fun _ => ?_) (fun _ => ?_)⟩
          · exact ⟨_, rfl, _, rfl, _, _, rfl, rfl, hl0, k _ _ (Int.emod_nonneg _ (by omega)) (Int.emod_lt_of_pos _ hl0) bag0 s1⟩
          · refine ⟨_, rfl, _, _, rfl, rfl, ⟨by decide, by decide, ?_⟩, .inl ⟨_, rfl, _, rfl, _, _, rfl, rfl, hl0, k _ _ (Int.emod_nonneg _ (by omega)) (Int.emod_lt_of_pos _ hl0) bag0 s1⟩⟩
            show ((fo' + (ct + 1) * 7907 + 31 : Int) ^ (17 : Int).toNat % 2305843009213693951 / 128).natAbs < 2 ^ 64
            rw [hg]
            omega

end
end Tb

set_option Elab.async false
set_option linter.all false
set_option maxRecDepth 100000
set_option maxHeartbeats 3999000
set_option exponentiation.threshold 6000
namespace Tb
open PySem L2
open C8 (pss_cut tCut)
open PySem.W (Frag)
/-! ### the 18 errors -/
def flOf (k : Nat) : List Str := ([["kind"], ["line"], ["line"], ["what", "many", "most"], ["promise"], ["what"], ["size"], ["number"], ["many"], ["case"], ["word"], ["name"], ["length"], ["part"], ["part"], ["part"], ["gap"], ["index"]] : List (List Str)).getD k []
structure Er (P : Program) (K : Frag) (mg : Str → Option Value) (B : Addr) (C : Nat → Addr) : Prop where
  eB : BaseAt K mg "BlockError" B
  eBadKind : ErrAt P K mg B "BadKind" (C 0) ["kind"]
  eBadLine : ErrAt P K mg B "BadLine" (C 1) ["line"]
  eRefused : ErrAt P K mg B "Refused" (C 2) ["line"]
  eTooMany : ErrAt P K mg B "TooMany" (C 3) ["what", "many", "most"]
  eBadPromise : ErrAt P K mg B "BadPromise" (C 4) ["promise"]
  eBadRule : ErrAt P K mg B "BadRule" (C 5) ["what"]
  eBadSize : ErrAt P K mg B "BadSize" (C 6) ["size"]
  eBadNumber : ErrAt P K mg B "BadNumber" (C 7) ["number"]
  eBadCount : ErrAt P K mg B "BadCount" (C 8) ["many"]
  eBadCase : ErrAt P K mg B "BadCase" (C 9) ["case"]
  eBadOutcomes : ErrAt P K mg B "BadOutcomes" (C 10) ["word"]
  eBadName : ErrAt P K mg B "BadName" (C 11) ["name"]
  eBadLength : ErrAt P K mg B "BadLength" (C 12) ["length"]
  eOtherKinds : ErrAt P K mg B "OtherKinds" (C 13) ["part"]
  eOtherRules : ErrAt P K mg B "OtherRules" (C 14) ["part"]
  eBroken : ErrAt P K mg B "Broken" (C 15) ["part"]
  eBadGap : ErrAt P K mg B "BadGap" (C 16) ["gap"]
  eBadMap : ErrAt P K mg B "BadMap" (C 17) ["index"]
  inj : ∀ i j, i < 18 → j < 18 → C i = C j → i = j
  nb : ∀ i, i < 18 → C i ≠ B
section
variable {P : Program} {w : World} {K : Frag} {mg : Str → Option Value} {base : Heap} {B : Addr} {C : Nat → Addr}
theorem Er.at_ (R : Er P K mg B C) : ∀ k, k < 18 → ∃ x, ErrAt P K mg B x (C k) (flOf k)
  | 0, _ => ⟨_, R.eBadKind⟩
  | 1, _ => ⟨_, R.eBadLine⟩
  | 2, _ => ⟨_, R.eRefused⟩
  | 3, _ => ⟨_, R.eTooMany⟩
  | 4, _ => ⟨_, R.eBadPromise⟩
  | 5, _ => ⟨_, R.eBadRule⟩
  | 6, _ => ⟨_, R.eBadSize⟩
  | 7, _ => ⟨_, R.eBadNumber⟩
  | 8, _ => ⟨_, R.eBadCount⟩
  | 9, _ => ⟨_, R.eBadCase⟩
  | 10, _ => ⟨_, R.eBadOutcomes⟩
  | 11, _ => ⟨_, R.eBadName⟩
  | 12, _ => ⟨_, R.eBadLength⟩
  | 13, _ => ⟨_, R.eOtherKinds⟩
  | 14, _ => ⟨_, R.eOtherRules⟩
  | 15, _ => ⟨_, R.eBroken⟩
  | 16, _ => ⟨_, R.eBadGap⟩
  | 17, _ => ⟨_, R.eBadMap⟩
  | k + 18, h => absurd h (by omega)
theorem Er.exm (R : Er P K mg B C) {i j : Nat} (hi : i < 18) (hj : j < 18) : PySem.W.exmOne K (.ref (C i)) (.ref (C j)) = some (decide (i = j)) := by
  obtain ⟨x, a⟩ := R.at_ i hi
  obtain ⟨y, b⟩ := R.at_ j hj
  rw [a.exm b (R.nb j hj)]
  congr 1
  exact decide_eq_decide.mpr ⟨R.inj i j hi hj, fun e => by rw [e]⟩
theorem Er.kit (R : Er P K mg B C) {i j : Nat} (hi : i < 18) (hj : j < 18) : PySem.W.kitOne K (.ref (C i)) (.ref (C j)) = some (decide (i = j)) := by
  obtain ⟨x, a⟩ := R.at_ i hi
  obtain ⟨y, b⟩ := R.at_ j hj
  rw [a.kit b (R.nb j hj)]
  congr 1
  exact decide_eq_decide.mpr ⟨R.inj i j hi hj, fun e => by rw [e]⟩
/-- raised: the error k with its fields -/
def spRaise (C : Nat → Addr) (lo hi : Nat) : Sp := fun vs H _ E => ∃ (k : Nat) (a b c : V), vs = [.int k, a, b, c] ∧ lo ≤ k ∧ k < hi ∧ ∀ d, H d = none → E (.ref (C k)) (some d) (upd H d (.xd ((flOf k).zip [a, b, c]).reverse))
theorem ok_raised0 {f : Addr} {fd : FuncData} (F : Fun K "_law_raised_0" "_law_raised_0" s_Lraised_0 f fd) (R : Er P K mg B C) : FnOk P w K mg base (L2.CX P w) 3 f fd ["_law_k", "_law_a", "_law_b", "_law_c"] (spRaise C 0 8) := by
  refine F.okX sc_Lraised_0 (fun vs H Q E h => ?_) (fun cdv A outer s H vs Q E hr h => ?_)
  · obtain ⟨k, a, b, c, rfl, _⟩ := h; rfl
  · obtain ⟨k, a, b, c, rfl, h1, h2, q⟩ := h
    refine ⟨_, (pss_cons (ps_if (pt_cmpR op_eq (pv 0) pe_int (nomark _))
        (pss_one (ps_raise rfl (takes_of rfl rfl rfl rfl) (pmk_x R.eBadKind.has (hr.mono (by decide)) rfl (pa_cons (pv 1) pa_nil))))
        pss_nil)
      (pss_cons (ps_if (pt_cmpR op_eq (pv 0) pe_int (nomark _))
        (pss_one (ps_raise rfl (takes_of rfl rfl rfl rfl) (pmk_x R.eBadLine.has (hr.mono (by decide)) rfl (pa_cons (pv 1) pa_nil))))
        pss_nil)
      (pss_cons (ps_if (pt_cmpR op_eq (pv 0) pe_int (nomark _))
        (pss_one (ps_raise rfl (takes_of rfl rfl rfl rfl) (pmk_x R.eRefused.has (hr.mono (by decide)) rfl (pa_cons (pv 1) pa_nil))))
        pss_nil)
      (pss_cons (ps_if (pt_cmpR op_eq (pv 0) pe_int (nomark _))
        (pss_one (ps_raise rfl (takes_of rfl rfl rfl rfl) (pmk_x R.eTooMany.has (hr.mono (by decide)) rfl (pa_cons (pv 1) (pa_cons (pv 2) (pa_cons (pv 3) pa_nil))))))
        pss_nil)
      (pss_cons (ps_if (pt_cmpR op_eq (pv 0) pe_int (nomark _))
        (pss_one (ps_raise rfl (takes_of rfl rfl rfl rfl) (pmk_x R.eBadPromise.has (hr.mono (by decide)) rfl (pa_cons (pv 1) pa_nil))))
        pss_nil)
      (pss_cons (ps_if (pt_cmpR op_eq (pv 0) pe_int (nomark _))
        (pss_one (ps_raise rfl (takes_of rfl rfl rfl rfl) (pmk_x R.eBadRule.has (hr.mono (by decide)) rfl (pa_cons (pv 1) pa_nil))))
        pss_nil)
      (pss_cons (ps_if (pt_cmpR op_eq (pv 0) pe_int (nomark _))
        (pss_one (ps_raise rfl (takes_of rfl rfl rfl rfl) (pmk_x R.eBadSize.has (hr.mono (by decide)) rfl (pa_cons (pv 1) pa_nil))))
        pss_nil)
      (pss_cons (ps_if (pt_cmpR op_eq (pv 0) pe_int (nomark _))
        (pss_one (ps_raise rfl (takes_of rfl rfl rfl rfl) (pmk_x R.eBadNumber.has (hr.mono (by decide)) rfl (pa_cons (pv 1) pa_nil))))
        pss_nil)
      (pss_one (ps_ret pe_non)))))))))), ?_⟩
    refine ⟨_, rfl, rfl, _, rfl, ifD (fun e => ?_) (fun ne => ?_)⟩
    · obtain rfl : k = 0 := by have : (k : Int) = 0 := V.int.inj e; omega
      exact ⟨_, rfl, rfl, q⟩
    have n0 : k ≠ 0 := fun z => ne (by subst z; rfl)
    refine ⟨_, rfl, rfl, _, rfl, ifD (fun e => ?_) (fun ne => ?_)⟩
    · obtain rfl : k = 1 := by have : (k : Int) = 1 := V.int.inj e; omega
      exact ⟨_, rfl, rfl, q⟩
    have n1 : k ≠ 1 := fun z => ne (by subst z; rfl)
    refine ⟨_, rfl, rfl, _, rfl, ifD (fun e => ?_) (fun ne => ?_)⟩
    · obtain rfl : k = 2 := by have : (k : Int) = 2 := V.int.inj e; omega
      exact ⟨_, rfl, rfl, q⟩
    have n2 : k ≠ 2 := fun z => ne (by subst z; rfl)
    refine ⟨_, rfl, rfl, _, rfl, ifD (fun e => ?_) (fun ne => ?_)⟩
    · obtain rfl : k = 3 := by have : (k : Int) = 3 := V.int.inj e; omega
      exact ⟨_, rfl, _, rfl, _, rfl, rfl, q⟩
    have n3 : k ≠ 3 := fun z => ne (by subst z; rfl)
    refine ⟨_, rfl, rfl, _, rfl, ifD (fun e => ?_) (fun ne => ?_)⟩
    · obtain rfl : k = 4 := by have : (k : Int) = 4 := V.int.inj e; omega
      exact ⟨_, rfl, rfl, q⟩
    have n4 : k ≠ 4 := fun z => ne (by subst z; rfl)
    refine ⟨_, rfl, rfl, _, rfl, ifD (fun e => ?_) (fun ne => ?_)⟩
    · obtain rfl : k = 5 := by have : (k : Int) = 5 := V.int.inj e; omega
      exact ⟨_, rfl, rfl, q⟩
    have n5 : k ≠ 5 := fun z => ne (by subst z; rfl)
    refine ⟨_, rfl, rfl, _, rfl, ifD (fun e => ?_) (fun ne => ?_)⟩
    · obtain rfl : k = 6 := by have : (k : Int) = 6 := V.int.inj e; omega
      exact ⟨_, rfl, rfl, q⟩
    have n6 : k ≠ 6 := fun z => ne (by subst z; rfl)
    refine ⟨_, rfl, rfl, _, rfl, ifD (fun e => ?_) (fun ne => ?_)⟩
    · obtain rfl : k = 7 := by have : (k : Int) = 7 := V.int.inj e; omega
      exact ⟨_, rfl, rfl, q⟩
    have n7 : k ≠ 7 := fun z => ne (by subst z; rfl)
    omega
theorem ok_raised1 {f : Addr} {fd : FuncData} (F : Fun K "_law_raised_1" "_law_raised_1" s_Lraised_1 f fd) (R : Er P K mg B C) : FnOk P w K mg base (L2.CX P w) 3 f fd ["_law_k", "_law_a", "_law_b", "_law_c"] (spRaise C 8 16) := by
  refine F.okX sc_Lraised_1 (fun vs H Q E h => ?_) (fun cdv A outer s H vs Q E hr h => ?_)
  · obtain ⟨k, a, b, c, rfl, _⟩ := h; rfl
  · obtain ⟨k, a, b, c, rfl, h1, h2, q⟩ := h
    refine ⟨_, (pss_cons (ps_if (pt_cmpR op_eq (pv 0) pe_int (nomark _))
        (pss_one (ps_raise rfl (takes_of rfl rfl rfl rfl) (pmk_x R.eBadCount.has (hr.mono (by decide)) rfl (pa_cons (pv 1) pa_nil))))
        pss_nil)
      (pss_cons (ps_if (pt_cmpR op_eq (pv 0) pe_int (nomark _))
        (pss_one (ps_raise rfl (takes_of rfl rfl rfl rfl) (pmk_x R.eBadCase.has (hr.mono (by decide)) rfl (pa_cons (pv 1) pa_nil))))
        pss_nil)
      (pss_cons (ps_if (pt_cmpR op_eq (pv 0) pe_int (nomark _))
        (pss_one (ps_raise rfl (takes_of rfl rfl rfl rfl) (pmk_x R.eBadOutcomes.has (hr.mono (by decide)) rfl (pa_cons (pv 1) pa_nil))))
        pss_nil)
      (pss_cons (ps_if (pt_cmpR op_eq (pv 0) pe_int (nomark _))
        (pss_one (ps_raise rfl (takes_of rfl rfl rfl rfl) (pmk_x R.eBadName.has (hr.mono (by decide)) rfl (pa_cons (pv 1) pa_nil))))
        pss_nil)
      (pss_cons (ps_if (pt_cmpR op_eq (pv 0) pe_int (nomark _))
        (pss_one (ps_raise rfl (takes_of rfl rfl rfl rfl) (pmk_x R.eBadLength.has (hr.mono (by decide)) rfl (pa_cons (pv 1) pa_nil))))
        pss_nil)
      (pss_cons (ps_if (pt_cmpR op_eq (pv 0) pe_int (nomark _))
        (pss_one (ps_raise rfl (takes_of rfl rfl rfl rfl) (pmk_x R.eOtherKinds.has (hr.mono (by decide)) rfl (pa_cons (pv 1) pa_nil))))
        pss_nil)
      (pss_cons (ps_if (pt_cmpR op_eq (pv 0) pe_int (nomark _))
        (pss_one (ps_raise rfl (takes_of rfl rfl rfl rfl) (pmk_x R.eOtherRules.has (hr.mono (by decide)) rfl (pa_cons (pv 1) pa_nil))))
        pss_nil)
      (pss_cons (ps_if (pt_cmpR op_eq (pv 0) pe_int (nomark _))
        (pss_one (ps_raise rfl (takes_of rfl rfl rfl rfl) (pmk_x R.eBroken.has (hr.mono (by decide)) rfl (pa_cons (pv 1) pa_nil))))
        pss_nil)
      (pss_one (ps_ret pe_non)))))))))), ?_⟩
    refine ⟨_, rfl, rfl, _, rfl, ifD (fun e => ?_) (fun ne => ?_)⟩
    · obtain rfl : k = 8 := by have : (k : Int) = 8 := V.int.inj e; omega
      exact ⟨_, rfl, rfl, q⟩
    have n8 : k ≠ 8 := fun z => ne (by subst z; rfl)
    refine ⟨_, rfl, rfl, _, rfl, ifD (fun e => ?_) (fun ne => ?_)⟩
    · obtain rfl : k = 9 := by have : (k : Int) = 9 := V.int.inj e; omega
      exact ⟨_, rfl, rfl, q⟩
    have n9 : k ≠ 9 := fun z => ne (by subst z; rfl)
    refine ⟨_, rfl, rfl, _, rfl, ifD (fun e => ?_) (fun ne => ?_)⟩
    · obtain rfl : k = 10 := by have : (k : Int) = 10 := V.int.inj e; omega
      exact ⟨_, rfl, rfl, q⟩
    have n10 : k ≠ 10 := fun z => ne (by subst z; rfl)
    refine ⟨_, rfl, rfl, _, rfl, ifD (fun e => ?_) (fun ne => ?_)⟩
    · obtain rfl : k = 11 := by have : (k : Int) = 11 := V.int.inj e; omega
      exact ⟨_, rfl, rfl, q⟩
    have n11 : k ≠ 11 := fun z => ne (by subst z; rfl)
    refine ⟨_, rfl, rfl, _, rfl, ifD (fun e => ?_) (fun ne => ?_)⟩
    · obtain rfl : k = 12 := by have : (k : Int) = 12 := V.int.inj e; omega
      exact ⟨_, rfl, rfl, q⟩
    have n12 : k ≠ 12 := fun z => ne (by subst z; rfl)
    refine ⟨_, rfl, rfl, _, rfl, ifD (fun e => ?_) (fun ne => ?_)⟩
    · obtain rfl : k = 13 := by have : (k : Int) = 13 := V.int.inj e; omega
      exact ⟨_, rfl, rfl, q⟩
    have n13 : k ≠ 13 := fun z => ne (by subst z; rfl)
    refine ⟨_, rfl, rfl, _, rfl, ifD (fun e => ?_) (fun ne => ?_)⟩
    · obtain rfl : k = 14 := by have : (k : Int) = 14 := V.int.inj e; omega
      exact ⟨_, rfl, rfl, q⟩
    have n14 : k ≠ 14 := fun z => ne (by subst z; rfl)
    refine ⟨_, rfl, rfl, _, rfl, ifD (fun e => ?_) (fun ne => ?_)⟩
    · obtain rfl : k = 15 := by have : (k : Int) = 15 := V.int.inj e; omega
      exact ⟨_, rfl, rfl, q⟩
    have n15 : k ≠ 15 := fun z => ne (by subst z; rfl)
    omega
theorem ok_raised2 {f : Addr} {fd : FuncData} (F : Fun K "_law_raised_2" "_law_raised_2" s_Lraised_2 f fd) (R : Er P K mg B C) : FnOk P w K mg base (L2.CX P w) 3 f fd ["_law_k", "_law_a", "_law_b", "_law_c"] (spRaise C 16 18) := by
  refine F.okX sc_Lraised_2 (fun vs H Q E h => ?_) (fun cdv A outer s H vs Q E hr h => ?_)
  · obtain ⟨k, a, b, c, rfl, _⟩ := h; rfl
  · obtain ⟨k, a, b, c, rfl, h1, h2, q⟩ := h
    refine ⟨_, (pss_cons (ps_if (pt_cmpR op_eq (pv 0) pe_int (nomark _))
        (pss_one (ps_raise rfl (takes_of rfl rfl rfl rfl) (pmk_x R.eBadGap.has (hr.mono (by decide)) rfl (pa_cons (pv 1) pa_nil))))
        pss_nil)
      (pss_cons (ps_if (pt_cmpR op_eq (pv 0) pe_int (nomark _))
        (pss_one (ps_raise rfl (takes_of rfl rfl rfl rfl) (pmk_x R.eBadMap.has (hr.mono (by decide)) rfl (pa_cons (pv 1) pa_nil))))
        pss_nil)
      (pss_one (ps_ret pe_non)))), ?_⟩
    refine ⟨_, rfl, rfl, _, rfl, ifD (fun e => ?_) (fun ne => ?_)⟩
    · obtain rfl : k = 16 := by have : (k : Int) = 16 := V.int.inj e; omega
      exact ⟨_, rfl, rfl, q⟩
    have n16 : k ≠ 16 := fun z => ne (by subst z; rfl)
    refine ⟨_, rfl, rfl, _, rfl, ifD (fun e => ?_) (fun ne => ?_)⟩
    · obtain rfl : k = 17 := by have : (k : Int) = 17 := V.int.inj e; omega
      exact ⟨_, rfl, rfl, q⟩
    have n17 : k ≠ 17 := fun z => ne (by subst z; rfl)
    omega
theorem ok_raised {f : Addr} {fd : FuncData} (F : Fun K "_law_raised" "_law_raised" s_Lraised f fd) (hL_raised_0 : HasE P w K mg base "_law_raised_0" 3 (spRaise C 0 8)) (hL_raised_1 : HasE P w K mg base "_law_raised_1" 3 (spRaise C 8 16)) (hL_raised_2 : HasE P w K mg base "_law_raised_2" 3 (spRaise C 16 18)) : FnOk P w K mg base (L2.CX P w) 4 f fd ["_law_k", "_law_a", "_law_b", "_law_c"] (spRaise C 0 18) := by
  refine F.okX sc_Lraised (fun vs H Q E h => ?_) (fun cdv A outer s H vs Q E hr h => ?_)
  · obtain ⟨k, a, b, c, rfl, _⟩ := h; rfl
  · obtain ⟨k, a, b, c, rfl, h1, h2, q⟩ := h
    refine ⟨_, (pss_cons (ps_if (pt_cmpR op_lt (pv 0) pe_int (nomark _))
        (pss_one (ps_ret (pe_fnE hL_raised_0 (hr.mono (by decide)) (takes_of rfl rfl rfl rfl) rfl (pa_cons (pv 0) (pa_cons (pv 1) (pa_cons (pv 2) (pa_cons (pv 3) pa_nil)))))))
        pss_nil)
      (pss_cons (ps_if (pt_cmpR op_lt (pv 0) pe_int (nomark _))
        (pss_one (ps_ret (pe_fnE hL_raised_1 (hr.mono (by decide)) (takes_of rfl rfl rfl rfl) rfl (pa_cons (pv 0) (pa_cons (pv 1) (pa_cons (pv 2) (pa_cons (pv 3) pa_nil)))))))
        pss_nil)
      (pss_one (ps_ret (pe_fnE hL_raised_2 (hr.mono (by decide)) (takes_of rfl rfl rfl rfl) rfl (pa_cons (pv 0) (pa_cons (pv 1) (pa_cons (pv 2) (pa_cons (pv 3) pa_nil))))))))), ?_⟩
    refine ⟨_, rfl, _, _, rfl, rfl, _, rfl, ifD (fun e => ⟨_, rfl, _, rfl, _, rfl, _, rfl, k, a, b, c, rfl, h1, by omega, q⟩) (fun ne => ⟨_, rfl, _, _, rfl, rfl, _, rfl, ifD (fun e => ⟨_, rfl, _, rfl, _, rfl, _, rfl, k, a, b, c, rfl, by omega, by omega, q⟩) (fun ne => ⟨_, rfl, _, rfl, _, rfl, _, rfl, k, a, b, c, rfl, by omega, h2, q⟩)⟩)⟩
end
end Tb

set_option Elab.async false
set_option linter.all false
set_option maxRecDepth 100000
set_option maxHeartbeats 3999000
set_option exponentiation.threshold 6000
namespace Tb
open PySem L2
open C8 (pss_cut tCut)
open PySem.W (Frag)
section
variable {P : Program} {w : World} {K : Frag} {mg : Str → Option Value} {base : Heap} {B : Addr} {C : Nat → Addr}
def szOf (k : Nat) : Nat := ([1, 1, 1, 3, 1, 1, 1, 1, 1, 1, 1, 1, 1, 1, 1, 1, 1, 1] : List Nat).getD k 0
/-- the fields of the error k, told as a list -/
def spFields (lo hi : Nat) : Sp := fun vs H Q _ => ∃ (k : Nat) (a b c : V), vs = [.int k, a, b, c] ∧ lo ≤ k ∧ k < hi ∧ ∀ p H', Same H H' → H' p = some (.lst ([a, b, c].take (szOf k))) → Q (.ref p) H'
theorem ok_fields0 {f : Addr} {fd : FuncData} (F : Fun K "_law_fields_0" "_law_fields_0" s_Lfields_0 f fd) (R : Er P K mg B C) (hL_raised_0 : HasE P w K mg base "_law_raised_0" 3 (spRaise C 0 8)) : FnOk P w K mg base CX0 4 f fd ["_law_k", "_law_a", "_law_b", "_law_c"] (spFields 0 8) := by
  refine F.ok sc_Lfields_0 (fun vs H Q E h => ?_) (fun cdv A outer s H vs Q E hr h => ?_)
  · obtain ⟨k, a, b, c, rfl, _⟩ := h; rfl
  · obtain ⟨k, a, b, c, rfl, h1, h2, q⟩ := h
    refine ⟨_, (pss_cons (ps_set (i := 4) sc_Lfields_0.nd rfl (by first | exact Or.inl rfl | exact Or.inr rfl) (pe_lst pa_nil))
      (pss_cons (ps_try_cls (Wo := fun _ _ _ _ => False) rfl rfl sc_Lfields_0.nd takes0 (fun W pn xe tk _ => (pss_one (ps_expr (pe_fnE hL_raised_0 (hr.mono (by decide)) tk rfl (pa_cons (pv 0) (pa_cons (pv 1) (pa_cons (pv 2) (pa_cons (pv 3) pa_nil))))))))
        (ClsOk.cons (z := ⟨.ref _, 5, _⟩) ⟨rfl, by decide, .inl R.eBadKind.has.at_⟩ rfl rfl (fun a oe cls d pn hz hf => (pss_one (ps_set (i := 4) sc_Lfields_0.nd rfl (by first | exact Or.inl rfl | exact Or.inr rfl) (pe_lst (pa_cons (pe_xfE R.eBadKind (by decide) hz hf (pv 5)) pa_nil)))))
        (ClsOk.cons (z := ⟨.ref _, 5, _⟩) ⟨rfl, by decide, .inl R.eBadLine.has.at_⟩ rfl rfl (fun a oe cls d pn hz hf => (pss_one (ps_set (i := 4) sc_Lfields_0.nd rfl (by first | exact Or.inl rfl | exact Or.inr rfl) (pe_lst (pa_cons (pe_xfE R.eBadLine (by decide) hz hf (pv 5)) pa_nil)))))
        (ClsOk.cons (z := ⟨.ref _, 5, _⟩) ⟨rfl, by decide, .inl R.eRefused.has.at_⟩ rfl rfl (fun a oe cls d pn hz hf => (pss_one (ps_set (i := 4) sc_Lfields_0.nd rfl (by first | exact Or.inl rfl | exact Or.inr rfl) (pe_lst (pa_cons (pe_xfE R.eRefused (by decide) hz hf (pv 5)) pa_nil)))))
        (ClsOk.cons (z := ⟨.ref _, 5, _⟩) ⟨rfl, by decide, .inl R.eTooMany.has.at_⟩ rfl rfl (fun a oe cls d pn hz hf => (pss_one (ps_set (i := 4) sc_Lfields_0.nd rfl (by first | exact Or.inl rfl | exact Or.inr rfl) (pe_lst (pa_cons (pe_xfE R.eTooMany (by decide) hz hf (pv 5)) (pa_cons (pe_xfE R.eTooMany (by decide) hz hf (pv 5)) (pa_cons (pe_xfE R.eTooMany (by decide) hz hf (pv 5)) pa_nil)))))))
        (ClsOk.cons (z := ⟨.ref _, 5, _⟩) ⟨rfl, by decide, .inl R.eBadPromise.has.at_⟩ rfl rfl (fun a oe cls d pn hz hf => (pss_one (ps_set (i := 4) sc_Lfields_0.nd rfl (by first | exact Or.inl rfl | exact Or.inr rfl) (pe_lst (pa_cons (pe_xfE R.eBadPromise (by decide) hz hf (pv 5)) pa_nil)))))
        (ClsOk.cons (z := ⟨.ref _, 5, _⟩) ⟨rfl, by decide, .inl R.eBadRule.has.at_⟩ rfl rfl (fun a oe cls d pn hz hf => (pss_one (ps_set (i := 4) sc_Lfields_0.nd rfl (by first | exact Or.inl rfl | exact Or.inr rfl) (pe_lst (pa_cons (pe_xfE R.eBadRule (by decide) hz hf (pv 5)) pa_nil)))))
        (ClsOk.cons (z := ⟨.ref _, 5, _⟩) ⟨rfl, by decide, .inl R.eBadSize.has.at_⟩ rfl rfl (fun a oe cls d pn hz hf => (pss_one (ps_set (i := 4) sc_Lfields_0.nd rfl (by first | exact Or.inl rfl | exact Or.inr rfl) (pe_lst (pa_cons (pe_xfE R.eBadSize (by decide) hz hf (pv 5)) pa_nil)))))
        (ClsOk.cons (z := ⟨.ref _, 5, _⟩) ⟨rfl, by decide, .inl R.eBadNumber.has.at_⟩ rfl rfl (fun a oe cls d pn hz hf => (pss_one (ps_set (i := 4) sc_Lfields_0.nd rfl (by first | exact Or.inl rfl | exact Or.inr rfl) (pe_lst (pa_cons (pe_xfE R.eBadNumber (by decide) hz hf (pv 5)) pa_nil)))))
        ClsOk.nil)))))))))
      (pss_one (ps_ret (pv 4))))), ?_⟩
    refine ⟨(by show 0 ≤ sizeLine; decide), fun p0 hp0 => ?_⟩
    refine ⟨_, rfl, _, rfl, _, rfl, _, rfl, k, a, b, c, rfl, h1, h2, fun d hd => ?_⟩
    have s1 : Same H (upd H p0 (.lst [])) := same_new (fun _ _ z => z) hp0
    generalize upd H p0 (.lst []) = H1 at hd s1 ⊢
    have fin : ∀ k', (flOf k').length ≤ 3 → Same H (upd H1 d (.xd ((flOf k').zip [a, b, c]).reverse)) := fun k' _ => same_new s1 hd
    have hk : k = 0 ∨ k = 1 ∨ k = 2 ∨ k = 3 ∨ k = 4 ∨ k = 5 ∨ k = 6 ∨ k = 7 := by omega
    rcases hk with rfl | rfl | rfl | rfl | rfl | rfl | rfl | rfl
    · exact ⟨true, R.exm (i := 0) (j := 0) (by decide) (by decide), fun _ x hx => ⟨_, rfl, rfl, rfl, d, _, _, rfl, upd_same, (by exact lk_eq), (by show 1 ≤ sizeLine; decide), fun p hp => ⟨_, rfl, q _ _ (same_new (fin 0 (by decide)) hp) upd_same⟩⟩, (fun z => nomatch z)⟩
    · exact ⟨false, R.exm (i := 1) (j := 0) (by decide) (by decide), (fun z => nomatch z), fun _ => ⟨true, R.exm (i := 1) (j := 1) (by decide) (by decide), fun _ x hx => ⟨_, rfl, rfl, rfl, d, _, _, rfl, upd_same, (by exact lk_eq), (by show 1 ≤ sizeLine; decide), fun p hp => ⟨_, rfl, q _ _ (same_new (fin 1 (by decide)) hp) upd_same⟩⟩, (fun z => nomatch z)⟩⟩
    · exact ⟨false, R.exm (i := 2) (j := 0) (by decide) (by decide), (fun z => nomatch z), fun _ => ⟨false, R.exm (i := 2) (j := 1) (by decide) (by decide), (fun z => nomatch z), fun _ => ⟨true, R.exm (i := 2) (j := 2) (by decide) (by decide), fun _ x hx => ⟨_, rfl, rfl, rfl, d, _, _, rfl, upd_same, (by exact lk_eq), (by show 1 ≤ sizeLine; decide), fun p hp => ⟨_, rfl, q _ _ (same_new (fin 2 (by decide)) hp) upd_same⟩⟩, (fun z => nomatch z)⟩⟩⟩
    · exact ⟨false, R.exm (i := 3) (j := 0) (by decide) (by decide), (fun z => nomatch z), fun _ => ⟨false, R.exm (i := 3) (j := 1) (by decide) (by decide), (fun z => nomatch z), fun _ => ⟨false, R.exm (i := 3) (j := 2) (by decide) (by decide), (fun z => nomatch z), fun _ => ⟨true, R.exm (i := 3) (j := 3) (by decide) (by decide), fun _ x hx => ⟨_, rfl, rfl, rfl, d, _, _, rfl, upd_same, (by refine (lk_ne (by decide +kernel)).trans ?_ ; refine (lk_ne (by decide +kernel)).trans ?_ ; exact lk_eq), _, rfl, rfl, rfl, d, _, _, rfl, upd_same, (by refine (lk_ne (by decide +kernel)).trans ?_ ; exact lk_eq), _, rfl, rfl, rfl, d, _, _, rfl, upd_same, (by exact lk_eq), (by show 3 ≤ sizeLine; decide), fun p hp => ⟨_, rfl, q _ _ (same_new (fin 3 (by decide)) hp) upd_same⟩⟩, (fun z => nomatch z)⟩⟩⟩⟩
    · exact ⟨false, R.exm (i := 4) (j := 0) (by decide) (by decide), (fun z => nomatch z), fun _ => ⟨false, R.exm (i := 4) (j := 1) (by decide) (by decide), (fun z => nomatch z), fun _ => ⟨false, R.exm (i := 4) (j := 2) (by decide) (by decide), (fun z => nomatch z), fun _ => ⟨false, R.exm (i := 4) (j := 3) (by decide) (by decide), (fun z => nomatch z), fun _ => ⟨true, R.exm (i := 4) (j := 4) (by decide) (by decide), fun _ x hx => ⟨_, rfl, rfl, rfl, d, _, _, rfl, upd_same, (by exact lk_eq), (by show 1 ≤ sizeLine; decide), fun p hp => ⟨_, rfl, q _ _ (same_new (fin 4 (by decide)) hp) upd_same⟩⟩, (fun z => nomatch z)⟩⟩⟩⟩⟩
    · exact ⟨false, R.exm (i := 5) (j := 0) (by decide) (by decide), (fun z => nomatch z), fun _ => ⟨false, R.exm (i := 5) (j := 1) (by decide) (by decide), (fun z => nomatch z), fun _ => ⟨false, R.exm (i := 5) (j := 2) (by decide) (by decide), (fun z => nomatch z), fun _ => ⟨false, R.exm (i := 5) (j := 3) (by decide) (by decide), (fun z => nomatch z), fun _ => ⟨false, R.exm (i := 5) (j := 4) (by decide) (by decide), (fun z => nomatch z), fun _ => ⟨true, R.exm (i := 5) (j := 5) (by decide) (by decide), fun _ x hx => ⟨_, rfl, rfl, rfl, d, _, _, rfl, upd_same, (by exact lk_eq), (by show 1 ≤ sizeLine; decide), fun p hp => ⟨_, rfl, q _ _ (same_new (fin 5 (by decide)) hp) upd_same⟩⟩, (fun z => nomatch z)⟩⟩⟩⟩⟩⟩
    · exact ⟨false, R.exm (i := 6) (j := 0) (by decide) (by decide), (fun z => nomatch z), fun _ => ⟨false, R.exm (i := 6) (j := 1) (by decide) (by decide), (fun z => nomatch z), fun _ => ⟨false, R.exm (i := 6) (j := 2) (by decide) (by decide), (fun z => nomatch z), fun _ => ⟨false, R.exm (i := 6) (j := 3) (by decide) (by decide), (fun z => nomatch z), fun _ => ⟨false, R.exm (i := 6) (j := 4) (by decide) (by decide), (fun z => nomatch z), fun _ => ⟨false, R.exm (i := 6) (j := 5) (by decide) (by decide), (fun z => nomatch z), fun _ => ⟨true, R.exm (i := 6) (j := 6) (by decide) (by decide), fun _ x hx => ⟨_, rfl, rfl, rfl, d, _, _, rfl, upd_same, (by exact lk_eq), (by show 1 ≤ sizeLine; decide), fun p hp => ⟨_, rfl, q _ _ (same_new (fin 6 (by decide)) hp) upd_same⟩⟩, (fun z => nomatch z)⟩⟩⟩⟩⟩⟩⟩
    · exact ⟨false, R.exm (i := 7) (j := 0) (by decide) (by decide), (fun z => nomatch z), fun _ => ⟨false, R.exm (i := 7) (j := 1) (by decide) (by decide), (fun z => nomatch z), fun _ => ⟨false, R.exm (i := 7) (j := 2) (by decide) (by decide), (fun z => nomatch z), fun _ => ⟨false, R.exm (i := 7) (j := 3) (by decide) (by decide), (fun z => nomatch z), fun _ => ⟨false, R.exm (i := 7) (j := 4) (by decide) (by decide), (fun z => nomatch z), fun _ => ⟨false, R.exm (i := 7) (j := 5) (by decide) (by decide), (fun z => nomatch z), fun _ => ⟨false, R.exm (i := 7) (j := 6) (by decide) (by decide), (fun z => nomatch z), fun _ => ⟨true, R.exm (i := 7) (j := 7) (by decide) (by decide), fun _ x hx => ⟨_, rfl, rfl, rfl, d, _, _, rfl, upd_same, (by exact lk_eq), (by show 1 ≤ sizeLine; decide), fun p hp => ⟨_, rfl, q _ _ (same_new (fin 7 (by decide)) hp) upd_same⟩⟩, (fun z => nomatch z)⟩⟩⟩⟩⟩⟩⟩⟩
theorem ok_fields1 {f : Addr} {fd : FuncData} (F : Fun K "_law_fields_1" "_law_fields_1" s_Lfields_1 f fd) (R : Er P K mg B C) (hL_raised_1 : HasE P w K mg base "_law_raised_1" 3 (spRaise C 8 16)) : FnOk P w K mg base CX0 4 f fd ["_law_k", "_law_a", "_law_b", "_law_c"] (spFields 8 16) := by
  refine F.ok sc_Lfields_1 (fun vs H Q E h => ?_) (fun cdv A outer s H vs Q E hr h => ?_)
  · obtain ⟨k, a, b, c, rfl, _⟩ := h; rfl
  · obtain ⟨k, a, b, c, rfl, h1, h2, q⟩ := h
    refine ⟨_, (pss_cons (ps_set (i := 4) sc_Lfields_1.nd rfl (by first | exact Or.inl rfl | exact Or.inr rfl) (pe_lst pa_nil))
      (pss_cons (ps_try_cls (Wo := fun _ _ _ _ => False) rfl rfl sc_Lfields_1.nd takes0 (fun W pn xe tk _ => (pss_one (ps_expr (pe_fnE hL_raised_1 (hr.mono (by decide)) tk rfl (pa_cons (pv 0) (pa_cons (pv 1) (pa_cons (pv 2) (pa_cons (pv 3) pa_nil))))))))
        (ClsOk.cons (z := ⟨.ref _, 5, _⟩) ⟨rfl, by decide, .inl R.eBadCount.has.at_⟩ rfl rfl (fun a oe cls d pn hz hf => (pss_one (ps_set (i := 4) sc_Lfields_1.nd rfl (by first | exact Or.inl rfl | exact Or.inr rfl) (pe_lst (pa_cons (pe_xfE R.eBadCount (by decide) hz hf (pv 5)) pa_nil)))))
        (ClsOk.cons (z := ⟨.ref _, 5, _⟩) ⟨rfl, by decide, .inl R.eBadCase.has.at_⟩ rfl rfl (fun a oe cls d pn hz hf => (pss_one (ps_set (i := 4) sc_Lfields_1.nd rfl (by first | exact Or.inl rfl | exact Or.inr rfl) (pe_lst (pa_cons (pe_xfE R.eBadCase (by decide) hz hf (pv 5)) pa_nil)))))
        (ClsOk.cons (z := ⟨.ref _, 5, _⟩) ⟨rfl, by decide, .inl R.eBadOutcomes.has.at_⟩ rfl rfl (fun a oe cls d pn hz hf => (pss_one (ps_set (i := 4) sc_Lfields_1.nd rfl (by first | exact Or.inl rfl | exact Or.inr rfl) (pe_lst (pa_cons (pe_xfE R.eBadOutcomes (by decide) hz hf (pv 5)) pa_nil)))))
        (ClsOk.cons (z := ⟨.ref _, 5, _⟩) ⟨rfl, by decide, .inl R.eBadName.has.at_⟩ rfl rfl (fun a oe cls d pn hz hf => (pss_one (ps_set (i := 4) sc_Lfields_1.nd rfl (by first | exact Or.inl rfl | exact Or.inr rfl) (pe_lst (pa_cons (pe_xfE R.eBadName (by decide) hz hf (pv 5)) pa_nil)))))
        (ClsOk.cons (z := ⟨.ref _, 5, _⟩) ⟨rfl, by decide, .inl R.eBadLength.has.at_⟩ rfl rfl (fun a oe cls d pn hz hf => (pss_one (ps_set (i := 4) sc_Lfields_1.nd rfl (by first | exact Or.inl rfl | exact Or.inr rfl) (pe_lst (pa_cons (pe_xfE R.eBadLength (by decide) hz hf (pv 5)) pa_nil)))))
        (ClsOk.cons (z := ⟨.ref _, 5, _⟩) ⟨rfl, by decide, .inl R.eOtherKinds.has.at_⟩ rfl rfl (fun a oe cls d pn hz hf => (pss_one (ps_set (i := 4) sc_Lfields_1.nd rfl (by first | exact Or.inl rfl | exact Or.inr rfl) (pe_lst (pa_cons (pe_xfE R.eOtherKinds (by decide) hz hf (pv 5)) pa_nil)))))
        (ClsOk.cons (z := ⟨.ref _, 5, _⟩) ⟨rfl, by decide, .inl R.eOtherRules.has.at_⟩ rfl rfl (fun a oe cls d pn hz hf => (pss_one (ps_set (i := 4) sc_Lfields_1.nd rfl (by first | exact Or.inl rfl | exact Or.inr rfl) (pe_lst (pa_cons (pe_xfE R.eOtherRules (by decide) hz hf (pv 5)) pa_nil)))))
        (ClsOk.cons (z := ⟨.ref _, 5, _⟩) ⟨rfl, by decide, .inl R.eBroken.has.at_⟩ rfl rfl (fun a oe cls d pn hz hf => (pss_one (ps_set (i := 4) sc_Lfields_1.nd rfl (by first | exact Or.inl rfl | exact Or.inr rfl) (pe_lst (pa_cons (pe_xfE R.eBroken (by decide) hz hf (pv 5)) pa_nil)))))
        ClsOk.nil)))))))))
      (pss_one (ps_ret (pv 4))))), ?_⟩
    refine ⟨(by show 0 ≤ sizeLine; decide), fun p0 hp0 => ?_⟩
    refine ⟨_, rfl, _, rfl, _, rfl, _, rfl, k, a, b, c, rfl, h1, h2, fun d hd => ?_⟩
    have s1 : Same H (upd H p0 (.lst [])) := same_new (fun _ _ z => z) hp0
    generalize upd H p0 (.lst []) = H1 at hd s1 ⊢
    have fin : ∀ k', (flOf k').length ≤ 3 → Same H (upd H1 d (.xd ((flOf k').zip [a, b, c]).reverse)) := fun k' _ => same_new s1 hd
    have hk : k = 8 ∨ k = 9 ∨ k = 10 ∨ k = 11 ∨ k = 12 ∨ k = 13 ∨ k = 14 ∨ k = 15 := by omega
    rcases hk with rfl | rfl | rfl | rfl | rfl | rfl | rfl | rfl
    · exact ⟨true, R.exm (i := 8) (j := 8) (by decide) (by decide), fun _ x hx => ⟨_, rfl, rfl, rfl, d, _, _, rfl, upd_same, (by exact lk_eq), (by show 1 ≤ sizeLine; decide), fun p hp => ⟨_, rfl, q _ _ (same_new (fin 8 (by decide)) hp) upd_same⟩⟩, (fun z => nomatch z)⟩
    · exact ⟨false, R.exm (i := 9) (j := 8) (by decide) (by decide), (fun z => nomatch z), fun _ => ⟨true, R.exm (i := 9) (j := 9) (by decide) (by decide), fun _ x hx => ⟨_, rfl, rfl, rfl, d, _, _, rfl, upd_same, (by exact lk_eq), (by show 1 ≤ sizeLine; decide), fun p hp => ⟨_, rfl, q _ _ (same_new (fin 9 (by decide)) hp) upd_same⟩⟩, (fun z => nomatch z)⟩⟩
    · exact ⟨false, R.exm (i := 10) (j := 8) (by decide) (by decide), (fun z => nomatch z), fun _ => ⟨false, R.exm (i := 10) (j := 9) (by decide) (by decide), (fun z => nomatch z), fun _ => ⟨true, R.exm (i := 10) (j := 10) (by decide) (by decide), fun _ x hx => ⟨_, rfl, rfl, rfl, d, _, _, rfl, upd_same, (by exact lk_eq), (by show 1 ≤ sizeLine; decide), fun p hp => ⟨_, rfl, q _ _ (same_new (fin 10 (by decide)) hp) upd_same⟩⟩, (fun z => nomatch z)⟩⟩⟩
    · exact ⟨false, R.exm (i := 11) (j := 8) (by decide) (by decide), (fun z => nomatch z), fun _ => ⟨false, R.exm (i := 11) (j := 9) (by decide) (by decide), (fun z => nomatch z), fun _ => ⟨false, R.exm (i := 11) (j := 10) (by decide) (by decide), (fun z => nomatch z), fun _ => ⟨true, R.exm (i := 11) (j := 11) (by decide) (by decide), fun _ x hx => ⟨_, rfl, rfl, rfl, d, _, _, rfl, upd_same, (by exact lk_eq), (by show 1 ≤ sizeLine; decide), fun p hp => ⟨_, rfl, q _ _ (same_new (fin 11 (by decide)) hp) upd_same⟩⟩, (fun z => nomatch z)⟩⟩⟩⟩
    · exact ⟨false, R.exm (i := 12) (j := 8) (by decide) (by decide), (fun z => nomatch z), fun _ => ⟨false, R.exm (i := 12) (j := 9) (by decide) (by decide), (fun z => nomatch z), fun _ => ⟨false, R.exm (i := 12) (j := 10) (by decide) (by decide), (fun z => nomatch z), fun _ => ⟨false, R.exm (i := 12) (j := 11) (by decide) (by decide), (fun z => nomatch z), fun _ => ⟨true, R.exm (i := 12) (j := 12) (by decide) (by decide), fun _ x hx => ⟨_, rfl, rfl, rfl, d, _, _, rfl, upd_same, (by exact lk_eq), (by show 1 ≤ sizeLine; decide), fun p hp => ⟨_, rfl, q _ _ (same_new (fin 12 (by decide)) hp) upd_same⟩⟩, (fun z => nomatch z)⟩⟩⟩⟩⟩
    · exact ⟨false, R.exm (i := 13) (j := 8) (by decide) (by decide), (fun z => nomatch z), fun _ => ⟨false, R.exm (i := 13) (j := 9) (by decide) (by decide), (fun z => nomatch z), fun _ => ⟨false, R.exm (i := 13) (j := 10) (by decide) (by decide), (fun z => nomatch z), fun _ => ⟨false, R.exm (i := 13) (j := 11) (by decide) (by decide), (fun z => nomatch z), fun _ => ⟨false, R.exm (i := 13) (j := 12) (by decide) (by decide), (fun z => nomatch z), fun _ => ⟨true, R.exm (i := 13) (j := 13) (by decide) (by decide), fun _ x hx => ⟨_, rfl, rfl, rfl, d, _, _, rfl, upd_same, (by exact lk_eq), (by show 1 ≤ sizeLine; decide), fun p hp => ⟨_, rfl, q _ _ (same_new (fin 13 (by decide)) hp) upd_same⟩⟩, (fun z => nomatch z)⟩⟩⟩⟩⟩⟩
    · exact ⟨false, R.exm (i := 14) (j := 8) (by decide) (by decide), (fun z => nomatch z), fun _ => ⟨false, R.exm (i := 14) (j := 9) (by decide) (by decide), (fun z => nomatch z), fun _ => ⟨false, R.exm (i := 14) (j := 10) (by decide) (by decide), (fun z => nomatch z), fun _ => ⟨false, R.exm (i := 14) (j := 11) (by decide) (by decide), (fun z => nomatch z), fun _ => ⟨false, R.exm (i := 14) (j := 12) (by decide) (by decide), (fun z => nomatch z), fun _ => ⟨false, R.exm (i := 14) (j := 13) (by decide) (by decide), (fun z => nomatch z), fun _ => ⟨true, R.exm (i := 14) (j := 14) (by decide) (by decide), fun _ x hx => ⟨_, rfl, rfl, rfl, d, _, _, rfl, upd_same, (by exact lk_eq), (by show 1 ≤ sizeLine; decide), fun p hp => ⟨_, rfl, q _ _ (same_new (fin 14 (by decide)) hp) upd_same⟩⟩, (fun z => nomatch z)⟩⟩⟩⟩⟩⟩⟩
    · exact ⟨false, R.exm (i := 15) (j := 8) (by decide) (by decide), (fun z => nomatch z), fun _ => ⟨false, R.exm (i := 15) (j := 9) (by decide) (by decide), (fun z => nomatch z), fun _ => ⟨false, R.exm (i := 15) (j := 10) (by decide) (by decide), (fun z => nomatch z), fun _ => ⟨false, R.exm (i := 15) (j := 11) (by decide) (by decide), (fun z => nomatch z), fun _ => ⟨false, R.exm (i := 15) (j := 12) (by decide) (by decide), (fun z => nomatch z), fun _ => ⟨false, R.exm (i := 15) (j := 13) (by decide) (by decide), (fun z => nomatch z), fun _ => ⟨false, R.exm (i := 15) (j := 14) (by decide) (by decide), (fun z => nomatch z), fun _ => ⟨true, R.exm (i := 15) (j := 15) (by decide) (by decide), fun _ x hx => ⟨_, rfl, rfl, rfl, d, _, _, rfl, upd_same, (by exact lk_eq), (by show 1 ≤ sizeLine; decide), fun p hp => ⟨_, rfl, q _ _ (same_new (fin 15 (by decide)) hp) upd_same⟩⟩, (fun z => nomatch z)⟩⟩⟩⟩⟩⟩⟩⟩
theorem ok_fields2 {f : Addr} {fd : FuncData} (F : Fun K "_law_fields_2" "_law_fields_2" s_Lfields_2 f fd) (R : Er P K mg B C) (hL_raised_2 : HasE P w K mg base "_law_raised_2" 3 (spRaise C 16 18)) : FnOk P w K mg base CX0 4 f fd ["_law_k", "_law_a", "_law_b", "_law_c"] (spFields 16 18) := by
  refine F.ok sc_Lfields_2 (fun vs H Q E h => ?_) (fun cdv A outer s H vs Q E hr h => ?_)
  · obtain ⟨k, a, b, c, rfl, _⟩ := h; rfl
  · obtain ⟨k, a, b, c, rfl, h1, h2, q⟩ := h
    refine ⟨_, (pss_cons (ps_set (i := 4) sc_Lfields_2.nd rfl (by first | exact Or.inl rfl | exact Or.inr rfl) (pe_lst pa_nil))
      (pss_cons (ps_try_cls (Wo := fun _ _ _ _ => False) rfl rfl sc_Lfields_2.nd takes0 (fun W pn xe tk _ => (pss_one (ps_expr (pe_fnE hL_raised_2 (hr.mono (by decide)) tk rfl (pa_cons (pv 0) (pa_cons (pv 1) (pa_cons (pv 2) (pa_cons (pv 3) pa_nil))))))))
        (ClsOk.cons (z := ⟨.ref _, 5, _⟩) ⟨rfl, by decide, .inl R.eBadGap.has.at_⟩ rfl rfl (fun a oe cls d pn hz hf => (pss_one (ps_set (i := 4) sc_Lfields_2.nd rfl (by first | exact Or.inl rfl | exact Or.inr rfl) (pe_lst (pa_cons (pe_xfE R.eBadGap (by decide) hz hf (pv 5)) pa_nil)))))
        (ClsOk.cons (z := ⟨.ref _, 5, _⟩) ⟨rfl, by decide, .inl R.eBadMap.has.at_⟩ rfl rfl (fun a oe cls d pn hz hf => (pss_one (ps_set (i := 4) sc_Lfields_2.nd rfl (by first | exact Or.inl rfl | exact Or.inr rfl) (pe_lst (pa_cons (pe_xfE R.eBadMap (by decide) hz hf (pv 5)) pa_nil)))))
        ClsOk.nil)))
      (pss_one (ps_ret (pv 4))))), ?_⟩
    refine ⟨(by show 0 ≤ sizeLine; decide), fun p0 hp0 => ?_⟩
    refine ⟨_, rfl, _, rfl, _, rfl, _, rfl, k, a, b, c, rfl, h1, h2, fun d hd => ?_⟩
    have s1 : Same H (upd H p0 (.lst [])) := same_new (fun _ _ z => z) hp0
    generalize upd H p0 (.lst []) = H1 at hd s1 ⊢
    have fin : ∀ k', (flOf k').length ≤ 3 → Same H (upd H1 d (.xd ((flOf k').zip [a, b, c]).reverse)) := fun k' _ => same_new s1 hd
    have hk : k = 16 ∨ k = 17 := by omega
    rcases hk with rfl | rfl
    · exact ⟨true, R.exm (i := 16) (j := 16) (by decide) (by decide), fun _ x hx => ⟨_, rfl, rfl, rfl, d, _, _, rfl, upd_same, (by exact lk_eq), (by show 1 ≤ sizeLine; decide), fun p hp => ⟨_, rfl, q _ _ (same_new (fin 16 (by decide)) hp) upd_same⟩⟩, (fun z => nomatch z)⟩
    · exact ⟨false, R.exm (i := 17) (j := 16) (by decide) (by decide), (fun z => nomatch z), fun _ => ⟨true, R.exm (i := 17) (j := 17) (by decide) (by decide), fun _ x hx => ⟨_, rfl, rfl, rfl, d, _, _, rfl, upd_same, (by exact lk_eq), (by show 1 ≤ sizeLine; decide), fun p hp => ⟨_, rfl, q _ _ (same_new (fin 17 (by decide)) hp) upd_same⟩⟩, (fun z => nomatch z)⟩⟩
end
end Tb

set_option Elab.async false
set_option linter.all false
set_option maxRecDepth 100000
set_option maxHeartbeats 3999000
set_option exponentiation.threshold 6000
namespace Tb
open PySem L2
open C8 (pss_cut tCut)
open PySem.W (Frag)
section
variable {P : Program} {w : World} {K : Frag} {mg : Str → Option Value} {base : Heap} {B : Addr} {C : Nat → Addr}
theorem ok_fields {f : Addr} {fd : FuncData} (F : Fun K "_law_fields" "_law_fields" s_Lfields f fd) (hL_fields_0 : HasF P w K mg base "_law_fields_0" 4 (spFields 0 8)) (hL_fields_1 : HasF P w K mg base "_law_fields_1" 4 (spFields 8 16)) (hL_fields_2 : HasF P w K mg base "_law_fields_2" 4 (spFields 16 18)) : FnOk P w K mg base CX0 5 f fd ["_law_k", "_law_a", "_law_b", "_law_c"] (spFields 0 18) := by
  refine F.ok sc_Lfields (fun vs H Q E h => ?_) (fun cdv A outer s H vs Q E hr h => ?_)
  · obtain ⟨k, a, b, c, rfl, _⟩ := h; rfl
  · obtain ⟨k, a, b, c, rfl, h1, h2, q⟩ := h
    refine ⟨_, (pss_cons (ps_if (pt_cmpR op_lt (pv 0) pe_int (nomark _))
        (pss_one (ps_ret (pe_fn hL_fields_0 (hr.mono (by decide)) rfl (pa_cons (pv 0) (pa_cons (pv 1) (pa_cons (pv 2) (pa_cons (pv 3) pa_nil)))))))
        pss_nil)
      (pss_cons (ps_if (pt_cmpR op_lt (pv 0) pe_int (nomark _))
        (pss_one (ps_ret (pe_fn hL_fields_1 (hr.mono (by decide)) rfl (pa_cons (pv 0) (pa_cons (pv 1) (pa_cons (pv 2) (pa_cons (pv 3) pa_nil)))))))
        pss_nil)
      (pss_one (ps_ret (pe_fn hL_fields_2 (hr.mono (by decide)) rfl (pa_cons (pv 0) (pa_cons (pv 1) (pa_cons (pv 2) (pa_cons (pv 3) pa_nil))))))))), ?_⟩
    refine ⟨_, rfl, _, _, rfl, rfl, _, rfl, ifD (fun e => ⟨_, rfl, _, rfl, _, rfl, _, rfl, k, a, b, c, rfl, h1, by omega, q⟩) (fun ne => ⟨_, rfl, _, _, rfl, rfl, _, rfl, ifD (fun e => ⟨_, rfl, _, rfl, _, rfl, _, rfl, k, a, b, c, rfl, by omega, by omega, q⟩) (fun ne => ⟨_, rfl, _, rfl, _, rfl, _, rfl, k, a, b, c, rfl, by omega, h2, q⟩)⟩)⟩
/-- of which kinds the error k is -/
def bitsOf (k n : Nat) : List V := (List.range n).map fun j => V.bl (decide (k = j))
theorem bits_two (k n : Nat) : bitsOf k n ++ [.bl (decide (k = n)), .bl (decide (k = n + 1))] = bitsOf k (n + 2) := by
  unfold bitsOf
  rw [List.range_succ, List.range_succ, List.map_append, List.map_append, List.append_assoc]
  rfl
def spKinds (C : Nat → Addr) (a : Addr) (c : Value) (dd : Option Addr) : Sp := fun vs H Q _ => ∃ (k : Nat) (d : Addr) (fs : List (Str × V)), vs = [.ref a] ∧ k < 18 ∧ c = .ref (C k) ∧ dd = some d ∧ H d = some (.xd fs) ∧ ∀ q H', Same H H' → H' q = some (.lst (bitsOf k 18)) → Q (.ref q) H'
theorem ok_kinds {f : Addr} {fd : FuncData} (F : Fun K "_law_kinds_of" "_law_kinds_of" s_Lkinds_of f fd) (R : Er P K mg B C) (T : Bl mg) : FnP P w K mg base 1 f fd ["_law_e"] (spKinds C) := by
  refine fnP_of F sc_Lkinds_of (fun a c d vs H Q E h => ?_) (fun cdv A outer s H vs Q E a oe c dd hz hf hr h => ?_)
  · obtain ⟨k, d, fs, rfl, _⟩ := h; rfl
  · obtain ⟨k, d, fs, rfl, hk, rfl, rfl, hd, q⟩ := h
    obtain ⟨x, ex⟩ := R.at_ k hk
    refine ⟨_, (pss_cons (ps_set (i := 1) sc_Lkinds_of.nd rfl (by first | exact Or.inl rfl | exact Or.inr rfl) (pe_lst (pa_cons (pe_callB (call_isX (K := K) (by rfl) (by exact List.mem_cons_self) hz hf) (by rfl) T.isinstance (by decide +kernel) (pa_cons (pv 0) (pa_cons (pe_glob (v := .ref _) (by rfl) R.eBadKind.has.at_ rfl) pa_nil))) (pa_cons (pe_callB (call_isX (K := K) (by rfl) (by exact List.mem_cons_self) hz hf) (by rfl) T.isinstance (by decide +kernel) (pa_cons (pv 0) (pa_cons (pe_glob (v := .ref _) (by rfl) R.eBadLine.has.at_ rfl) pa_nil))) pa_nil))))
      (pss_cons (ps_set (i := 1) sc_Lkinds_of.nd rfl (by first | exact Or.inl rfl | exact Or.inr rfl) (pe_op op_cat (pv 1) (pe_lst (pa_cons (pe_callB (call_isX (K := K) (by rfl) (by exact List.mem_cons_self) hz hf) (by rfl) T.isinstance (by decide +kernel) (pa_cons (pv 0) (pa_cons (pe_glob (v := .ref _) (by rfl) R.eRefused.has.at_ rfl) pa_nil))) (pa_cons (pe_callB (call_isX (K := K) (by rfl) (by exact List.mem_cons_self) hz hf) (by rfl) T.isinstance (by decide +kernel) (pa_cons (pv 0) (pa_cons (pe_glob (v := .ref _) (by rfl) R.eTooMany.has.at_ rfl) pa_nil))) pa_nil)))))
      (pss_cons (ps_set (i := 1) sc_Lkinds_of.nd rfl (by first | exact Or.inl rfl | exact Or.inr rfl) (pe_op op_cat (pv 1) (pe_lst (pa_cons (pe_callB (call_isX (K := K) (by rfl) (by exact List.mem_cons_self) hz hf) (by rfl) T.isinstance (by decide +kernel) (pa_cons (pv 0) (pa_cons (pe_glob (v := .ref _) (by rfl) R.eBadPromise.has.at_ rfl) pa_nil))) (pa_cons (pe_callB (call_isX (K := K) (by rfl) (by exact List.mem_cons_self) hz hf) (by rfl) T.isinstance (by decide +kernel) (pa_cons (pv 0) (pa_cons (pe_glob (v := .ref _) (by rfl) R.eBadRule.has.at_ rfl) pa_nil))) pa_nil)))))
      (pss_cons (ps_set (i := 1) sc_Lkinds_of.nd rfl (by first | exact Or.inl rfl | exact Or.inr rfl) (pe_op op_cat (pv 1) (pe_lst (pa_cons (pe_callB (call_isX (K := K) (by rfl) (by exact List.mem_cons_self) hz hf) (by rfl) T.isinstance (by decide +kernel) (pa_cons (pv 0) (pa_cons (pe_glob (v := .ref _) (by rfl) R.eBadSize.has.at_ rfl) pa_nil))) (pa_cons (pe_callB (call_isX (K := K) (by rfl) (by exact List.mem_cons_self) hz hf) (by rfl) T.isinstance (by decide +kernel) (pa_cons (pv 0) (pa_cons (pe_glob (v := .ref _) (by rfl) R.eBadNumber.has.at_ rfl) pa_nil))) pa_nil)))))
      (pss_cons (ps_set (i := 1) sc_Lkinds_of.nd rfl (by first | exact Or.inl rfl | exact Or.inr rfl) (pe_op op_cat (pv 1) (pe_lst (pa_cons (pe_callB (call_isX (K := K) (by rfl) (by exact List.mem_cons_self) hz hf) (by rfl) T.isinstance (by decide +kernel) (pa_cons (pv 0) (pa_cons (pe_glob (v := .ref _) (by rfl) R.eBadCount.has.at_ rfl) pa_nil))) (pa_cons (pe_callB (call_isX (K := K) (by rfl) (by exact List.mem_cons_self) hz hf) (by rfl) T.isinstance (by decide +kernel) (pa_cons (pv 0) (pa_cons (pe_glob (v := .ref _) (by rfl) R.eBadCase.has.at_ rfl) pa_nil))) pa_nil)))))
      (pss_cons (ps_set (i := 1) sc_Lkinds_of.nd rfl (by first | exact Or.inl rfl | exact Or.inr rfl) (pe_op op_cat (pv 1) (pe_lst (pa_cons (pe_callB (call_isX (K := K) (by rfl) (by exact List.mem_cons_self) hz hf) (by rfl) T.isinstance (by decide +kernel) (pa_cons (pv 0) (pa_cons (pe_glob (v := .ref _) (by rfl) R.eBadOutcomes.has.at_ rfl) pa_nil))) (pa_cons (pe_callB (call_isX (K := K) (by rfl) (by exact List.mem_cons_self) hz hf) (by rfl) T.isinstance (by decide +kernel) (pa_cons (pv 0) (pa_cons (pe_glob (v := .ref _) (by rfl) R.eBadName.has.at_ rfl) pa_nil))) pa_nil)))))
      (pss_cons (ps_set (i := 1) sc_Lkinds_of.nd rfl (by first | exact Or.inl rfl | exact Or.inr rfl) (pe_op op_cat (pv 1) (pe_lst (pa_cons (pe_callB (call_isX (K := K) (by rfl) (by exact List.mem_cons_self) hz hf) (by rfl) T.isinstance (by decide +kernel) (pa_cons (pv 0) (pa_cons (pe_glob (v := .ref _) (by rfl) R.eBadLength.has.at_ rfl) pa_nil))) (pa_cons (pe_callB (call_isX (K := K) (by rfl) (by exact List.mem_cons_self) hz hf) (by rfl) T.isinstance (by decide +kernel) (pa_cons (pv 0) (pa_cons (pe_glob (v := .ref _) (by rfl) R.eOtherKinds.has.at_ rfl) pa_nil))) pa_nil)))))
      (pss_cons (ps_set (i := 1) sc_Lkinds_of.nd rfl (by first | exact Or.inl rfl | exact Or.inr rfl) (pe_op op_cat (pv 1) (pe_lst (pa_cons (pe_callB (call_isX (K := K) (by rfl) (by exact List.mem_cons_self) hz hf) (by rfl) T.isinstance (by decide +kernel) (pa_cons (pv 0) (pa_cons (pe_glob (v := .ref _) (by rfl) R.eOtherRules.has.at_ rfl) pa_nil))) (pa_cons (pe_callB (call_isX (K := K) (by rfl) (by exact List.mem_cons_self) hz hf) (by rfl) T.isinstance (by decide +kernel) (pa_cons (pv 0) (pa_cons (pe_glob (v := .ref _) (by rfl) R.eBroken.has.at_ rfl) pa_nil))) pa_nil)))))
      (pss_cons (ps_set (i := 1) sc_Lkinds_of.nd rfl (by first | exact Or.inl rfl | exact Or.inr rfl) (pe_op op_cat (pv 1) (pe_lst (pa_cons (pe_callB (call_isX (K := K) (by rfl) (by exact List.mem_cons_self) hz hf) (by rfl) T.isinstance (by decide +kernel) (pa_cons (pv 0) (pa_cons (pe_glob (v := .ref _) (by rfl) R.eBadGap.has.at_ rfl) pa_nil))) (pa_cons (pe_callB (call_isX (K := K) (by rfl) (by exact List.mem_cons_self) hz hf) (by rfl) T.isinstance (by decide +kernel) (pa_cons (pv 0) (pa_cons (pe_glob (v := .ref _) (by rfl) R.eBadMap.has.at_ rfl) pa_nil))) pa_nil)))))
      (pss_one (ps_ret (pv 1)))))))))))), ?_⟩
    refine ⟨_, rfl, C k, d, .ref (C 0), .ref (C 0), _, fs, rfl, rfl, rfl, ex.is, (fun _ r => r), hd, R.kit hk (by decide), _, rfl, C k, d, .ref (C 1), .ref (C 1), _, fs, rfl, rfl, rfl, ex.is, (fun _ r => r), hd, R.kit hk (by decide), (by show 2 ≤ sizeLine; decide), fun p0 hp0 => ?_⟩
    obtain ⟨H0, s0, l0⟩ : ∃ H0, Same H H0 ∧ H0 = upd H p0 (.lst (bitsOf k 2)) := ⟨_, same_new (fun _ _ z => z) hp0, rfl⟩
    have e0 : H0 p0 = some (.lst (bitsOf k 2)) := by rw [l0]; exact upd_same
    rw [show upd H p0 (.lst [.bl (decide (k = 0)), .bl (decide (k = 1))]) = H0 from l0.symm]
    clear l0
    refine ⟨_, rfl, _, rfl, C k, d, .ref (C 2), .ref (C 2), _, fs, rfl, rfl, rfl, ex.is, (fun _ r => r), s0 _ _ hd, R.kit hk (by decide), _, rfl, C k, d, .ref (C 3), .ref (C 3), _, fs, rfl, rfl, rfl, ex.is, (fun _ r => r), s0 _ _ hd, R.kit hk (by decide), (by show 2 ≤ sizeLine; decide), fun r1 hr1 => ⟨p0, r1, bitsOf k 2, _, rfl, rfl, by rw [upd_ne (ne_of_none e0 hr1)]; exact e0, upd_same, (by show (bitsOf k 2).length + 2 ≤ sizeLine; unfold bitsOf; rw [List.length_map, List.length_range]; decide), fun p1 hp1 => ?_⟩⟩
    have t1 := same_new (o := .lst (bitsOf k 4)) (same_new (o := .lst [.bl (decide (k = 2)), .bl (decide (k = 3))]) s0 hr1) hp1
    rw [bits_two k 2]
    obtain ⟨H1, l1⟩ : ∃ Hx, Hx = upd (upd H0 r1 (.lst [.bl (decide (k = 2)), .bl (decide (k = 3))])) p1 (.lst (bitsOf k 4)) := ⟨_, rfl⟩
    rw [← l1] at t1 ⊢
    have e1 : H1 p1 = some (.lst (bitsOf k 4)) := by rw [l1]; exact upd_same
    have s1 : Same H H1 := t1
    clear t1 l1 s0 e0 hr1 hp1
    refine ⟨_, rfl, _, rfl, C k, d, .ref (C 4), .ref (C 4), _, fs, rfl, rfl, rfl, ex.is, (fun _ r => r), s1 _ _ hd, R.kit hk (by decide), _, rfl, C k, d, .ref (C 5), .ref (C 5), _, fs, rfl, rfl, rfl, ex.is, (fun _ r => r), s1 _ _ hd, R.kit hk (by decide), (by show 2 ≤ sizeLine; decide), fun r2 hr2 => ⟨p1, r2, bitsOf k 4, _, rfl, rfl, by rw [upd_ne (ne_of_none e1 hr2)]; exact e1, upd_same, (by show (bitsOf k 4).length + 2 ≤ sizeLine; unfold bitsOf; rw [List.length_map, List.length_range]; decide), fun p2 hp2 => ?_⟩⟩
    have t2 := same_new (o := .lst (bitsOf k 6)) (same_new (o := .lst [.bl (decide (k = 4)), .bl (decide (k = 5))]) s1 hr2) hp2
    rw [bits_two k 4]
    obtain ⟨H2, l2⟩ : ∃ Hx, Hx = upd (upd H1 r2 (.lst [.bl (decide (k = 4)), .bl (decide (k = 5))])) p2 (.lst (bitsOf k 6)) := ⟨_, rfl⟩
    rw [← l2] at t2 ⊢
    have e2 : H2 p2 = some (.lst (bitsOf k 6)) := by rw [l2]; exact upd_same
    have s2 : Same H H2 := t2
    clear t2 l2 s1 e1 hr2 hp2
    refine ⟨_, rfl, _, rfl, C k, d, .ref (C 6), .ref (C 6), _, fs, rfl, rfl, rfl, ex.is, (fun _ r => r), s2 _ _ hd, R.kit hk (by decide), _, rfl, C k, d, .ref (C 7), .ref (C 7), _, fs, rfl, rfl, rfl, ex.is, (fun _ r => r), s2 _ _ hd, R.kit hk (by decide), (by show 2 ≤ sizeLine; decide), fun r3 hr3 => ⟨p2, r3, bitsOf k 6, _, rfl, rfl, by rw [upd_ne (ne_of_none e2 hr3)]; exact e2, upd_same, (by show (bitsOf k 6).length + 2 ≤ sizeLine; unfold bitsOf; rw [List.length_map, List.length_range]; decide), fun p3 hp3 => ?_⟩⟩
    have t3 := same_new (o := .lst (bitsOf k 8)) (same_new (o := .lst [.bl (decide (k = 6)), .bl (decide (k = 7))]) s2 hr3) hp3
    rw [bits_two k 6]
    obtain ⟨H3, l3⟩ : ∃ Hx, Hx = upd (upd H2 r3 (.lst [.bl (decide (k = 6)), .bl (decide (k = 7))])) p3 (.lst (bitsOf k 8)) := ⟨_, rfl⟩
    rw [← l3] at t3 ⊢
    have e3 : H3 p3 = some (.lst (bitsOf k 8)) := by rw [l3]; exact upd_same
    have s3 : Same H H3 := t3
    clear t3 l3 s2 e2 hr3 hp3
    refine ⟨_, rfl, _, rfl, C k, d, .ref (C 8), .ref (C 8), _, fs, rfl, rfl, rfl, ex.is, (fun _ r => r), s3 _ _ hd, R.kit hk (by decide), _, rfl, C k, d, .ref (C 9), .ref (C 9), _, fs, rfl, rfl, rfl, ex.is, (fun _ r => r), s3 _ _ hd, R.kit hk (by decide), (by show 2 ≤ sizeLine; decide), fun r4 hr4 => ⟨p3, r4, bitsOf k 8, _, rfl, rfl, by rw [upd_ne (ne_of_none e3 hr4)]; exact e3, upd_same, (by show (bitsOf k 8).length + 2 ≤ sizeLine; unfold bitsOf; rw [List.length_map, List.length_range]; decide), fun p4 hp4 => ?_⟩⟩
    have t4 := same_new (o := .lst (bitsOf k 10)) (same_new (o := .lst [.bl (decide (k = 8)), .bl (decide (k = 9))]) s3 hr4) hp4
    rw [bits_two k 8]
    obtain ⟨H4, l4⟩ : ∃ Hx, Hx = upd (upd H3 r4 (.lst [.bl (decide (k = 8)), .bl (decide (k = 9))])) p4 (.lst (bitsOf k 10)) := ⟨_, rfl⟩
    rw [← l4] at t4 ⊢
    have e4 : H4 p4 = some (.lst (bitsOf k 10)) := by rw [l4]; exact upd_same
    have s4 : Same H H4 := t4
    clear t4 l4 s3 e3 hr4 hp4
    refine ⟨_, rfl, _, rfl, C k, d, .ref (C 10), .ref (C 10), _, fs, rfl, rfl, rfl, ex.is, (fun _ r => r), s4 _ _ hd, R.kit hk (by decide), _, rfl, C k, d, .ref (C 11), .ref (C 11), _, fs, rfl, rfl, rfl, ex.is, (fun _ r => r), s4 _ _ hd, R.kit hk (by decide), (by show 2 ≤ sizeLine; decide), fun r5 hr5 => ⟨p4, r5, bitsOf k 10, _, rfl, rfl, by rw [upd_ne (ne_of_none e4 hr5)]; exact e4, upd_same, (by show (bitsOf k 10).length + 2 ≤ sizeLine; unfold bitsOf; rw [List.length_map, List.length_range]; decide), fun p5 hp5 => ?_⟩⟩
    have t5 := same_new (o := .lst (bitsOf k 12)) (same_new (o := .lst [.bl (decide (k = 10)), .bl (decide (k = 11))]) s4 hr5) hp5
    rw [bits_two k 10]
    obtain ⟨H5, l5⟩ : ∃ Hx, Hx = upd (upd H4 r5 (.lst [.bl (decide (k = 10)), .bl (decide (k = 11))])) p5 (.lst (bitsOf k 12)) := ⟨_, rfl⟩
    rw [← l5] at t5 ⊢
    have e5 : H5 p5 = some (.lst (bitsOf k 12)) := by rw [l5]; exact upd_same
    have s5 : Same H H5 := t5
    clear t5 l5 s4 e4 hr5 hp5
    refine ⟨_, rfl, _, rfl, C k, d, .ref (C 12), .ref (C 12), _, fs, rfl, rfl, rfl, ex.is, (fun _ r => r), s5 _ _ hd, R.kit hk (by decide), _, rfl, C k, d, .ref (C 13), .ref (C 13), _, fs, rfl, rfl, rfl, ex.is, (fun _ r => r), s5 _ _ hd, R.kit hk (by decide), (by show 2 ≤ sizeLine; decide), fun r6 hr6 => ⟨p5, r6, bitsOf k 12, _, rfl, rfl, by rw [upd_ne (ne_of_none e5 hr6)]; exact e5, upd_same, (by show (bitsOf k 12).length + 2 ≤ sizeLine; unfold bitsOf; rw [List.length_map, List.length_range]; decide), fun p6 hp6 => ?_⟩⟩
    have t6 := same_new (o := .lst (bitsOf k 14)) (same_new (o := .lst [.bl (decide (k = 12)), .bl (decide (k = 13))]) s5 hr6) hp6
    rw [bits_two k 12]
    obtain ⟨H6, l6⟩ : ∃ Hx, Hx = upd (upd H5 r6 (.lst [.bl (decide (k = 12)), .bl (decide (k = 13))])) p6 (.lst (bitsOf k 14)) := ⟨_, rfl⟩
    rw [← l6] at t6 ⊢
    have e6 : H6 p6 = some (.lst (bitsOf k 14)) := by rw [l6]; exact upd_same
    have s6 : Same H H6 := t6
    clear t6 l6 s5 e5 hr6 hp6
    refine ⟨_, rfl, _, rfl, C k, d, .ref (C 14), .ref (C 14), _, fs, rfl, rfl, rfl, ex.is, (fun _ r => r), s6 _ _ hd, R.kit hk (by decide), _, rfl, C k, d, .ref (C 15), .ref (C 15), _, fs, rfl, rfl, rfl, ex.is, (fun _ r => r), s6 _ _ hd, R.kit hk (by decide), (by show 2 ≤ sizeLine; decide), fun r7 hr7 => ⟨p6, r7, bitsOf k 14, _, rfl, rfl, by rw [upd_ne (ne_of_none e6 hr7)]; exact e6, upd_same, (by show (bitsOf k 14).length + 2 ≤ sizeLine; unfold bitsOf; rw [List.length_map, List.length_range]; decide), fun p7 hp7 => ?_⟩⟩
    have t7 := same_new (o := .lst (bitsOf k 16)) (same_new (o := .lst [.bl (decide (k = 14)), .bl (decide (k = 15))]) s6 hr7) hp7
    rw [bits_two k 14]
    obtain ⟨H7, l7⟩ : ∃ Hx, Hx = upd (upd H6 r7 (.lst [.bl (decide (k = 14)), .bl (decide (k = 15))])) p7 (.lst (bitsOf k 16)) := ⟨_, rfl⟩
    rw [← l7] at t7 ⊢
    have e7 : H7 p7 = some (.lst (bitsOf k 16)) := by rw [l7]; exact upd_same
    have s7 : Same H H7 := t7
    clear t7 l7 s6 e6 hr7 hp7
    refine ⟨_, rfl, _, rfl, C k, d, .ref (C 16), .ref (C 16), _, fs, rfl, rfl, rfl, ex.is, (fun _ r => r), s7 _ _ hd, R.kit hk (by decide), _, rfl, C k, d, .ref (C 17), .ref (C 17), _, fs, rfl, rfl, rfl, ex.is, (fun _ r => r), s7 _ _ hd, R.kit hk (by decide), (by show 2 ≤ sizeLine; decide), fun r8 hr8 => ⟨p7, r8, bitsOf k 16, _, rfl, rfl, by rw [upd_ne (ne_of_none e7 hr8)]; exact e7, upd_same, (by show (bitsOf k 16).length + 2 ≤ sizeLine; unfold bitsOf; rw [List.length_map, List.length_range]; decide), fun p8 hp8 => ?_⟩⟩
    have t8 := same_new (o := .lst (bitsOf k 18)) (same_new (o := .lst [.bl (decide (k = 16)), .bl (decide (k = 17))]) s7 hr8) hp8
    rw [bits_two k 16]
    obtain ⟨H8, l8⟩ : ∃ Hx, Hx = upd (upd H7 r8 (.lst [.bl (decide (k = 16)), .bl (decide (k = 17))])) p8 (.lst (bitsOf k 18)) := ⟨_, rfl⟩
    rw [← l8] at t8 ⊢
    have e8 : H8 p8 = some (.lst (bitsOf k 18)) := by rw [l8]; exact upd_same
    have s8 : Same H H8 := t8
    clear t8 l8 s7 e7 hr8 hp8
    exact ⟨_, rfl, q _ _ s8 e8⟩
def spCaught : Sp := fun vs H Q _ => ∃ (k : Nat) (a b c : V), vs = [.int k, a, b, c] ∧ k < 18 ∧ ∀ p H', Same H H' → H' p = some (.lst (.bl true :: bitsOf k 18)) → Q (.ref p) H'
theorem ok_caught {f : Addr} {fd : FuncData} (F : Fun K "_law_caught" "_law_caught" s_Lcaught f fd) (R : Er P K mg B C) (T : Bl mg) (hL_raised : HasE P w K mg base "_law_raised" 4 (spRaise C 0 18)) (hL_kinds_of : HasP P w K mg base "_law_kinds_of" 1 (spKinds C)) : FnOk P w K mg base CX0 5 f fd ["_law_k", "_law_a", "_law_b", "_law_c"] spCaught := by
  refine F.ok sc_Lcaught (fun vs H Q E h => ?_) (fun cdv A outer s H vs Q E hr h => ?_)
  · obtain ⟨k, a, b, c, rfl, _⟩ := h; rfl
  · obtain ⟨k, a, b, c, rfl, hk, q⟩ := h
    obtain ⟨x, ex⟩ := R.at_ k hk
    refine ⟨_, (pss_cons (ps_try_cls (Wo := fun _ _ _ _ => False) rfl rfl sc_Lcaught.nd takes0 (fun W pn xe tk _ => (pss_one (ps_expr (pe_fnE hL_raised (hr.mono (by decide)) tk rfl (pa_cons (pv 0) (pa_cons (pv 1) (pa_cons (pv 2) (pa_cons (pv 3) pa_nil))))))))
        (ClsOk.cons (z := ⟨.ref _, 4, _⟩) ⟨rfl, by decide, .inl R.eB.at_⟩ rfl rfl (fun a oe cls d pn hz hf => (pss_one (ps_ret (pe_op op_cat (pe_lst (pa_cons (pe_callB (call_isX (K := K) (by rfl) (by exact List.mem_cons_self) hz hf) (by rfl) T.isinstance (by decide +kernel) (pa_cons (pv 4) (pa_cons (pe_bltn (v := .ty "ValueError") (by rfl) T.ValueError (by decide +kernel) rfl) pa_nil))) pa_nil)) (pe_fnP hL_kinds_of (roomS hr (by decide)) (by exact List.mem_cons_self) hz hf (by rfl) (pa_cons (pv 4) pa_nil))))))
        ClsOk.nil))
      (pss_one (ps_ret (pe_lst pa_nil)))), ?_⟩
    refine ⟨_, rfl, _, rfl, _, rfl, _, rfl, k, a, b, c, rfl, Nat.zero_le _, hk, fun d hd => ?_⟩
    refine ⟨true, ex.exmB R.eB, fun _ y hy => ?_, (fun z => nomatch z)⟩
    refine ⟨_, rfl, C k, d, .ty "ValueError", .type "ValueError", true, _, rfl, rfl, rfl, ex.is, (fun _ r => r), upd_same, ex.kitVE, (by show 1 ≤ sizeLine; decide), fun p0 hp0 => ?_⟩
    have s1 := same_new (o := .xd ((flOf k).zip [a, b, c]).reverse) (fun _ _ z => z : Same H H) hd
    have ed := upd_same (H := H) (a := d) (o := .xd ((flOf k).zip [a, b, c]).reverse)
    generalize upd H d (.xd ((flOf k).zip [a, b, c]).reverse) = H1 at *
    refine ⟨_, rfl, k, d, _, rfl, hk, rfl, rfl, by rw [upd_ne (ne_of_none ed hp0)]; exact ed, fun z H2 s2 ez => ?_⟩
    refine ⟨p0, z, _, _, rfl, rfl, s2 _ _ upd_same, ez, (by show 1 + (bitsOf k 18).length ≤ sizeLine; unfold bitsOf; rw [List.length_map, List.length_range]; decide), fun p1 hp1 => ?_⟩
    exact q _ _ (same_new (fun x o h => s2 x o (same_new s1 hp0 x o h)) hp1) upd_same
end
end Tb

set_option Elab.async false
set_option linter.all false
set_option maxRecDepth 100000
set_option maxHeartbeats 3999000
set_option exponentiation.threshold 6000
namespace Tb
open PySem L2
open C8 (pss_cut tCut)
open PySem.W (Frag)
/-! ### things of any kind -/
inductive Thing (H : Hp) : V → PyData → Prop
  | non : Thing H .non .none
  | bl : Thing H (.bl true) (.bool true)
  | int (i : Int) : Thing H (.int i) (.int i)
  | s0 : Thing H (.str "") (.str "")
  | s1 : Thing H (.str "p1") (.str "p1")
  | tup {a : Addr} : H a = some (.tup [.int 1, .str "a"]) → Thing H (.ref a) (.tuple [.int 1, .str "a"])
  | l0 {a : Addr} : H a = some (.lst []) → Thing H (.ref a) (.list [])
  | l3 {a : Addr} : H a = some (.lst [.int 3]) → Thing H (.ref a) (.list [.int 3])
section
variable {P : Program} {w : World} {K : Frag} {mg : Str → Option Value} {base : Heap} {B : Addr} {C : Nat → Addr} {H H' : Hp} {v : V} {d : PyData}
theorem Thing.dp (t : Thing H v d) : Dp K H v d := by
  cases t with
  | non => exact .non
  | bl => exact .bl _
  | int i => exact .int i
  | s0 => exact .str _
  | s1 => exact .str _
  | tup h => exact .tup (.inl (.inl h)) (.cons (.int 1) (.cons (.str _) .nil))
  | l0 h => exact .lst (.inl (.inl h)) .nil
  | l3 h => exact .lst (.inl (.inl h)) (.cons (.int 3) .nil)
theorem Thing.eqv (t : Thing H v d) : PyData.eqv d d = true := by
  cases t with
  | int i => exact beq_self_eq_true i
  | _ => decide +kernel
theorem Thing.lay (t : Thing H v d) : d.canLay0 = true ∧ d.depth ≤ 2 := by
  cases t with
  | int i => exact ⟨rfl, Nat.zero_le _⟩
  | _ => exact ⟨by decide +kernel, by decide +kernel⟩
theorem Thing.but {p : Addr} {n : Nat} (t : Thing H v d) (b : BagAt H p n) (s : SameBut p H H') : Thing H' v d := by
  obtain ⟨c, ns, ix, dg, ct, fo, hp, _⟩ := b.ex
  cases t with
  | non => exact .non
  | bl => exact .bl
  | int i => exact .int i
  | s0 => exact .s0
  | s1 => exact .s1
  | tup h => exact .tup (s _ _ h (ne_of h hp (by intro z; cases z)))
  | l0 h => exact .l0 (s _ _ h (ne_of h hp (by intro z; cases z)))
  | l3 h => exact .l3 (s _ _ h (ne_of h hp (by intro z; cases z)))
theorem Thing.same (t : Thing H v d) (s : Same H H') : Thing H' v d := by
  cases t with
  | non => exact .non
  | bl => exact .bl
  | int i => exact .int i
  | s0 => exact .s0
  | s1 => exact .s1
  | tup h => exact .tup (s _ _ h)
  | l0 h => exact .l0 (s _ _ h)
  | l3 h => exact .l3 (s _ _ h)
def spThing : Sp := fun vs H Q _ => ∃ (p : Addr) (n : Nat), vs = [.ref p] ∧ BagAt H p n ∧ n < 2 ^ 39 ∧ ∀ v d H', Thing H' v d → BagAt H' p (n + 4) → SameBut p H H' → Q v H'
theorem ok_thing {f : Addr} {fd : FuncData} (F : Fun K "_law_thing" "_law_thing" s_Lthing f fd) (hL_draw : HasF P w K mg base "_law_draw" 1 spDraw) : FnOk P w K mg base CX0 2 f fd ["_law_bag_here"] spThing := by
  refine F.ok sc_Lthing (fun vs H Q E h => ?_) (fun cdv A outer s H vs Q E hr h => ?_)
  · obtain ⟨p, n, rfl, _⟩ := h; rfl
  · obtain ⟨p, n, rfl, b, hn, q⟩ := h
    refine ⟨_, (pss_cons (ps_set (i := 1) sc_Lthing.nd rfl (by first | exact Or.inl rfl | exact Or.inr rfl) (pe_op op_sub (pe_op op_mulW (pe_fn hL_draw (hr.mono (by decide)) rfl (pa_cons (pv 0) (pa_cons (pe_op op_pow pe_int pe_int) pa_nil))) (pe_op op_pow pe_int pe_int)) (pe_op op_pow pe_int pe_int)))
      (pss_cons (ps_set (i := 2) sc_Lthing.nd rfl (by first | exact Or.inl rfl | exact Or.inr rfl) (pe_lst (pa_cons (pe_ix ix_list (pe_lst (pa_cons (pv 1) (pa_cons (pe_op op_sub (pe_fn hL_draw (hr.mono (by decide)) rfl (pa_cons (pv 0) (pa_cons pe_int pa_nil))) pe_int) pa_nil))) (pe_fn hL_draw (hr.mono (by decide)) rfl (pa_cons (pv 0) (pa_cons pe_int pa_nil))) (fun _ _ => rfl)) (pa_cons pe_str (pa_cons pe_str (pa_cons pe_non (pa_cons pe_bl (pa_cons (pe_tup (pa_cons pe_int (pa_cons pe_str pa_nil))) (pa_cons (pe_lst pa_nil) (pa_cons (pe_lst (pa_cons pe_int pa_nil)) (pa_cons pe_int pa_nil)))))))))))
      (pss_one (ps_ret (pe_ix ix_list (pv 2) (pe_fn hL_draw (hr.mono (by decide)) rfl (pa_cons (pv 0) (pa_cons pe_int pa_nil))) (fun _ _ => rfl)))))), ?_⟩
    refine ⟨_, rfl, _, _, rfl, rfl, ⟨by decide, by decide, by decide⟩, p, n, _, rfl, b, by omega, by decide, by unfold Bd; decide, fun r H1 r0 r1 b1 s1 => ?_⟩
    have r1' : r < 1000000000000000 := r1
    refine ⟨_, _, rfl, rfl, ⟨by decide, by decide, by decide⟩, _, _, rfl, rfl, cmul (a := 64) (b := 64) (by unfold Bd; omega) (by unfold Bd; decide), _, _, rfl, rfl, ⟨by decide, by decide, by decide⟩, _, _, rfl, rfl, ?_⟩
    refine ⟨_, rfl, _, rfl, p, n + 1, _, rfl, b1, by omega, by decide, by unfold Bd; decide, fun r2 H2 r20 r21 b2 s2 => ?_⟩
    refine ⟨_, _, rfl, rfl, (by show 2 ≤ sizeLine; decide), fun p2 hp2 => ?_⟩
    have n2 : SameBut p H2 (upd H2 p2 (.lst [.int (r * 10 ^ (15 : Int).toNat - 10 ^ (29 : Int).toNat), .int (r2 - 9)])) := (Same.but (same_new (fun _ _ z => z) hp2))
    have e2 := upd_same (H := H2) (a := p2) (o := .lst [.int (r * 10 ^ (15 : Int).toNat - 10 ^ (29 : Int).toNat), .int (r2 - 9)])
    have b2' := b2.same (same_new (o := .lst [.int (r * 10 ^ (15 : Int).toNat - 10 ^ (29 : Int).toNat), .int (r2 - 9)]) (fun _ _ z => z) hp2)
    generalize upd H2 p2 (.lst [.int (r * 10 ^ (15 : Int).toNat - 10 ^ (29 : Int).toNat), .int (r2 - 9)]) = H3 at *
    refine ⟨_, rfl, p, n + 2, _, rfl, b2', by omega, by decide, by unfold Bd; decide, fun r3 H4 r30 r31 b4 s4 => ?_⟩
    have e4 := s4 _ _ e2 (b2'.ne_lst e2)
    obtain ⟨z, hz⟩ : ∃ z, atI [V.int (r * 10 ^ (15 : Int).toNat - 10 ^ (29 : Int).toNat), V.int (r2 - 9)] r3 = some (.int z) := by
      have : r3 = ((0 : Nat) : Int) ∨ r3 = ((1 : Nat) : Int) := by omega
      rcases this with e | e
      · rw [e]; exact ⟨_, atI_nat rfl⟩
      · rw [e]; exact ⟨_, atI_nat rfl⟩
    refine ⟨p2, _, _, _, rfl, rfl, Or.inl (Or.inl e4), hz, ?_⟩
    have s04 : SameBut p H H4 := ((s1.trans s2).trans n2).trans s4
    clear hz e4 s4 b2' n2 e2 s2 b2 s1 b1
    refine ⟨(by show 2 ≤ sizeLine; decide), fun pt ht => ⟨(by show 0 ≤ sizeLine; decide), fun p0 h0 => ⟨(by show 1 ≤ sizeLine; decide), fun p3 h3 => ⟨(by show 9 ≤ sizeLine; decide), fun pl hl => ?_⟩⟩⟩⟩
    obtain ⟨H5, d5⟩ : ∃ H5, H5 = upd (upd (upd H4 pt (.tup [.int 1, .str "a"])) p0 (.lst [])) p3 (.lst [.int 3]) := ⟨_, rfl⟩
    have tt : H5 pt = some (.tup [.int 1, .str "a"]) := by rw [d5, upd_ne (ne_of_none (by rw [upd_ne (ne_of_none upd_same h0)]; exact upd_same) h3), upd_ne (ne_of_none upd_same h0)]; exact upd_same
    have t0 : H5 p0 = some (.lst []) := by rw [d5, upd_ne (ne_of_none upd_same h3)]; exact upd_same
    have t3 : H5 p3 = some (.lst [.int 3]) := by rw [d5]; exact upd_same
    have s45 : Same H4 H5 := by rw [d5]; exact same_new (same_new (same_new (fun _ _ z => z) ht) h0) h3
    rw [← d5] at hl ⊢
    have s56 : Same H5 (upd H5 pl (.lst [.int z, .str "", .str "p1", .non, .bl true, .ref pt, .ref p0, .ref p3, .int 0])) := same_new (fun _ _ z => z) hl
    have e6 := upd_same (H := H5) (a := pl) (o := .lst [.int z, .str "", .str "p1", .non, .bl true, .ref pt, .ref p0, .ref p3, .int 0])
    clear d5
    generalize upd H5 pl (.lst [.int z, .str "", .str "p1", .non, .bl true, .ref pt, .ref p0, .ref p3, .int 0]) = H6 at *
    have b6 : BagAt H6 p (n + 3) := (b4.same s45).same s56
    refine ⟨_, rfl, _, rfl, p, n + 3, _, rfl, b6, by omega, by decide, by unfold Bd; decide, fun r4 H7 r40 r41 b7 s7 => ?_⟩
    have e7 := s7 _ _ e6 (b6.ne_lst e6)
    have s07 : SameBut p H H7 := (s04.trans (Same.but fun x o h => s56 x o (s45 x o h))).trans s7
    obtain ⟨v, d, hv, th⟩ : ∃ v d, atI [.int z, .str "", .str "p1", .non, .bl true, .ref pt, .ref p0, .ref p3, .int 0] r4 = some v ∧ Thing H6 v d := by
      have : r4 = ((0 : Nat) : Int) ∨ r4 = ((1 : Nat) : Int) ∨ r4 = ((2 : Nat) : Int) ∨ r4 = ((3 : Nat) : Int) ∨ r4 = ((4 : Nat) : Int) ∨ r4 = ((5 : Nat) : Int) ∨ r4 = ((6 : Nat) : Int) ∨ r4 = ((7 : Nat) : Int) ∨ r4 = ((8 : Nat) : Int) := by omega
      rcases this with e | e | e | e | e | e | e | e | e
      · rw [e]; exact ⟨_, _, atI_nat rfl, .int z⟩
      · rw [e]; exact ⟨_, _, atI_nat rfl, .s0⟩
      · rw [e]; exact ⟨_, _, atI_nat rfl, .s1⟩
      · rw [e]; exact ⟨_, _, atI_nat rfl, .non⟩
      · rw [e]; exact ⟨_, _, atI_nat rfl, .bl⟩
      · rw [e]; exact ⟨_, _, atI_nat rfl, .tup (s56 _ _ tt)⟩
      · rw [e]; exact ⟨_, _, atI_nat rfl, .l0 (s56 _ _ t0)⟩
      · rw [e]; exact ⟨_, _, atI_nat rfl, .l3 (s56 _ _ t3)⟩
      · rw [e]; exact ⟨_, _, atI_nat rfl, .int 0⟩
    exact ⟨pl, _, _, _, rfl, rfl, Or.inl (Or.inl e7), hv, q v d H7 (th.but b6 s7) b7 s07⟩
end
end Tb

set_option Elab.async false
set_option linter.all false
set_option maxRecDepth 100000
set_option maxHeartbeats 3999000
set_option exponentiation.threshold 6000
namespace Tb
open PySem L2
open C8 (pss_cut tCut)
open PySem.W (Frag)
section
variable {P : Program} {w : World} {K : Frag} {mg : Str → Option Value} {base : Heap} {B : Addr} {C : Nat → Addr} {H H' : Hp} {v : V} {d : PyData}
def sizesV : List V := [.int 1, .int 1, .int 1, .int 3, .int 1, .int 1, .int 1, .int 1, .int 1, .int 1, .int 1, .int 1, .int 1, .int 1, .int 1, .int 1, .int 1, .int 1]
theorem size_at : ∀ k, k < 18 → sizesV[k]? = some (.int (szOf k : Nat)) := by decide +kernel
theorem cut_three (a b c : V) (n : Nat) (hn : n ≤ 3) : cutV [a, b, c] none (some (n : Int)) = [a, b, c].take n := by
  unfold cutV
  rw [HT.sIx_none, HT.sIx_nat]
  show ([a, b, c].drop 0).take (min n 3 - 0) = _
  rw [List.drop_zero, Nat.sub_zero, Nat.min_eq_left hn]
theorem sz_three : ∀ k, k < 18 → szOf k ≤ 3 := by decide +kernel
inductive Things (H : Hp) : List V → List PyData → Prop
  | nil : Things H [] []
  | cons {v : V} {d : PyData} {vs : List V} {ds : List PyData} : Thing H v d → Things H vs ds → Things H (v :: vs) (d :: ds)
theorem Things.take {vs : List V} {ds : List PyData} (t : Things H vs ds) : ∀ n : Nat, Things H (vs.take n) (ds.take n) := by
  induction t with
  | nil => intro n; rw [List.take_nil, List.take_nil]; exact .nil
  | cons h _ ih =>
    intro n
    cases n with
    | zero => exact .nil
    | succ n => exact .cons h (ih n)
theorem Things.dp {vs : List V} {ds : List PyData} (t : Things H vs ds) : DpAll K H vs ds := by
  induction t with
  | nil => exact .nil
  | cons h _ ih => exact .cons h.dp ih
theorem Things.eqv {vs : List V} {ds : List PyData} (t : Things H vs ds) : PyData.eqvAll ds ds = true := by
  induction t with
  | nil => rfl
  | cons h _ ih =>
    show (_ && _) = true
    rw [h.eqv, ih]; rfl
theorem Things.lay {vs : List V} {ds : List PyData} (t : Things H vs ds) : SeqAt.shaped (.list ds) = true := by
  have key : PyData.canLayAll0 ds = true ∧ PyData.depthAll ds ≤ 2 := by
    induction t with
    | nil => exact ⟨rfl, by decide⟩
    | cons h _ ih =>
      refine ⟨?_, ?_⟩
      · show (_ && _) = true
        rw [h.lay.1, ih.1]; rfl
      · show max _ _ ≤ 2
        exact Nat.max_le.mpr ⟨h.lay.2, ih.2⟩
  show (PyData.canLayAll0 ds && decide (PyData.depthAll ds + 1 ≤ 64)) = true
  rw [key.1, decide_eq_true (by have := key.2; omega)]; rfl
theorem bools_dp : ∀ bs : List Bool, DpAll K H (bs.map V.bl) (bs.map PyData.bool)
  | [] => .nil
  | b :: bs => .cons (.bl b) (bools_dp bs)
theorem bools_eqv : ∀ bs : List Bool, PyData.eqvAll (bs.map PyData.bool) (bs.map PyData.bool) = true
  | [] => rfl
  | b :: bs => by
    show ((b == b) && _) = true
    rw [bools_eqv bs, beq_self_eq_true]; rfl
theorem bools_lay (bs : List Bool) : SeqAt.shaped (.list (bs.map PyData.bool)) = true := by
  have key : ∀ bs : List Bool, PyData.canLayAll0 (bs.map PyData.bool) = true ∧ PyData.depthAll (bs.map PyData.bool) = 0 := by
    intro bs
    induction bs with
    | nil => exact ⟨rfl, rfl⟩
    | cons b bs ih =>
      refine ⟨?_, ?_⟩
      · show (true && _) = true
        rw [ih.1]; rfl
      · show max 0 _ = 0
        rw [ih.2]; rfl
  show (PyData.canLayAll0 _ && decide (PyData.depthAll _ + 1 ≤ 64)) = true
  rw [(key bs).1, (key bs).2]; rfl
theorem bits_map (k n : Nat) : (V.bl true :: bitsOf k n) = (true :: (List.range n).map fun j => decide (k = j)).map V.bl := by
  unfold bitsOf
  rw [List.map_cons, List.map_map]; rfl
theorem bits_more (k n : Nat) : bitsOf k n ++ [.bl (decide (V.int (n : Int) = V.int (k : Int)))] = bitsOf k (n + 1) := by
  unfold bitsOf
  rw [List.range_succ, List.map_append]
  have e : decide (V.int (n : Int) = V.int (k : Int)) = decide (k = n) := decide_eq_decide.mpr ⟨fun h => by have := V.int.inj h; omega, fun h => by rw [h]⟩
  rw [e]; rfl
def spLaw (K : Frag) : Sp := fun vs H Q _ => ∃ (a : Addr) (ns : List Int), vs = [.ref a] ∧ SqL K H a (ns.map V.int) ∧ ns.length ≤ 63 ∧ ∀ H', Q (.bl true) H'
theorem ok_law {f : Addr} {fd : FuncData} (F : Fun K "law" "law" s_law f fd) (T : Bl mg) (hL_bag : HasF P w K mg base "_law_bag" 1 (spBag K)) (hL_thing : HasF P w K mg base "_law_thing" 2 spThing) (hL_fields : HasF P w K mg base "_law_fields" 5 (spFields 0 18)) (hL_caught : HasF P w K mg base "_law_caught" 5 spCaught) : FnOk P w K mg base CX0 6 f fd ["_law_script"] (spLaw K) := by
  refine F.ok sc_law (fun vs H Q E h => ?_) (fun cdv A outer s H vs Q E hr h => ?_)
  · obtain ⟨a, ns, rfl, _⟩ := h; rfl
  · obtain ⟨a, ns, rfl, hS, hl, q⟩ := h
    refine ⟨_, (pss_cons (ps_set (i := 1) sc_law.nd rfl (by first | exact Or.inl rfl | exact Or.inr rfl) (pe_fn hL_bag (hr.mono (by decide)) rfl (pa_cons (pv 0) pa_nil)))
      (pss_cons (ps_set (i := 2) sc_law.nd rfl (by first | exact Or.inl rfl | exact Or.inr rfl) (pe_lst (pa_cons pe_int (pa_cons pe_int (pa_cons pe_int (pa_cons pe_int (pa_cons pe_int (pa_cons pe_int (pa_cons pe_int (pa_cons pe_int (pa_cons pe_int (pa_cons pe_int (pa_cons pe_int (pa_cons pe_int (pa_cons pe_int (pa_cons pe_int (pa_cons pe_int (pa_cons pe_int (pa_cons pe_int (pa_cons pe_int pa_nil))))))))))))))))))))
      (pss_cons (ps_for PassesOwn.never rfl (pi_range1 (by rfl) T.range (pa_cons pe_int pa_nil)) (pg_name (i := 3) sc_law.nd rfl (by first | exact Or.inl rfl | exact Or.inr rfl))
        (pss_cons (ps_par3 (i := 4) (j := 5) (l := 6) (by rfl) sc_law.nd rfl rfl rfl (by decide) (by decide) (by decide) rfl rfl rfl (pa_cons (pe_fn hL_thing (hr.mono (by decide)) rfl (pa_cons (pv 1) pa_nil)) (pa_cons (pe_fn hL_thing (hr.mono (by decide)) rfl (pa_cons (pv 1) pa_nil)) (pa_cons (pe_fn hL_thing (hr.mono (by decide)) rfl (pa_cons (pv 1) pa_nil)) pa_nil))) (by rfl))
        (pss_cons (ps_if (pt_cmpR (op_neD hr.units) (pe_fn hL_fields (hr.mono (by decide)) rfl (pa_cons (pv 3) (pa_cons (pv 4) (pa_cons (pv 5) (pa_cons (pv 6) pa_nil))))) (pe_slice sl_list (pe_lst (pa_cons (pv 4) (pa_cons (pv 5) (pa_cons (pv 6) pa_nil)))) po_none (po_some (pe_ix ix_list (pv 2) (pv 3) (fun _ _ => rfl)))) (nomark _))
          (pss_one (ps_ret pe_bl))
          pss_nil)
        (pss_one (ps_if (pt_cmpR (op_neD hr.units) (pe_fn hL_caught (hr.mono (by decide)) rfl (pa_cons (pv 3) (pa_cons (pv 4) (pa_cons (pv 5) (pa_cons (pv 6) pa_nil))))) (pe_op op_cat (pe_lst (pa_cons pe_bl pa_nil)) (pe_lc (own := [("_law_j", 7)]) (g := gName 7) (tt := tYes) rfl sc_law.nd (pi_range1 (by rfl) T.range (pa_cons pe_int pa_nil)) (blkOk_by (own := [("_law_j", 7)]) (N := nm_law) (sc := defScope s_law) (by decide +kernel)) (fun _ _ _ _ _ => pg_name (i := 7) sc_law.nd rfl (by first | exact Or.inl rfl | exact Or.inr rfl)) (fun _ _ _ _ _ => pts_nil) (fun _ _ _ _ _ => (pe_cmpR op_eq (pv 7) (pv 3) (nomark _))))) (nomark _))
          (pss_one (ps_ret pe_bl))
          pss_nil)))))
      (pss_one (ps_ret pe_bl))))), ?_⟩
    refine ⟨_, rfl, a, ns, rfl, hS, hl, fun p H1 hp s1 B1 => ?_⟩
    refine ⟨(by show 18 ≤ sizeLine; decide), fun z hz => ?_⟩
    refine ⟨18, rfl, by decide, by decide, for_range (n := 18) (fun i σ H2 => (∃ v3 v4 v5 v6 : Option V, σ = [some (.ref a), some (.ref p), some (.ref z), v3, v4, v5, v6, none]) ∧ BagAt H2 p (12 * i) ∧ H2 z = some (.lst sizesV)) ⟨⟨_, _, _, _, rfl⟩, B1.same (same_new (fun _ _ z => z) hz), upd_same⟩ ?_ (fun σ H2 _ => q H2)⟩
    rintro i σ H2 hi ⟨⟨v3, v4, v5, v6, rfl⟩, B2, ez⟩
    rw [show ((0 : Int) + (i : Int)) = (i : Int) by omega]
    refine ⟨_, rfl, p, 12 * i, rfl, B2, by omega, fun va da H3 ta B3 s3 => ?_⟩
    refine ⟨_, rfl, p, _, rfl, B3, by omega, fun vb db H4 tb B4 s4 => ?_⟩
    refine ⟨_, rfl, p, _, rfl, B4, by omega, fun vc dc H5 tc B5 s5 => ?_⟩
    refine ⟨_, _, _, rfl, ?_⟩
    refine ⟨_, rfl, _, rfl, _, rfl, _, rfl, i, va, vb, vc, rfl, Nat.zero_le _, hi, fun p6 H6 s6 e6 => ?_⟩
    refine ⟨_, rfl, _, rfl, _, rfl, (by show 3 ≤ sizeLine; decide), fun p7 h7 => ?_⟩
    have b5 := fun {v d} (t : Thing H5 v d) => t.same s6
    have ta6 := b5 ((ta.but B3 s4).but B4 s5)
    have tb6 := b5 (tb.but B4 s5)
    have tc6 := b5 tc
    have ez5 := s5 _ _ (s4 _ _ (s3 _ _ ez (B2.ne_lst ez)) (B3.ne_lst (s3 _ _ ez (B2.ne_lst ez)))) (B4.ne_lst (s4 _ _ (s3 _ _ ez (B2.ne_lst ez)) (B3.ne_lst (s3 _ _ ez (B2.ne_lst ez)))))
    have ez6 := s6 _ _ ez5
    have B6 := B5.same s6
    have n67 : Same H6 (upd H6 p7 (.lst [va, vb, vc])) := same_new (fun _ _ z => z) h7
    have e7 := upd_same (H := H6) (a := p7) (o := .lst [va, vb, vc])
    generalize upd H6 p7 (.lst [va, vb, vc]) = H7 at *
    refine ⟨_, rfl, _, rfl, z, _, _, _, rfl, rfl, .inl (.inl (n67 _ _ ez6)), atI_nat (size_at i hi), _, rfl, ?_⟩
    refine ⟨p7, _, rfl, .inl (.inl e7), fun p8 h8 => ?_⟩
    rw [cut_three va vb vc _ (sz_three i hi)]
    have n78 : Same H7 (upd H7 p8 (.lst ([va, vb, vc].take (szOf i)))) := same_new (fun _ _ z => z) h8
    have e8 := upd_same (H := H7) (a := p8) (o := .lst ([va, vb, vc].take (szOf i)))
    generalize upd H7 p8 (.lst ([va, vb, vc].take (szOf i))) = H8 at *
    have s68 : Same H6 H8 := fun x o h => n78 x o (n67 x o h)
    have ths := (Things.cons (ta6.same s68) (.cons (tb6.same s68) (.cons (tc6.same s68) .nil))).take (szOf i)
    have eq := ths.eqv
    refine ⟨_, _, .lst (.inl (.inl (s68 _ _ e6))) ths.dp, .lst (.inl (.inl e8)) ths.dp, ths.lay, ths.lay, false, congrArg V.bl (by show (!PyData.eqvAll _ _) = false; rw [eq]; rfl), iteF ?_⟩
    refine ⟨_, rfl, _, rfl, _, rfl, _, rfl, i, va, vb, vc, rfl, hi, fun p9 H9 s9 e9 => ?_⟩
    refine ⟨(by show 1 ≤ sizeLine; decide), fun p10 h10 => ?_⟩
    have n910 : Same H9 (upd H9 p10 (.lst [.bl true])) := same_new (fun _ _ z => z) h10
    have e10 := upd_same (H := H9) (a := p10) (o := .lst [.bl true])
    generalize upd H9 p10 (.lst [.bl true]) = H10 at *
    refine ⟨18, rfl, by decide, by decide, fun D hD => ?_⟩
    refine lc_range (lo := 0) (n := 18) (fun j H11 => Same H10 H11 ∧ H11 D = some (.lst (bitsOf i j))) ⟨same_new (fun _ _ z => z) hD, upd_same⟩ ?_ ?_
    · rintro j H11 hj ⟨s11, e11⟩
      refine ⟨rfl, ?_⟩
      show ∃ v, _
      refine ⟨_, rfl, _, rfl, rfl, _, e11, ?_, fun x o h => ?_, ?_⟩
      · unfold bitsOf; rw [List.length_map, List.length_range]; exact Nat.lt_of_lt_of_le hj (by decide)
      · rw [upd_ne (ne_of_none h hD)]; exact s11 x o h
      · rw [upd_same]
        show some (HO.lst (bitsOf i j ++ [.bl (decide (V.int ((0 : Int) + (j : Int)) = V.int (i : Int)))])) = _
        rw [show ((0 : Int) + (j : Int)) = (j : Int) by omega, bits_more]
    · rintro H11 ⟨s11, e11⟩
      refine ⟨p10, D, _, _, rfl, rfl, s11 _ _ e10, e11, (by show 1 + (bitsOf i 18).length ≤ sizeLine; unfold bitsOf; rw [List.length_map, List.length_range]; decide), fun p12 h12 => ?_⟩
      have e12 := upd_same (H := H11) (a := p12) (o := .lst ([.bl true] ++ bitsOf i 18))
      have n12 : Same H11 (upd H11 p12 (.lst ([.bl true] ++ bitsOf i 18))) := same_new (fun _ _ z => z) h12
      generalize upd H11 p12 (.lst ([.bl true] ++ bitsOf i 18)) = H12 at *
      have s912 : Same H9 H12 := fun x o h => n12 x o (s11 x o (n910 x o h))
      have e9' := s912 _ _ e9
      have e12' : H12 p12 = some (.lst (.bl true :: bitsOf i 18)) := e12
      rw [bits_map] at e9' e12'
      refine ⟨_, _, .lst (.inl (.inl e9')) (bools_dp _), .lst (.inl (.inl e12')) (bools_dp _), bools_lay _, bools_lay _, false, congrArg V.bl (by show (!PyData.eqvAll _ _) = false; rw [bools_eqv]; rfl), iteF ?_⟩
      exact ⟨⟨_, _, _, _, rfl⟩, by
        have := ((B6.same s68).same s9).same s912
        exact this, s912 _ _ (s9 _ _ (s68 _ _ ez6))⟩
end
end Tb

set_option Elab.async false
set_option linter.all false
set_option maxRecDepth 100000
set_option maxHeartbeats 3999000
namespace Tb
open PySem L2
open PySem.W (Frag)
/-- a def under its name in the module -/
structure FunAt (K : Frag) (x qual : Str) (st : Stmt) : Prop where
  ex : ∃ (f : Addr) (fd : FuncData), PySem.W.nsIn K mainGlobals x = some (some (.ref f)) ∧ Fun K x qual st f fd
/-- a method under its name in the class at C -/
structure MethAt (K : Frag) (C : Addr) (x qual : Str) (st : Stmt) : Prop where
  ex : ∃ (f : Addr) (fd : FuncData), PySem.W.findIn K (.ref C) x = some (some (.ref f)) ∧ PySem.W.isFn K (.ref f) = true ∧ Fun K x qual st f fd
theorem funAt_mk {K : Frag} {x qual : Str} {st : Stmt} {f : Addr} {oc : Value} {od an : Option Addr} {osl : Array (Option Value)} {kV doc pm cdv ct : Value} (a : PySem.W.nsIn K mainGlobals x = some (some (.ref f)))
    (l : K.lookup f = some ⟨oc, od, .func (PySem.W.fnOf x qual (defArgs st) (defBody st) (defScope st) .none kV doc pm an cdv ct), osl⟩) (c : PySem.W.codeIn K cdv qual = true) (k : PySem.W.keepIn K (.ref f) = true) : FunAt K x qual st :=
  ⟨f, _, a, fun_mk l c k⟩
theorem methAt_mk {K : Frag} {C : Addr} {x qual : Str} {st : Stmt} {f : Addr} {oc : Value} {od an : Option Addr} {osl : Array (Option Value)} {kV doc pm cdv ct : Value} (a : PySem.W.findIn K (.ref C) x = some (some (.ref f))) (i : PySem.W.isFn K (.ref f) = true)
    (l : K.lookup f = some ⟨oc, od, .func (PySem.W.fnOf x qual (defArgs st) (defBody st) (defScope st) .none kV doc pm an cdv ct), osl⟩) (c : PySem.W.codeIn K cdv qual = true) (k : PySem.W.keepIn K (.ref f) = true) : MethAt K C x qual st :=
  ⟨f, _, a, i, fun_mk l c k⟩
theorem baseAt_mk {K : Frag} {h : Heap} {mg : Str → Option Value} {x : Str} {B N : Addr} {nm q : Str} {bs : List Value} {sn : List Str} {sub : List Value} {ab : Bool} {col : Option Bool} {dd : Option Addr} {k0 k1 k2 k3 k5 : Option Value} (X : K.In h) (G : h.Ns mainGlobals mg) (a : PySem.W.nsIn K mainGlobals x = some (some (.ref B)))
    (l : K.lookup B = some (excClassObj nm q B N bs HandSPX.veTail true sn sub ab col dd k0 k1 k2 k3 k5 "ValueError.__new__")) (i : PySem.W.findIn K (.ref B) "__init__" = some (some (.builtin "ValueError.__init__"))) (d : PySem.W.hasDictIn K B = true) (t : PySem.W.typeIn K (.ref B) = some (.type "type")) : BaseAt K mg x B :=
  ⟨PySem.W.mg_of X G a, ⟨nm, q, N, bs, sn, sub, ab, col, dd, k0, k1, k2, k3, k5, l⟩, i, d, t⟩
theorem withBase {P : Program} {K : Frag} {h : Heap} {mg : Str → Option Value} {Goal : Prop} {x : Str} {B N : Addr} {nm q : Str} {bs : List Value} {sn : List Str} {sub : List Value} {ab : Bool} {col : Option Bool} {dd : Option Addr} {k0 k1 k2 k3 k5 : Option Value} (X : K.In h) (G : h.Ns mainGlobals mg) (a : PySem.W.nsIn K mainGlobals x = some (some (.ref B)))
    (l : K.lookup B = some (excClassObj nm q B N bs HandSPX.veTail true sn sub ab col dd k0 k1 k2 k3 k5 "ValueError.__new__")) (i : PySem.W.findIn K (.ref B) "__init__" = some (some (.builtin "ValueError.__init__"))) (d : PySem.W.hasDictIn K B = true) (t : PySem.W.typeIn K (.ref B) = some (.type "type"))
    (opq : PySem.W.nsIn K cStatics "thirdparty.any" = some none) (cg : PySem.W.specialIn K (.builtin "object.__class__") "__get__" = some (some (.builtin "getset_descriptor.__get__"))) (ct : PySem.W.takesIn K (.builtin "object.__class__") = some true) (zs : PySem.W.nsIn K mainGlobals "super" = some none) (top : (P.main.scope.names.lookup ("super" : Str)).isSome = false)
    (go : BaseAt K mg x B → Shared0 P K → Goal) : Goal := go (baseAt_mk X G a l i d t) ⟨opq, cg, ct, zs, top⟩
theorem at_inj {l : List Addr} (h : l.Nodup) {i j : Nat} (hi : i < l.length) (hj : j < l.length) (e : l.getD i 0 = l.getD j 0) : i = j := by
  rw [List.getD_eq_getElem?_getD, List.getD_eq_getElem?_getD, List.getElem?_eq_getElem hi, List.getElem?_eq_getElem hj] at e
  have e' : l[i] = l[j] := e
  have q := List.pairwise_iff_getElem.mp h
  rcases Nat.lt_trichotomy i j with c | c | c
  · exact absurd e' (q i j hi hj c)
  · exact c
  · exact absurd e'.symm (q j i hj hi c)
theorem at_mem {l : List Addr} {i : Nat} (hi : i < l.length) : l.getD i 0 ∈ l := by
  rw [List.getD_eq_getElem?_getD, List.getElem?_eq_getElem hi]; exact List.getElem_mem hi
theorem all_mk {P : Program} {w : World} {K : Frag} {h : Heap} {mg : Str → Option Value} {fa B C0 C1 C2 C3 C4 C5 C6 C7 C8 C9 C10 C11 C12 C13 C14 C15 C16 C17  : Addr} (X : K.In h) (G : h.Ns mainGlobals mg) (hfa : mg "law" = some (.ref fa))
    (eB : BaseAt K mg "BlockError" B)
    (eBadKind : ErrAt P K mg B "BadKind" C0 ["kind"])
    (eBadLine : ErrAt P K mg B "BadLine" C1 ["line"])
    (eRefused : ErrAt P K mg B "Refused" C2 ["line"])
    (eTooMany : ErrAt P K mg B "TooMany" C3 ["what", "many", "most"])
    (eBadPromise : ErrAt P K mg B "BadPromise" C4 ["promise"])
    (eBadRule : ErrAt P K mg B "BadRule" C5 ["what"])
    (eBadSize : ErrAt P K mg B "BadSize" C6 ["size"])
    (eBadNumber : ErrAt P K mg B "BadNumber" C7 ["number"])
    (eBadCount : ErrAt P K mg B "BadCount" C8 ["many"])
    (eBadCase : ErrAt P K mg B "BadCase" C9 ["case"])
    (eBadOutcomes : ErrAt P K mg B "BadOutcomes" C10 ["word"])
    (eBadName : ErrAt P K mg B "BadName" C11 ["name"])
    (eBadLength : ErrAt P K mg B "BadLength" C12 ["length"])
    (eOtherKinds : ErrAt P K mg B "OtherKinds" C13 ["part"])
    (eOtherRules : ErrAt P K mg B "OtherRules" C14 ["part"])
    (eBroken : ErrAt P K mg B "Broken" C15 ["part"])
    (eBadGap : ErrAt P K mg B "BadGap" C16 ["gap"])
    (eBadMap : ErrAt P K mg B "BadMap" C17 ["index"])
    (nd : [B, C0, C1, C2, C3, C4, C5, C6, C7, C8, C9, C10, C11, C12, C13, C14, C15, C16, C17].Nodup)
    (ah__law_bag : FunAt K "_law_bag" "_law_bag" s_Lbag)
    (ah__law_draw : FunAt K "_law_draw" "_law_draw" s_Ldraw)
    (ah__law_raised_0 : FunAt K "_law_raised_0" "_law_raised_0" s_Lraised_0)
    (ah__law_raised_1 : FunAt K "_law_raised_1" "_law_raised_1" s_Lraised_1)
    (ah__law_raised_2 : FunAt K "_law_raised_2" "_law_raised_2" s_Lraised_2)
    (ah__law_raised : FunAt K "_law_raised" "_law_raised" s_Lraised)
    (ah__law_fields_0 : FunAt K "_law_fields_0" "_law_fields_0" s_Lfields_0)
    (ah__law_fields_1 : FunAt K "_law_fields_1" "_law_fields_1" s_Lfields_1)
    (ah__law_fields_2 : FunAt K "_law_fields_2" "_law_fields_2" s_Lfields_2)
    (ah__law_fields : FunAt K "_law_fields" "_law_fields" s_Lfields)
    (ah__law_kinds_of : FunAt K "_law_kinds_of" "_law_kinds_of" s_Lkinds_of)
    (ah__law_caught : FunAt K "_law_caught" "_law_caught" s_Lcaught)
    (ah__law_thing : FunAt K "_law_thing" "_law_thing" s_Lthing)
    (ah_law : FunAt K "law" "law" s_law)
    (zrange : PySem.W.nsIn K mainGlobals "range" = some none)
    (zlen : PySem.W.nsIn K mainGlobals "len" = some none)
    (zint : PySem.W.nsIn K mainGlobals "int" = some none)
    (zbool : PySem.W.nsIn K mainGlobals "bool" = some none)
    (zmin : PySem.W.nsIn K mainGlobals "min" = some none)
    (zmax : PySem.W.nsIn K mainGlobals "max" = some none)
    (zlist : PySem.W.nsIn K mainGlobals "list" = some none)
    (zisinstance : PySem.W.nsIn K mainGlobals "isinstance" = some none)
    (zabs : PySem.W.nsIn K mainGlobals "abs" = some none)
    (ztuple : PySem.W.nsIn K mainGlobals "tuple" = some none)
    (zstr : PySem.W.nsIn K mainGlobals "str" = some none)
    (zdict : PySem.W.nsIn K mainGlobals "dict" = some none)
    (zsorted : PySem.W.nsIn K mainGlobals "sorted" = some none)
    (zall : PySem.W.nsIn K mainGlobals "all" = some none)
    (zany : PySem.W.nsIn K mainGlobals "any" = some none)
    (zsum : PySem.W.nsIn K mainGlobals "sum" = some none)
    (zset : PySem.W.nsIn K mainGlobals "set" = some none)
    (zrepr : PySem.W.nsIn K mainGlobals "repr" = some none)
    (zenumerate : PySem.W.nsIn K mainGlobals "enumerate" = some none)
    (zzip : PySem.W.nsIn K mainGlobals "zip" = some none)
    (zValueError : PySem.W.nsIn K mainGlobals "ValueError" = some none)
    :
    ∃ fd : FuncData, (∀ (s : Shared) (v : Value), BindsTo s fd ⟨[v], []⟩ [("_law_script", v)]) ∧ ∀ base : Heap, K.In base → base.Ns mainGlobals mg → FnOk P w K mg base CX0 6 fa fd ["_law_script"] (spLaw K) := by
  have T : Bl mg := { range := PySem.W.mg_none_of X G zrange, len := PySem.W.mg_none_of X G zlen, int := PySem.W.mg_none_of X G zint, bool := PySem.W.mg_none_of X G zbool, min := PySem.W.mg_none_of X G zmin, max := PySem.W.mg_none_of X G zmax, list := PySem.W.mg_none_of X G zlist, isinstance := PySem.W.mg_none_of X G zisinstance, abs := PySem.W.mg_none_of X G zabs, tuple := PySem.W.mg_none_of X G ztuple, str := PySem.W.mg_none_of X G zstr, dict := PySem.W.mg_none_of X G zdict, sorted := PySem.W.mg_none_of X G zsorted, all := PySem.W.mg_none_of X G zall, any := PySem.W.mg_none_of X G zany, sum := PySem.W.mg_none_of X G zsum, set := PySem.W.mg_none_of X G zset, repr := PySem.W.mg_none_of X G zrepr, enumerate := PySem.W.mg_none_of X G zenumerate, zip := PySem.W.mg_none_of X G zzip, ValueError := PySem.W.mg_none_of X G zValueError }
  obtain ⟨C, hC⟩ : ∃ C : Nat → Addr, C = fun k => [C0, C1, C2, C3, C4, C5, C6, C7, C8, C9, C10, C11, C12, C13, C14, C15, C16, C17].getD k 0 := ⟨_, rfl⟩
  have nd2 := List.nodup_cons.mp nd
  have R : Er P K mg B C := { eB := eB, eBadKind := by subst hC; exact eBadKind, eBadLine := by subst hC; exact eBadLine, eRefused := by subst hC; exact eRefused, eTooMany := by subst hC; exact eTooMany, eBadPromise := by subst hC; exact eBadPromise, eBadRule := by subst hC; exact eBadRule, eBadSize := by subst hC; exact eBadSize, eBadNumber := by subst hC; exact eBadNumber, eBadCount := by subst hC; exact eBadCount, eBadCase := by subst hC; exact eBadCase, eBadOutcomes := by subst hC; exact eBadOutcomes, eBadName := by subst hC; exact eBadName, eBadLength := by subst hC; exact eBadLength, eOtherKinds := by subst hC; exact eOtherKinds, eOtherRules := by subst hC; exact eOtherRules, eBroken := by subst hC; exact eBroken, eBadGap := by subst hC; exact eBadGap, eBadMap := by subst hC; exact eBadMap, inj := fun i j hi hj e => by subst hC; exact at_inj nd2.2 hi hj e, nb := fun i hi e => by subst hC; exact nd2.1 (e ▸ at_mem (l := [C0, C1, C2, C3, C4, C5, C6, C7, C8, C9, C10, C11, C12, C13, C14, C15, C16, C17]) hi) }
  obtain ⟨fl, fdl, al, Fl⟩ := ah_law.ex
  have e := hfa.symm.trans (PySem.W.mg_of X G al)
  cases e
  refine ⟨fdl, fun s v => ?_, fun base _ _ => ?_⟩
  · obtain ⟨oc, od, kV, doc, pm, an, cdv, ct, osl, rfl, lk, hcd⟩ := Fl.ex
    exact .of_eq rfl
  have h__law_bag : HasF P w K mg base "_law_bag" 1 (spBag K) := by
    obtain ⟨f, fd, a, F⟩ := ah__law_bag.ex
    exact ⟨f, fd, _, ok_bag F T, PySem.W.mg_of X G a, F.kp, F.binds (ps := ["_law_script"]) fun _ _ _ _ _ _ us hl => match us, hl with | [_], _ => rfl⟩
  have h__law_draw : HasF P w K mg base "_law_draw" 1 spDraw := by
    obtain ⟨f, fd, a, F⟩ := ah__law_draw.ex
    exact ⟨f, fd, _, ok_draw F T, PySem.W.mg_of X G a, F.kp, F.binds (ps := ["_law_bag_here", "_law_limit"]) fun _ _ _ _ _ _ us hl => match us, hl with | [_, _], _ => rfl⟩
  have h__law_raised_0 : HasE P w K mg base "_law_raised_0" 3 (spRaise C 0 8) := by
    obtain ⟨f, fd, a, F⟩ := ah__law_raised_0.ex
    exact ⟨f, fd, _, ok_raised0 F R, PySem.W.mg_of X G a, F.kp, F.binds (ps := ["_law_k", "_law_a", "_law_b", "_law_c"]) fun _ _ _ _ _ _ us hl => match us, hl with | [_, _, _, _], _ => rfl⟩
  have h__law_raised_1 : HasE P w K mg base "_law_raised_1" 3 (spRaise C 8 16) := by
    obtain ⟨f, fd, a, F⟩ := ah__law_raised_1.ex
    exact ⟨f, fd, _, ok_raised1 F R, PySem.W.mg_of X G a, F.kp, F.binds (ps := ["_law_k", "_law_a", "_law_b", "_law_c"]) fun _ _ _ _ _ _ us hl => match us, hl with | [_, _, _, _], _ => rfl⟩
  have h__law_raised_2 : HasE P w K mg base "_law_raised_2" 3 (spRaise C 16 18) := by
    obtain ⟨f, fd, a, F⟩ := ah__law_raised_2.ex
    exact ⟨f, fd, _, ok_raised2 F R, PySem.W.mg_of X G a, F.kp, F.binds (ps := ["_law_k", "_law_a", "_law_b", "_law_c"]) fun _ _ _ _ _ _ us hl => match us, hl with | [_, _, _, _], _ => rfl⟩
  have h__law_raised : HasE P w K mg base "_law_raised" 4 (spRaise C 0 18) := by
    obtain ⟨f, fd, a, F⟩ := ah__law_raised.ex
    exact ⟨f, fd, _, ok_raised F h__law_raised_0 h__law_raised_1 h__law_raised_2, PySem.W.mg_of X G a, F.kp, F.binds (ps := ["_law_k", "_law_a", "_law_b", "_law_c"]) fun _ _ _ _ _ _ us hl => match us, hl with | [_, _, _, _], _ => rfl⟩
  have h__law_fields_0 : HasF P w K mg base "_law_fields_0" 4 (spFields 0 8) := by
    obtain ⟨f, fd, a, F⟩ := ah__law_fields_0.ex
    exact ⟨f, fd, _, ok_fields0 F R h__law_raised_0, PySem.W.mg_of X G a, F.kp, F.binds (ps := ["_law_k", "_law_a", "_law_b", "_law_c"]) fun _ _ _ _ _ _ us hl => match us, hl with | [_, _, _, _], _ => rfl⟩
  have h__law_fields_1 : HasF P w K mg base "_law_fields_1" 4 (spFields 8 16) := by
    obtain ⟨f, fd, a, F⟩ := ah__law_fields_1.ex
    exact ⟨f, fd, _, ok_fields1 F R h__law_raised_1, PySem.W.mg_of X G a, F.kp, F.binds (ps := ["_law_k", "_law_a", "_law_b", "_law_c"]) fun _ _ _ _ _ _ us hl => match us, hl with | [_, _, _, _], _ => rfl⟩
  have h__law_fields_2 : HasF P w K mg base "_law_fields_2" 4 (spFields 16 18) := by
    obtain ⟨f, fd, a, F⟩ := ah__law_fields_2.ex
    exact ⟨f, fd, _, ok_fields2 F R h__law_raised_2, PySem.W.mg_of X G a, F.kp, F.binds (ps := ["_law_k", "_law_a", "_law_b", "_law_c"]) fun _ _ _ _ _ _ us hl => match us, hl with | [_, _, _, _], _ => rfl⟩
  have h__law_fields : HasF P w K mg base "_law_fields" 5 (spFields 0 18) := by
    obtain ⟨f, fd, a, F⟩ := ah__law_fields.ex
    exact ⟨f, fd, _, ok_fields F h__law_fields_0 h__law_fields_1 h__law_fields_2, PySem.W.mg_of X G a, F.kp, F.binds (ps := ["_law_k", "_law_a", "_law_b", "_law_c"]) fun _ _ _ _ _ _ us hl => match us, hl with | [_, _, _, _], _ => rfl⟩
  have h__law_kinds_of : HasP P w K mg base "_law_kinds_of" 1 (spKinds C) := by
    obtain ⟨f, fd, a, F⟩ := ah__law_kinds_of.ex
    exact ⟨f, fd, _, ok_kinds F R T, PySem.W.mg_of X G a, F.kp, F.binds (ps := ["_law_e"]) fun _ _ _ _ _ _ us hl => match us, hl with | [_], _ => rfl⟩
  have h__law_caught : HasF P w K mg base "_law_caught" 5 spCaught := by
    obtain ⟨f, fd, a, F⟩ := ah__law_caught.ex
    exact ⟨f, fd, _, ok_caught F R T h__law_raised h__law_kinds_of, PySem.W.mg_of X G a, F.kp, F.binds (ps := ["_law_k", "_law_a", "_law_b", "_law_c"]) fun _ _ _ _ _ _ us hl => match us, hl with | [_, _, _, _], _ => rfl⟩
  have h__law_thing : HasF P w K mg base "_law_thing" 2 spThing := by
    obtain ⟨f, fd, a, F⟩ := ah__law_thing.ex
    exact ⟨f, fd, _, ok_thing F h__law_draw, PySem.W.mg_of X G a, F.kp, F.binds (ps := ["_law_bag_here"]) fun _ _ _ _ _ _ us hl => match us, hl with | [_], _ => rfl⟩
  exact ok_law Fl T h__law_bag h__law_thing h__law_fields h__law_caught
end Tb
open PySem PySem.W PyProof.Rows
set_option maxRecDepth 100000 in
set_option maxHeartbeats 0 in
theorem PySem.Challenge.cw_tagblocks_k00_errors_made_from_their_fie_holds : PySem.Challenge.rw_tagblocks_k00_errors_made_from_their_fie.Holds := by
  w_on; o_law; k_head; (case hw => w_witness2)
  k_fill
  refine Tb.walk_ofX (l := PySem.Challenge.rw_tagblocks_k00_errors_made_from_their_fie) (n := 63) (k := 6) (x := "_law_script") (sp := Tb.spLaw) rfl (by decide) rfl ⟨rfl, by decide, by decide⟩ (fun w h Y => PySem.W.kIn_of Y) ?F (fun K H a ns hl _ hS => ⟨a, ns, rfl, hS, hl, fun _ => rfl⟩)
  case F =>
    intro w mg fa h KX G XL hmg
    refine' Tb.withBase (P := PySem.Challenge.rw_tagblocks_k00_errors_made_from_their_fie.prog) (x := "BlockError") KX G ?ba ?bl ?bi ?bd ?bt ?opq ?cg ?ct ?zs ?top (fun eB S0 => ?go)
    (case ba => k_is); (case bl => k_is); (case bi => k_is); (case bd => k_is); (case bt => k_is); (case opq => k_is); (case cg => k_is); (case ct => k_is); (case zs => k_is); (case top => decide +kernel)
    refine' Tb.all_mk KX G hmg eB ?eBadKind ?eBadLine ?eRefused ?eTooMany ?eBadPromise ?eBadRule ?eBadSize ?eBadNumber ?eBadCount ?eBadCase ?eBadOutcomes ?eBadName ?eBadLength ?eOtherKinds ?eOtherRules ?eBroken ?eBadGap ?eBadMap ?nd ?ah__law_bag ?ah__law_draw ?ah__law_raised_0 ?ah__law_raised_1 ?ah__law_raised_2 ?ah__law_raised ?ah__law_fields_0 ?ah__law_fields_1 ?ah__law_fields_2 ?ah__law_fields ?ah__law_kinds_of ?ah__law_caught ?ah__law_thing ?ah_law  ?zrange ?zlen ?zint ?zbool ?zmin ?zmax ?zlist ?zisinstance ?zabs ?ztuple ?zstr ?zdict ?zsorted ?zall ?zany ?zsum ?zset ?zrepr ?zenumerate ?zzip ?zValueError
    (case eBadKind => (refine' Tb.errAt_mk (st := Tb.s_BadKind) (qual := "BadKind.__init__") eB S0 KX G ?aC ?xL ?sa ?ty ?kC ?iC ?tI ?l ?c ?ce ?co ?cv ?cf (.cons ?n0 .nil) ?ga ?gg ?hd ?ca Tb.eb_BadKind (by decide) (by decide) (fun _ _ _ _ _ _ _ us hl => match us, hl with | [_, _], _ => rfl); (case aC => k_is); (case xL => k_is); (case sa => k_is); (case ty => k_is); (case kC => k_is); (case iC => k_is); (case tI => k_is); (case l => k_is); (case c => k_is); (case ce => k_is); (case co => k_is); (case cv => rfl); (case cf => decide +kernel); (case n0 => k_is); (case ga => k_is); (case gg => k_is); (case hd => k_is); (case ca => k_is)))
    (case eBadLine => (refine' Tb.errAt_mk (st := Tb.s_BadLine) (qual := "BadLine.__init__") eB S0 KX G ?aC ?xL ?sa ?ty ?kC ?iC ?tI ?l ?c ?ce ?co ?cv ?cf (.cons ?n0 .nil) ?ga ?gg ?hd ?ca Tb.eb_BadLine (by decide) (by decide) (fun _ _ _ _ _ _ _ us hl => match us, hl with | [_, _], _ => rfl); (case aC => k_is); (case xL => k_is); (case sa => k_is); (case ty => k_is); (case kC => k_is); (case iC => k_is); (case tI => k_is); (case l => k_is); (case c => k_is); (case ce => k_is); (case co => k_is); (case cv => rfl); (case cf => decide +kernel); (case n0 => k_is); (case ga => k_is); (case gg => k_is); (case hd => k_is); (case ca => k_is)))
    (case eRefused => (refine' Tb.errAt_mk (st := Tb.s_Refused) (qual := "Refused.__init__") eB S0 KX G ?aC ?xL ?sa ?ty ?kC ?iC ?tI ?l ?c ?ce ?co ?cv ?cf (.cons ?n0 .nil) ?ga ?gg ?hd ?ca Tb.eb_Refused (by decide) (by decide) (fun _ _ _ _ _ _ _ us hl => match us, hl with | [_, _], _ => rfl); (case aC => k_is); (case xL => k_is); (case sa => k_is); (case ty => k_is); (case kC => k_is); (case iC => k_is); (case tI => k_is); (case l => k_is); (case c => k_is); (case ce => k_is); (case co => k_is); (case cv => rfl); (case cf => decide +kernel); (case n0 => k_is); (case ga => k_is); (case gg => k_is); (case hd => k_is); (case ca => k_is)))
    (case eTooMany => (refine' Tb.errAt_mk (st := Tb.s_TooMany) (qual := "TooMany.__init__") eB S0 KX G ?aC ?xL ?sa ?ty ?kC ?iC ?tI ?l ?c ?ce ?co ?cv ?cf (.cons ?n0 (.cons ?n1 (.cons ?n2 .nil))) ?ga ?gg ?hd ?ca Tb.eb_TooMany (by decide) (by decide) (fun _ _ _ _ _ _ _ us hl => match us, hl with | [_, _, _, _], _ => rfl); (case aC => k_is); (case xL => k_is); (case sa => k_is); (case ty => k_is); (case kC => k_is); (case iC => k_is); (case tI => k_is); (case l => k_is); (case c => k_is); (case ce => k_is); (case co => k_is); (case cv => rfl); (case cf => decide +kernel); (case n0 => k_is); (case n1 => k_is); (case n2 => k_is); (case ga => k_is); (case gg => k_is); (case hd => k_is); (case ca => k_is)))
    (case eBadPromise => (refine' Tb.errAt_mk (st := Tb.s_BadPromise) (qual := "BadPromise.__init__") eB S0 KX G ?aC ?xL ?sa ?ty ?kC ?iC ?tI ?l ?c ?ce ?co ?cv ?cf (.cons ?n0 .nil) ?ga ?gg ?hd ?ca Tb.eb_BadPromise (by decide) (by decide) (fun _ _ _ _ _ _ _ us hl => match us, hl with | [_, _], _ => rfl); (case aC => k_is); (case xL => k_is); (case sa => k_is); (case ty => k_is); (case kC => k_is); (case iC => k_is); (case tI => k_is); (case l => k_is); (case c => k_is); (case ce => k_is); (case co => k_is); (case cv => rfl); (case cf => decide +kernel); (case n0 => k_is); (case ga => k_is); (case gg => k_is); (case hd => k_is); (case ca => k_is)))
    (case eBadRule => (refine' Tb.errAt_mk (st := Tb.s_BadRule) (qual := "BadRule.__init__") eB S0 KX G ?aC ?xL ?sa ?ty ?kC ?iC ?tI ?l ?c ?ce ?co ?cv ?cf (.cons ?n0 .nil) ?ga ?gg ?hd ?ca Tb.eb_BadRule (by decide) (by decide) (fun _ _ _ _ _ _ _ us hl => match us, hl with | [_, _], _ => rfl); (case aC => k_is); (case xL => k_is); (case sa => k_is); (case ty => k_is); (case kC => k_is); (case iC => k_is); (case tI => k_is); (case l => k_is); (case c => k_is); (case ce => k_is); (case co => k_is); (case cv => rfl); (case cf => decide +kernel); (case n0 => k_is); (case ga => k_is); (case gg => k_is); (case hd => k_is); (case ca => k_is)))
    (case eBadSize => (refine' Tb.errAt_mk (st := Tb.s_BadSize) (qual := "BadSize.__init__") eB S0 KX G ?aC ?xL ?sa ?ty ?kC ?iC ?tI ?l ?c ?ce ?co ?cv ?cf (.cons ?n0 .nil) ?ga ?gg ?hd ?ca Tb.eb_BadSize (by decide) (by decide) (fun _ _ _ _ _ _ _ us hl => match us, hl with | [_, _], _ => rfl); (case aC => k_is); (case xL => k_is); (case sa => k_is); (case ty => k_is); (case kC => k_is); (case iC => k_is); (case tI => k_is); (case l => k_is); (case c => k_is); (case ce => k_is); (case co => k_is); (case cv => rfl); (case cf => decide +kernel); (case n0 => k_is); (case ga => k_is); (case gg => k_is); (case hd => k_is); (case ca => k_is)))
    (case eBadNumber => (refine' Tb.errAt_mk (st := Tb.s_BadNumber) (qual := "BadNumber.__init__") eB S0 KX G ?aC ?xL ?sa ?ty ?kC ?iC ?tI ?l ?c ?ce ?co ?cv ?cf (.cons ?n0 .nil) ?ga ?gg ?hd ?ca Tb.eb_BadNumber (by decide) (by decide) (fun _ _ _ _ _ _ _ us hl => match us, hl with | [_, _], _ => rfl); (case aC => k_is); (case xL => k_is); (case sa => k_is); (case ty => k_is); (case kC => k_is); (case iC => k_is); (case tI => k_is); (case l => k_is); (case c => k_is); (case ce => k_is); (case co => k_is); (case cv => rfl); (case cf => decide +kernel); (case n0 => k_is); (case ga => k_is); (case gg => k_is); (case hd => k_is); (case ca => k_is)))
    (case eBadCount => (refine' Tb.errAt_mk (st := Tb.s_BadCount) (qual := "BadCount.__init__") eB S0 KX G ?aC ?xL ?sa ?ty ?kC ?iC ?tI ?l ?c ?ce ?co ?cv ?cf (.cons ?n0 .nil) ?ga ?gg ?hd ?ca Tb.eb_BadCount (by decide) (by decide) (fun _ _ _ _ _ _ _ us hl => match us, hl with | [_, _], _ => rfl); (case aC => k_is); (case xL => k_is); (case sa => k_is); (case ty => k_is); (case kC => k_is); (case iC => k_is); (case tI => k_is); (case l => k_is); (case c => k_is); (case ce => k_is); (case co => k_is); (case cv => rfl); (case cf => decide +kernel); (case n0 => k_is); (case ga => k_is); (case gg => k_is); (case hd => k_is); (case ca => k_is)))
    (case eBadCase => (refine' Tb.errAt_mk (st := Tb.s_BadCase) (qual := "BadCase.__init__") eB S0 KX G ?aC ?xL ?sa ?ty ?kC ?iC ?tI ?l ?c ?ce ?co ?cv ?cf (.cons ?n0 .nil) ?ga ?gg ?hd ?ca Tb.eb_BadCase (by decide) (by decide) (fun _ _ _ _ _ _ _ us hl => match us, hl with | [_, _], _ => rfl); (case aC => k_is); (case xL => k_is); (case sa => k_is); (case ty => k_is); (case kC => k_is); (case iC => k_is); (case tI => k_is); (case l => k_is); (case c => k_is); (case ce => k_is); (case co => k_is); (case cv => rfl); (case cf => decide +kernel); (case n0 => k_is); (case ga => k_is); (case gg => k_is); (case hd => k_is); (case ca => k_is)))
    (case eBadOutcomes => (refine' Tb.errAt_mk (st := Tb.s_BadOutcomes) (qual := "BadOutcomes.__init__") eB S0 KX G ?aC ?xL ?sa ?ty ?kC ?iC ?tI ?l ?c ?ce ?co ?cv ?cf (.cons ?n0 .nil) ?ga ?gg ?hd ?ca Tb.eb_BadOutcomes (by decide) (by decide) (fun _ _ _ _ _ _ _ us hl => match us, hl with | [_, _], _ => rfl); (case aC => k_is); (case xL => k_is); (case sa => k_is); (case ty => k_is); (case kC => k_is); (case iC => k_is); (case tI => k_is); (case l => k_is); (case c => k_is); (case ce => k_is); (case co => k_is); (case cv => rfl); (case cf => decide +kernel); (case n0 => k_is); (case ga => k_is); (case gg => k_is); (case hd => k_is); (case ca => k_is)))
    (case eBadName => (refine' Tb.errAt_mk (st := Tb.s_BadName) (qual := "BadName.__init__") eB S0 KX G ?aC ?xL ?sa ?ty ?kC ?iC ?tI ?l ?c ?ce ?co ?cv ?cf (.cons ?n0 .nil) ?ga ?gg ?hd ?ca Tb.eb_BadName (by decide) (by decide) (fun _ _ _ _ _ _ _ us hl => match us, hl with | [_, _], _ => rfl); (case aC => k_is); (case xL => k_is); (case sa => k_is); (case ty => k_is); (case kC => k_is); (case iC => k_is); (case tI => k_is); (case l => k_is); (case c => k_is); (case ce => k_is); (case co => k_is); (case cv => rfl); (case cf => decide +kernel); (case n0 => k_is); (case ga => k_is); (case gg => k_is); (case hd => k_is); (case ca => k_is)))
    (case eBadLength => (refine' Tb.errAt_mk (st := Tb.s_BadLength) (qual := "BadLength.__init__") eB S0 KX G ?aC ?xL ?sa ?ty ?kC ?iC ?tI ?l ?c ?ce ?co ?cv ?cf (.cons ?n0 .nil) ?ga ?gg ?hd ?ca Tb.eb_BadLength (by decide) (by decide) (fun _ _ _ _ _ _ _ us hl => match us, hl with | [_, _], _ => rfl); (case aC => k_is); (case xL => k_is); (case sa => k_is); (case ty => k_is); (case kC => k_is); (case iC => k_is); (case tI => k_is); (case l => k_is); (case c => k_is); (case ce => k_is); (case co => k_is); (case cv => rfl); (case cf => decide +kernel); (case n0 => k_is); (case ga => k_is); (case gg => k_is); (case hd => k_is); (case ca => k_is)))
    (case eOtherKinds => (refine' Tb.errAt_mk (st := Tb.s_OtherKinds) (qual := "OtherKinds.__init__") eB S0 KX G ?aC ?xL ?sa ?ty ?kC ?iC ?tI ?l ?c ?ce ?co ?cv ?cf (.cons ?n0 .nil) ?ga ?gg ?hd ?ca Tb.eb_OtherKinds (by decide) (by decide) (fun _ _ _ _ _ _ _ us hl => match us, hl with | [_, _], _ => rfl); (case aC => k_is); (case xL => k_is); (case sa => k_is); (case ty => k_is); (case kC => k_is); (case iC => k_is); (case tI => k_is); (case l => k_is); (case c => k_is); (case ce => k_is); (case co => k_is); (case cv => rfl); (case cf => decide +kernel); (case n0 => k_is); (case ga => k_is); (case gg => k_is); (case hd => k_is); (case ca => k_is)))
    (case eOtherRules => (refine' Tb.errAt_mk (st := Tb.s_OtherRules) (qual := "OtherRules.__init__") eB S0 KX G ?aC ?xL ?sa ?ty ?kC ?iC ?tI ?l ?c ?ce ?co ?cv ?cf (.cons ?n0 .nil) ?ga ?gg ?hd ?ca Tb.eb_OtherRules (by decide) (by decide) (fun _ _ _ _ _ _ _ us hl => match us, hl with | [_, _], _ => rfl); (case aC => k_is); (case xL => k_is); (case sa => k_is); (case ty => k_is); (case kC => k_is); (case iC => k_is); (case tI => k_is); (case l => k_is); (case c => k_is); (case ce => k_is); (case co => k_is); (case cv => rfl); (case cf => decide +kernel); (case n0 => k_is); (case ga => k_is); (case gg => k_is); (case hd => k_is); (case ca => k_is)))
    (case eBroken => (refine' Tb.errAt_mk (st := Tb.s_Broken) (qual := "Broken.__init__") eB S0 KX G ?aC ?xL ?sa ?ty ?kC ?iC ?tI ?l ?c ?ce ?co ?cv ?cf (.cons ?n0 .nil) ?ga ?gg ?hd ?ca Tb.eb_Broken (by decide) (by decide) (fun _ _ _ _ _ _ _ us hl => match us, hl with | [_, _], _ => rfl); (case aC => k_is); (case xL => k_is); (case sa => k_is); (case ty => k_is); (case kC => k_is); (case iC => k_is); (case tI => k_is); (case l => k_is); (case c => k_is); (case ce => k_is); (case co => k_is); (case cv => rfl); (case cf => decide +kernel); (case n0 => k_is); (case ga => k_is); (case gg => k_is); (case hd => k_is); (case ca => k_is)))
    (case eBadGap => (refine' Tb.errAt_mk (st := Tb.s_BadGap) (qual := "BadGap.__init__") eB S0 KX G ?aC ?xL ?sa ?ty ?kC ?iC ?tI ?l ?c ?ce ?co ?cv ?cf (.cons ?n0 .nil) ?ga ?gg ?hd ?ca Tb.eb_BadGap (by decide) (by decide) (fun _ _ _ _ _ _ _ us hl => match us, hl with | [_, _], _ => rfl); (case aC => k_is); (case xL => k_is); (case sa => k_is); (case ty => k_is); (case kC => k_is); (case iC => k_is); (case tI => k_is); (case l => k_is); (case c => k_is); (case ce => k_is); (case co => k_is); (case cv => rfl); (case cf => decide +kernel); (case n0 => k_is); (case ga => k_is); (case gg => k_is); (case hd => k_is); (case ca => k_is)))
    (case eBadMap => (refine' Tb.errAt_mk (st := Tb.s_BadMap) (qual := "BadMap.__init__") eB S0 KX G ?aC ?xL ?sa ?ty ?kC ?iC ?tI ?l ?c ?ce ?co ?cv ?cf (.cons ?n0 .nil) ?ga ?gg ?hd ?ca Tb.eb_BadMap (by decide) (by decide) (fun _ _ _ _ _ _ _ us hl => match us, hl with | [_, _], _ => rfl); (case aC => k_is); (case xL => k_is); (case sa => k_is); (case ty => k_is); (case kC => k_is); (case iC => k_is); (case tI => k_is); (case l => k_is); (case c => k_is); (case ce => k_is); (case co => k_is); (case cv => rfl); (case cf => decide +kernel); (case n0 => k_is); (case ga => k_is); (case gg => k_is); (case hd => k_is); (case ca => k_is)))
    (case nd => decide +kernel)
    (case ah__law_bag => (refine' Tb.funAt_mk ?a ?l ?c ?k; (case a => k_is); (case l => k_is); (case c => k_is); (case k => k_is)))
    (case ah__law_draw => (refine' Tb.funAt_mk ?a ?l ?c ?k; (case a => k_is); (case l => k_is); (case c => k_is); (case k => k_is)))
    (case ah__law_raised_0 => (refine' Tb.funAt_mk ?a ?l ?c ?k; (case a => k_is); (case l => k_is); (case c => k_is); (case k => k_is)))
    (case ah__law_raised_1 => (refine' Tb.funAt_mk ?a ?l ?c ?k; (case a => k_is); (case l => k_is); (case c => k_is); (case k => k_is)))
    (case ah__law_raised_2 => (refine' Tb.funAt_mk ?a ?l ?c ?k; (case a => k_is); (case l => k_is); (case c => k_is); (case k => k_is)))
    (case ah__law_raised => (refine' Tb.funAt_mk ?a ?l ?c ?k; (case a => k_is); (case l => k_is); (case c => k_is); (case k => k_is)))
    (case ah__law_fields_0 => (refine' Tb.funAt_mk ?a ?l ?c ?k; (case a => k_is); (case l => k_is); (case c => k_is); (case k => k_is)))
    (case ah__law_fields_1 => (refine' Tb.funAt_mk ?a ?l ?c ?k; (case a => k_is); (case l => k_is); (case c => k_is); (case k => k_is)))
    (case ah__law_fields_2 => (refine' Tb.funAt_mk ?a ?l ?c ?k; (case a => k_is); (case l => k_is); (case c => k_is); (case k => k_is)))
    (case ah__law_fields => (refine' Tb.funAt_mk ?a ?l ?c ?k; (case a => k_is); (case l => k_is); (case c => k_is); (case k => k_is)))
    (case ah__law_kinds_of => (refine' Tb.funAt_mk ?a ?l ?c ?k; (case a => k_is); (case l => k_is); (case c => k_is); (case k => k_is)))
    (case ah__law_caught => (refine' Tb.funAt_mk ?a ?l ?c ?k; (case a => k_is); (case l => k_is); (case c => k_is); (case k => k_is)))
    (case ah__law_thing => (refine' Tb.funAt_mk ?a ?l ?c ?k; (case a => k_is); (case l => k_is); (case c => k_is); (case k => k_is)))
    (case ah_law => (refine' Tb.funAt_mk ?a ?l ?c ?k; (case a => k_is); (case l => k_is); (case c => k_is); (case k => k_is)))
    (case zrange => k_is); (case zlen => k_is); (case zint => k_is); (case zbool => k_is); (case zmin => k_is); (case zmax => k_is); (case zlist => k_is); (case zisinstance => k_is); (case zabs => k_is); (case ztuple => k_is); (case zstr => k_is); (case zdict => k_is); (case zsorted => k_is); (case zall => k_is); (case zany => k_is); (case zsum => k_is); (case zset => k_is); (case zrepr => k_is); (case zenumerate => k_is); (case zzip => k_is); (case zValueError => k_is)
#print axioms PySem.Challenge.cw_tagblocks_k00_errors_made_from_their_fie_holds

