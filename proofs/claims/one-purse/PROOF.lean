import PyProof.Rows.All
import Wide.All
import OpenK.AllK
import Wide.FinOn
import Wide.Once
import KE.KStateDown
import PyProof.EqAt
import PyProof.EqKinds
import PyProof.TupleCall
import HandS.ForMost
import HandS.ForExc
import HandS.More
import HandS.ExcInit
import HandS.ExcIs
import HandS.ExcField
import HandS.ExcValue
import HandS.IsInst
import HandS.Conv
import HandS.Codes
import HandS.Wide
import HandS.Defaults
import HandS.Walk
import HandS.Zip
import HandS.Flow
import HandS.NoneIn
import HandS.ClsMeth
import HandS.EndBits
import HandS.Head0
import HandS.Head1
import HandS.Head2
import HandS.HeadEnd
import HandS.HeadHook1
import HandS.HeadHook2
import HandS.HeadHook3
import HandS.HeadHook4
import KE.GoesMore
import KE.GoesZip
import KE.GoesEnum
import HandS.DictSub
import PySem.Challenge.RW_evenpick_k60_whole_one_purse
set_option Elab.async false
set_option linter.all false
set_option maxRecDepth 100000
set_option maxHeartbeats 4000000
/-! Own rules: calls of defs that may raise, by one bundle; methods of two classes; a base class's __init__. -/
namespace Ev
open PySem PySem.Spec PyProof.Rows L2

/-- a def (at f) that keeps sp, by at most level k -/
structure Cal (P : Program) (w : World) (K : PySem.W.Frag) (mg : Str → Option Value) (base : Heap) (k : Nat) (f : Addr) (sp : Sp) : Prop where
  ex : ∃ (fd : FuncData) (ps : List Str), FnOk P w K mg base (L2.CX P w) k f fd ps sp ∧ Binds K fd ps []
  kp : PySem.W.keepIn K (.ref f) = true
abbrev CalX (X : Cx) (k : Nat) (f : Addr) (sp : Sp) : Prop := Cal X.prog X.w X.K X.mg X.base k f sp
theorem Cal.mono {P : Program} {w : World} {K : PySem.W.Frag} {mg : Str → Option Value} {base : Heap} {j k : Nat} {f : Addr} {sp : Sp} (c : Cal P w K mg base j f sp) (h : j ≤ k) : Cal P w K mg base k f sp := by
  obtain ⟨fd, ps, F, b⟩ := c.ex
  exact ⟨⟨fd, ps, F.mono h, b⟩, c.kp⟩
section
variable {X : Cx} {W : WX} {j k : Nat} {f C : Addr} {sp : Sp} {x m : Str} {p pos apos : Pos} {e o : Expr} {es : List Expr} {ta te : TE} {t : TA}
/-- f(e, ..) -/
theorem pc_f (c : CalX X k f sp) (hr : Room j X.A) (hk : k ≤ j) (hm : X.mg x = some (.ref f)) (tk : Takes X W) (ha : PA X (e :: es) t) (hg : Gl X x := by rfl) (hdb : (x == ("__debug__" : Str)) = false := by decide)
    (he : starEach (e :: es) X.env = (false, eval e X.env) :: starEach es X.env := by rfl) (hpl : (backTo pos (starEach es X.env)).any (·.1) = false := by rfl) :
    PE X (.Call (.Name x p) (e :: es) [] pos) (tCallS sp (WE W) t) := by
  refine ⟨fun pins s σ H Q I h => ?_⟩
  obtain ⟨fd, ps, F, b⟩ := c.ex
  exact (pe_callS (F.mono hk) hr hg hm c.kp b (fun σ => passAt tk σ) ha hdb he hpl).run pins s σ H Q I h
/-- o.m(e, ..), o an instance of a class of S -/
def tMethS (S : Addr → Prop) (m : Str) (sp : Sp) (E : L2.St → XK) (ta : TE) (t : TA) : TE := fun σ H Q => ta σ H fun x H1 => ∃ a C dx fs, x = .ref a ∧ H1 a = some (.ins C dx fs) ∧ S C ∧ fs.lookup m = none ∧ t σ H1 fun vs H2 => sp (x :: vs) H2 Q (E σ)
/-- S: the classes, each with its plain looks and the method m at f -/
structure Has (K : PySem.W.Frag) (S : Addr → Prop) (m : Str) (f : Addr) : Prop where
  cls : ∀ C, S C → Cls K C ∧ Meth K C m f
theorem pc_m {S : Addr → Prop} {pl : Sem Bool} (c : CalX X k f sp) (hr : Room j X.A) (hk : k ≤ j) (hS : Has X.K S m f) (tk : Takes X W) (he : PE X o ta) (ha : PA X (e :: es) t)
    (hst : starEach (e :: es) X.env = (false, eval e X.env) :: starEach es X.env := by rfl) (hpl : (backTo pos (starEach es X.env)).any (·.1) = false := by rfl)
    (ht : eval (.Call (.Attribute o m apos) (e :: es) [] pos) X.env = (do
      let ov ← eval o X.env
      standAt apos.atName
      let (f, first) ← holding [ov] (getMethod ov m pl)
      callWith pos f first (backTo pos (starEach (e :: es) X.env)) (backToKw pos (keywordEach [] X.env))) := by rfl) :
    PE X (.Call (.Attribute o m apos) (e :: es) [] pos) (tMethS S m sp (WE W) ta t) := by
  refine ⟨fun pins s σ H Q I h => ?_⟩
  obtain ⟨fd, ps, F, b⟩ := c.ex
  refine PySem.W.methodCall_KW (pl := pl) (thn (he.run pins s σ H _ I h) fun u s1 ⟨x, H1, I1, rx, a, C, dx, fs, ex, ea, hs, l, q⟩ => ?_) ht
  subst ex
  obtain rfl : u = Value.ref a := rx
  obtain ⟨cC, hm⟩ := hS.cls C hs
  refine getmeth_ok I1 ea cC hm l ?_
  refine PySem.W.callWith_K (first := [.ref a]) (h₀ := X.base) I.ok.mod.kin hm.kp (thn (ha.run pos pins s1 σ H1 _ I1 q) fun us s2 ⟨vs, H2, I2, r, q2⟩ => ⟨I2.kIn, ?_⟩) hst hpl
  exact run_fnS (us := .ref a :: us) (vs := .ref a :: vs) (F.mono hk) hr b (passAt tk σ) I2 (.cons rfl r) q2
theorem pc_m0 {S : Addr → Prop} {pl : Sem Bool} (c : CalX X k f sp) (hr : Room j X.A) (hk : k ≤ j) (hS : Has X.K S m f) (tk : Takes X W) (he : PE X o ta)
    (ht : eval (.Call (.Attribute o m apos) [] [] pos) X.env = (do
      let ov ← eval o X.env
      standAt apos.atName
      let (f, first) ← holding [ov] (getMethod ov m pl)
      callWith pos f first (backTo pos (starEach [] X.env)) (backToKw pos (keywordEach [] X.env))) := by rfl) :
    PE X (.Call (.Attribute o m apos) [] [] pos) (tMethS S m sp (WE W) ta tNil) := by
  refine ⟨fun pins s σ H Q I h => ?_⟩
  obtain ⟨fd, ps, F, b⟩ := c.ex
  refine PySem.W.methodCall_KW (pl := pl) (thn (he.run pins s σ H _ I h) fun u s1 ⟨x, H1, I1, rx, a, C, dx, fs, ex, ea, hs, l, q⟩ => ?_) ht
  subst ex
  obtain rfl : u = Value.ref a := rx
  obtain ⟨cC, hm⟩ := hS.cls C hs
  refine getmeth_ok I1 ea cC hm l ?_
  exact PySem.W.callWith_K0 (first := [.ref a]) I1.kIn hm.kp (run_fnS (us := [.ref a]) (vs := [.ref a]) (F.mono hk) hr b (passAt tk σ) I1 (.cons rfl .nil) q)
/-- an __init__ (with defaults dvs) -/
structure CalD (P : Program) (w : World) (K : PySem.W.Frag) (mg : Str → Option Value) (base : Heap) (k : Nat) (f : Addr) (dvs : List V) (sp : Sp) : Prop where
  ex : ∃ (fd : FuncData) (ps : List Str) (ds : List Value), FnOk P w K mg base (L2.CX P w) k f fd ps sp ∧ Binds K fd ps ds ∧ Vals dvs ds
theorem Cal.d {P : Program} {w : World} {K : PySem.W.Frag} {mg : Str → Option Value} {base : Heap} {k : Nat} {f : Addr} {sp : Sp} (c : Cal P w K mg base k f sp) : CalD P w K mg base k f [] sp := by
  obtain ⟨fd, ps, F, b⟩ := c.ex
  exact ⟨fd, ps, [], F, b, .nil⟩
abbrev CalDX (X : Cx) (k : Nat) (f : Addr) (dvs : List V) (sp : Sp) : Prop := CalD X.prog X.w X.K X.mg X.base k f dvs sp
/-- what a class must have, so that C.m is read off it as v -/
structure OffC (K : PySem.W.Frag) (C : Addr) (m : Str) (u : Value) : Prop where
  rd : ClX.CRead K C (.type "type")
  at_ : PySem.W.findCls K (.ref C) (.type "type") m = some (.val u)
/-- C.m(e, ..), C a class of the text by its name, m a def -/
theorem pc_off {pl : Sem Bool} (c : CalX X k f sp) (hr : Room j X.A) (hk : k ≤ j) (hm : X.mg x = some (.ref C)) (oc : OffC X.K C m (.ref f)) (tk : Takes X W) (ha : PA X (e :: es) t) (hg : Gl X x := by rfl) (hdb : (x == ("__debug__" : Str)) = false := by decide)
    (h1 : starEach (e :: es) X.env = (false, eval e X.env) :: starEach es X.env := by rfl) (h2 : (backTo pos (starEach es X.env)).any (·.1) = false := by rfl)
    (h3 : eval (.Call (.Attribute (.Name x p) m apos) (e :: es) [] pos) X.env = (do
      let rv ← eval (.Name x p) X.env
      standAt apos.atName
      let (g, first) ← holding [rv] (getMethod rv m pl)
      callWith pos g first (backTo pos (starEach (e :: es) X.env)) (backToKw pos (keywordEach [] X.env))) := by rfl) :
    PE X (.Call (.Attribute (.Name x p) m apos) (e :: es) [] pos) (tCallS sp (WE W) t) := by
  refine ⟨fun pins s σ H Q I h => ?_⟩
  obtain ⟨fd, ps, F, b⟩ := c.ex
  refine PySem.W.methodCall_KW (pl := pl) (ld_glob I hg hm ?_ hdb) h3
  refine PySem.W.method_cls I.kIn oc.rd.ga (PySem.W.cls_value I.kIn oc.rd.rd oc.at_ (handed_of (v := V.ref f) rfl) ?_)
  refine PySem.W.callWith_K (first := []) (h₀ := X.base) I.ok.mod.kin c.kp (thn (ha.run pos pins _ σ H _ (I.tok _) h) fun us s2 ⟨vs, H2, I2, r, q2⟩ => ⟨I2.kIn, ?_⟩) h1 h2
  exact run_fnS (us := us) (vs := vs) (F.mono hk) hr b (passAt tk σ) I2 r q2
/-- C.__init__(self, ..) where C takes ValueError's -/
theorem pc_offve {pl : Sem Bool} (hm : X.mg x = some (.ref C)) (oc : OffC X.K C "__init__" (.builtin "ValueError.__init__")) (ha : PA X (e :: es) t) (hg : Gl X x := by rfl) (hdb : (x == ("__debug__" : Str)) = false := by decide)
    (h1 : starEach (e :: es) X.env = (false, eval e X.env) :: starEach es X.env := by rfl) (h2 : (backTo pos (starEach es X.env)).any (·.1) = false := by rfl)
    (h3 : eval (.Call (.Attribute (.Name x p) "__init__" apos) (e :: es) [] pos) X.env = (do
      let rv ← eval (.Name x p) X.env
      standAt apos.atName
      let (g, first) ← holding [rv] (getMethod rv "__init__" pl)
      callWith pos g first (backTo pos (starEach (e :: es) X.env)) (backToKw pos (keywordEach [] X.env))) := by rfl) :
    PE X (.Call (.Attribute (.Name x p) "__init__" apos) (e :: es) [] pos) (tVeI X.K t) := by
  refine ⟨fun pins s σ H Q I h => ?_⟩
  refine PySem.W.methodCall_KW (pl := pl) (ld_glob I hg hm ?_ hdb) h3
  refine PySem.W.method_cls I.kIn oc.rd.ga (PySem.W.cls_value I.kIn oc.rd.rd oc.at_ (by decide +kernel) ?_)
  show wpAny _ _ (callWith pos (Value.builtin "ValueError.__init__") [] (backTo pos (starEach (e :: es) X.env)) []) _ _ _
  refine PyProof.Rows.callWith_method1 (thn (ha.run pos pins _ σ H _ (I.tok _) h) fun us s1 ⟨vs, H1, I1, r1, a, D, ws, ev, hl, T, ea, q⟩ => ?_) h1 h2
  subst ev
  cases r1 with
  | @cons _ u0 _ ur ra rw' =>
    obtain rfl : u0 = Value.ref a := ra
    have hlen : ur.length ≤ sizeLine := by
      rw [← Paired.length rw', sizeLine_eq]
      omega
    exact oinit_ok T I1 ea hlen fun s' J => ⟨.non, H1, J, rfl, q⟩
end
/-- the wish of a def that may raise -/
theorem tkE {P : Program} {w : World} {K : PySem.W.Frag} {mg : Str → Option Value} {base : Heap} {N : List Str} {q : Str} {sc : Scope} {f : Addr} {cd : Value} {A : Around} {outer : List Env} {s : Shared} {H : Hp} {E : XK} :
    Takes (cxOf (L2.CX P w) P w K mg base N q sc f cd A outer s H E) (fun cls d _ H' => E cls d H') := takes_of rfl rfl rfl rfl
theorem powE {P : Program} {w : World} {K : PySem.W.Frag} {mg : Str → Option Value} {base : Heap} {N : List Str} {q : Str} {sc : Scope} {f : Addr} {cd : Value} {A : Around} {outer : List Env} {s : Shared} {H : Hp} {E : XK} :
    PassesOwn (model P w) (cxOf (L2.CX P w) P w K mg base N q sc f cd A outer s H E).A (cxOf (L2.CX P w) P w K mg base N q sc f cd A outer s H E).env (cxOf (L2.CX P w) P w K mg base N q sc f cd A outer s H E).xe := passes_of rfl
theorem pcE {P : Program} {w : World} {K : PySem.W.Frag} {mg : Str → Option Value} {base : Heap} {N : List Str} {q : Str} {sc : Scope} {f : Addr} {cd : Value} {A : Around} {outer : List Env} {s : Shared} {H : Hp} {E : XK} :
    Passes (L2.CX P w) (cxOf (L2.CX P w) P w K mg base N q sc f cd A outer s H E) E := passes_call tkE fun _ _ _ _ h => h
end Ev

set_option Elab.async false
set_option linter.all false
set_option maxRecDepth 100000
set_option maxHeartbeats 4000000
/-! Own rules, further: a dict's item as a target; list(range(a, b, -1)); an own error made, held, asked. -/
namespace Ev
open PySem PySem.Spec PyProof.Rows L2

section
variable {X : Cx} {W : WX} {j k : Nat} {f C : Addr} {sp : Sp} {x m : Str} {p pos apos : Pos} {e o : Expr} {es : List Expr} {ta te : TE} {t : TA}
/-- d[k] = v, as a target -/
def rSetD : TSet := fun o i v H Q => ∃ a H', o = .ref a ∧ DPut H a i v H' ∧ Q H'
theorem set_dict (hu : X.A.units + 1 < cLine) : PSet X rSetD := by
  intro pins s σ H o i v ov iv u Q I ro ri rv h
  obtain ⟨a, H', rfl, g, q⟩ := h
  cases ro
  exact d_setItem hu I g ri rv fun s4 I4 => ⟨H', I4, q⟩
/-- i, i - 1, .. down to above j -/
def dnV (i j : Int) : List V := (List.range (i - j).toNat).map fun k => V.int (i - (k : Nat))
theorem dnV_length (i j : Int) : (dnV i j).length = (i - j).toNat := by
  unfold dnV
  rw [List.length_map, List.length_range]
def tLrg (t : TA) : TE := fun σ H Q => t σ H fun vs H1 => ∃ i j : Int, vs = [.int i, .int j, .int (-1)] ∧ (0 ≤ i ∧ i ≤ 16777216 ∧ 0 ≤ j ∧ j < 2 ^ 62) ∧ ∀ q, H1 q = none → Q (.ref q) (upd H1 q (.lst (dnV i j)))
theorem pe_lrg {a b c : Expr} {p1 pos1 p2 pos2 : Pos} (hc : X.calm = true) (hg : Gl X "list") (hm : X.mg "list" = none) (hg2 : Gl X "range") (hm2 : X.mg "range" = none) (ha : PA X [a, b, c] t)
    (h1 : starEach [a, b, c] X.env = (false, eval a X.env) :: starEach [b, c] X.env := by rfl) (h2 : (backTo pos2 (starEach [b, c] X.env)).any (·.1) = false := by rfl)
    (h3 : starEach [.Call (.Name "range" p2) [a, b, c] [] pos2] X.env = (false, eval (.Call (.Name "range" p2) [a, b, c] [] pos2) X.env) :: starEach [] X.env := by rfl) :
    PE X (.Call (.Name "list" p1) [.Call (.Name "range" p2) [a, b, c] [] pos2] [] pos1) (tLrg t) := by
  refine ⟨fun pins s σ H Q I h => ?_⟩
  refine Call_ (ld_blt I hg hm boot_list (PyProof.Rows.callWith_type1 (args_cons ?_ h3) h3))
  refine Call_ (ld_blt (I.tok _) hg2 hm2 boot_range (PyProof.Rows.callWith_type1 (thn (ha.run pos2 pins _ σ H _ (I.tok _) h) fun us s1 ⟨vs, H1, I1, r1, q1⟩ => ?_) h1 h2))
  obtain ⟨i, j, ev, ⟨b1, b2, b3, b4⟩, q⟩ := q1
  subst ev
  cases r1 with
  | cons r rr => cases rr with
    | cons r' rr => cases rr with
      | cons r'' rr =>
        cases rr
        obtain ⟨t1, rfl⟩ := r
        obtain ⟨t2, rfl⟩ := r'
        obtain ⟨t3, rfl⟩ := r''
        refine call_range_3 (by decide) ?_ (.inl (PyProof.noPylong_small (by decide)))
        have I2 : Inv X pins σ H1 { s1 with heap := s1.heap.push { cls := .type "range", data := .fields #[.int i t1, .int j t2, .int (-1) t3] } } := I1.kept (t' := s1.toks) fun b o e => Heap.get?_push_of_some _ e
        refine args_nil ?_
        refine call_list_range (n := (i - j).toNat) (I2.ok.hd hc) (IsRange.new ..) (PySem.W.small_down (by omega) (by omega) (by omega) (by omega)) (PySem.W.rangeSize_downNat i j) (by omega) fun h' tk acc c' hk e' hi => ?_
        refine ⟨.ref _, _, I2.laid (o := .lst (dnV i j)) hk (Nat.le_refl _) (show ObjOk X.prog X.w _ _ _ (.lst (dnV i j)) from ⟨?_, acc.toList, c', ?_, ?_⟩), rfl, q _ (I2.hok.fresh (Nat.le_refl _))⟩
        · rw [dnV_length, sizeLine_eq]
          omega
        · have el : acc.toList.length = (i - j).toNat := by
            rw [Array.length_toList]
            exact hi.1
          unfold dnV
          rw [← el]
          refine vals_of_get acc.toList _ fun n u hn => ?_
          obtain ⟨t, rfl⟩ := hi.2 n u (by rw [← hn, Array.getElem?_toList])
          exact ⟨t, by rw [Int.mul_neg, Int.mul_one, Int.sub_eq_add_neg]⟩
        · rw [Array.toArray_toList]
          exact e'
/-! ### an own error whose __init__ stores one field -/
/-- the promise of such an __init__ -/
def spX1 (C : Addr) (n : Str) : Sp := fun vs H Q _ => ∃ (a : Addr) (v : V), vs = [.ref a, v] ∧ H a = some (exo a C none) ∧
  ∀ d H2, H d = none → d ≠ a → H2 a = some (exo a C (some d)) → H2 d = some (exd d [(n, v)]) → (∀ b o, H b = some o → b ≠ a → H2 b = some o) → Q .non H2
theorem pmk_1 {fI : Addr} {n : Str} (T : OexC X.K C) (iC : PySem.W.findIn X.K (.ref C) "__init__" = some (some (.ref fI))) (tI : PySem.W.typeIn X.K (.ref fI) = some (.type "function"))
    (c : CalX X k fI (spX1 C n)) (hr : Room j X.A) (hk : k + 1 ≤ j) (hm : X.mg x = some (.ref C)) (ha : PA X (e :: es) t) (hg : Gl X x := by rfl) (hdb : (x == ("__debug__" : Str)) = false := by decide)
    (h1 : starEach (e :: es) X.env = (false, eval e X.env) :: starEach es X.env := by rfl) (h2 : (backTo pos (starEach es X.env)).any (·.1) = false := by rfl) : PMk X (.Call (.Name x p) (e :: es) [] pos) (tMkO C (spX1 C n) [] t) := by
  obtain ⟨fd, ps, F, b⟩ := c.ex
  exact pmk_oex (p := p) (dvs := []) (ds := []) T iC tI F (hr.mono hk) b .nil passL hg hm ha hdb h1 h2
/-- its reading at a value: a new dict d that holds the field n -/
theorem rd_mk1 {n : Str} {v : V} {H1 : Hp} {Q : XK} (hv : ∀ d H2, H1 d = none → (∀ b o, H1 b = some o → H2 b = some o) → H2 d = some (.xd [(n, v)]) → Q (.ref C) (some d) H2) :
    [v].length ≤ 1000 ∧ ∀ a, H1 a = none → spX1 C n (.ref a :: ([v] ++ [])) (upd H1 a (exo a C none)) (fun v H2 => v = .non ∧ ∃ (d : Addr) (fs : List (Str × V)), H2 a = some (exo a C (some d)) ∧ H2 d = some (exd d fs) ∧ H1 d = none ∧ Q (.ref C) (some d) (upd (del H2 a) d (.xd fs))) (fun _ _ _ => False) := by
  refine ⟨by show 1 ≤ 1000; decide, fun a na => ⟨a, v, rfl, upd_same, fun d H2 nd nda ea ed kp => ⟨rfl, d, [(n, v)], ea, ed, ?_, ?_⟩⟩⟩
  · rw [upd_ne nda] at nd
    exact nd
  · rw [upd_ne nda] at nd
    refine hv d _ nd (fun c o ec => ?_) upd_same
    have ca : c ≠ a := ne_of_none ec na
    rw [upd_ne (ne_of_none ec nd), del_ne ca]
    exact kp c o (by rw [upd_ne ca]; exact ec) ca
end

/-! ### an exception's object, told -/
/-- the exception of the class cls at a, its own dict at d (if any) -/
def XO (cls : Value) (d : Option Addr) (a : Addr) : HO := .ext fun h => ∃ (oe : Obj) (vs : Array Value), h.get? a = some oe ∧ Zc cls d oe ∧ oe.data = .fields vs
theorem xo_ok {P : Program} {w : World} {H : Hp} {h : Heap} {a : Addr} {cls : Value} {d : Option Addr} {oe : Obj} (e : h.get? a = some oe) (z : Zc cls d oe) (f : ∃ vs, oe.data = .fields vs) : ObjOk P w H h a (XO cls d a) := by
  obtain ⟨vs, f⟩ := f
  exact ⟨⟨oe, vs, e, z, f⟩, ⟨oe, e⟩, fun _ _ ⟨o, v, q, r⟩ k => ⟨o, v, k o q, r⟩⟩
end Ev
namespace PySem.W
open PySem PySem.Spec PySem.Calls PyProof.Rows
section
variable {prog : Program} {w : World} {K : Frag} {x D : Addr}
/-- isinstance asks such an object by its class, whether it has an own dict or not -/
theorem ev_kitx (c : L2.ExcC K D) : KitX K (.ref x) (.ref D) (fun h => ∃ (ox : Obj) (od : Option Obj), InstAt h x ox D od) := by
  obtain ⟨cd, hcd, _⟩ := any_some c.hd
  have isc : ∃ dd sl c0, K.lookup D = some ⟨c0, dd, .cls cd, sl⟩ := by
    unfold clsIn at hcd
    split at hcd
    · rename_i c0 dd cd1 sl ho
      cases hcd
      exact ⟨dd, sl, c0, ho⟩
    · cases hcd
  obtain ⟨dd, sl, c0, ho⟩ := isc
  refine ⟨fun M h X ⟨ox, od, I⟩ => I.type, fun M h X _ => ?_, fun h tp d2 its n s2 X htp => ?_, ?_⟩
  · intro A' Q' E' s' kp q
    unfold isType loadHead
    exact wpAny_bind (wpAny_loadPart (kp _ _ (X _ _ ho)) (wpAny_pure q))
  · by_cases e : D = tp
    · subst e
      have z := (X _ _ ho).symm.trans htp
      cases z
    · simpa using e
  · intro prog w A E Q s X I q
    obtain ⟨ox, od, I⟩ := I
    have hf : findObj K D od "__class__" = some (.bind (.builtin "getset_descriptor.__get__") (.builtin "object.__class__")) := by
      unfold findObj
      rw [hcd, Option.bind_some, c.ha, Option.bind_some]
      simp [c.hn, c.ht]
    obtain ⟨hp, g, d, t, os⟩ := s
    have a0 := I.type (M := model prog w)
    have a1 := looks_findIn (M := model prog w) X c.hg
    have a2 := looks_findIn (M := model prog w) X c.hk
    have a3 := looks_find (M := model prog w) X I hf
    have sb : Looks (model prog w) hp (isInstance (.ref x) (.type "BaseException")) true := a0.andThen (looks_subIn X c.hs)
    have n1 : (Value.builtin "BaseException.__getattribute__" == Value.builtin "object.__getattribute__") = false := by decide +kernel
    have n2 : (onTheHeap (Value.ref D) && Value.builtin "BaseException.__getattribute__" == Value.builtin "object.__getattribute__") = false := by rw [n1]; rfl
    have n3 : (false && onTheHeap (Value.builtin "BaseException.__getattribute__")) = false := rfl
    unfold getAttr? getAttrBy? getAttrBy
    refine wpAny_bind (wpAny_mkText (wpAny_bind (wpAny_attempt (wpAny_holding (wpAny_bind (a0.at (wpAny_bind (a1.at ?_))))))))
    dsimp only
    rw [n2, if_neg Bool.false_ne_true]
    unfold getAttrByItsOwn hookBefore
    refine wpAny_bind ?_
    rw [if_pos (by rfl : onTheHeap (Value.ref D) = true)]
    refine a2.at (wpAny_bind (wpAny_attempt (wpAny_holding ?_)))
    unfold callGetattribute
    rw [n3, if_neg Bool.false_ne_true]
    unfold boundAndCalled
    rw [PySem.F.excAttr_ValueError.ga.bind (.ref x)]
    refine wpAny_bind (wpAny_pure ?_)
    dsimp only
    refine wpAny_call (codeAny_call_builtin PySem.F.excAttr_ValueError.ga.plain PySem.F.entry_bexc_ga ?_)
    refine @check_slot (model prog w) _ _ ⟨hp, g, d, t + 1, os⟩ "BaseException.__getattribute__" "BaseException" "__getattribute__" (.ref x) [.str "__class__" t] [] _ (by decide +kernel) (by decide +kernel) sb (PySem.F.args_bexc_ga (.ref x) (.str "__class__" t)) ?_
    unfold Builtin.«object.__getattribute__»
    refine wpAny_bind (wpAny_of_eq (a := ((Value.ref x : Value), [Value.str "__class__" t])) (by first | rfl | (simp only [slotArgs]; rfl)) ?_)
    refine wpAny_bind (wpAny_pure (wpAny_bind (a0.at (wpAny_bind (a3.at ?_)))))
    dsimp only
    refine wpAny_bind (wpAny_holding (wpAny_call (class_get (s := ⟨hp, g, d, t + 1, os⟩) (ox := ox) (od := od) X I c.hm ?_)))
    refine wpAny_pure ?_
    dsimp only
    rw [handedOut_of (v := .ref D) rfl]
    first
      | exact wpAny_pure (wpAny_pure q)
      | exact wpAny_pure q
      | exact wpAny_pure (wpAny_bind (wpAny_pure (wpAny_pure q)))
end
end PySem.W

set_option Elab.async false
set_option linter.all false
set_option maxRecDepth 100000
set_option maxHeartbeats 4000000
/-! Own rules, third: an exception caught and kept behind its clause. -/
namespace Ev
open PySem PySem.Spec PyProof.Rows L2

section
variable {X : Cx} {pins : List (Addr × Obj)} {σ : L2.St} {H : Hp} {s : Shared}
/-- a pinned exception is told of from here on -/
theorem track {a : Addr} {oe : Obj} {cls : Value} {d : Option Addr} (I : Inv X ((a, oe) :: pins) σ H s) (hz : Zc cls d oe) (hf : ∃ vs, oe.data = .fields vs) (n0 : X.s_0.heap.get? a = none) (np : ∀ p ∈ X.pn ++ pins, p.1 ≠ a) :
    Inv X pins σ (upd H a (XO cls d a)) s := by
  obtain ⟨ga, na, nL, nF, nc⟩ := I.pin (a, oe) (List.mem_append_right _ List.mem_cons_self)
  have U : Un X.fs X.ex X.H_0 (upd H a (XO cls d a)) X.s_0.heap s.heap := {
    keep := I.base.keep
    slot := I.base.slot
    free := fun b o q n hx => by
      rw [upd_ne fun z => by rw [z, n0] at q; cases q]
      exact I.base.free b o q n hx
    there := I.base.there
    tups := fun b xs q => by
      have z := I.base.tups b xs q
      rw [upd_ne (ne_of_none z na)]
      exact z
    frzs := fun b o u q => by
      have z := I.base.frzs b o u q
      rw [upd_ne (ne_of_none z na)]
      exact z
    tbls := fun b ps q => by
      obtain ⟨m, z⟩ := I.base.tbls b ps q
      exact ⟨m, by rw [upd_ne (ne_of_none z na)]; exact z⟩ }
  refine ⟨I.ok, I.os, I.bare, U, I.loc, I.cell, ?_, fun y c e => ?_, fun p hp => ?_, fun b o e => ?_, I.len⟩
  · rw [upd_ne (Ne.symm nL)]
    exact I.free
  · obtain ⟨v, o, ho, hd⟩ := I.cell y c e
    have ne : c ≠ a := fun z => by
      rw [z, ga] at ho
      cases ho
      exact nc v hd
    rw [upd_ne ne]
    exact I.freeC y c e
  · have hp' : p ∈ X.pn ++ (a, oe) :: pins := by
      rcases List.mem_append.mp hp with z | z
      · exact List.mem_append_left _ z
      · exact List.mem_append_right _ (List.mem_cons_of_mem _ z)
    obtain ⟨q1, q2, q3⟩ := I.pin p hp'
    exact ⟨q1, by rw [upd_ne (np p hp)]; exact q2, q3⟩
  · by_cases hb : b = a
    · subst hb
      rw [upd_same] at e
      cases e
      exact xo_ok ga hz hf
    · rw [upd_ne hb] at e
      exact (I.hok b o e).stay (fun _ _ _ q => q) (fun c q => by rw [upd_ne (ne_of_none q na)]; exact q) fun c xs q => by rw [upd_ne (ne_of_none q na)]; exact q
end

/-- what the clause 'except c as n: m = n' wishes of an exception of the body: n's slot i, m's slot l -/
def wKeep (K : PySem.W.Frag) (c : Value) (i l : Nat) (Wout : WX) (D : Ends) : WX := fun cls d σ H =>
  ∃ b, PySem.W.exmOne K cls c = some b ∧ (b = true → ∀ a, H a = none → D.nx (((σ.set i (some (.ref a))).set l (some (.ref a))).set i none) (upd H a (XO cls d a))) ∧ (b = false → Wout cls d σ H)
section
variable {X : Cx} {x n m : Str} {c : Value} {i l : Nat} {body : List Stmt} {np pos pos' p1 p2 p3 : Pos} {tb : WX → TS} {Wout : WX}
theorem ps_try_keep (hs : X.stack = X.env :: X.outer) (hf : X.env.frame = some X.env.locals) (hex : X.ex = []) (hN : X.N.Nodup) (hi : X.N[i]? = some n) (hl : X.N[l]? = some m) (hin : X.env.kindOf n = some .local) (hlm : X.env.kindOf m = some .local) (hc : Names X x c) (tk : Takes X Wout)
    (hb : ∀ (W : WX) (pn : List (Addr × Obj)) (xe : Value → Shared → Prop), Takes (X.tr pn xe) W → PassesOwn (model X.prog X.w) X.A X.env xe → PSs (X.tr pn xe) body (tb W))
    (hd1 : (n == ("__debug__" : Str)) = false := by decide) (hd2 : (n == ("__classdict__" : Str)) = false := by decide) :
    PS X (.Try body [.ExceptHandler (some (.Name x np)) (some n) [.Assign [.Name m p1] (.Name n p2) p3] pos'] [] [] pos) (fun D σ H => tb (wKeep X.K c i l Wout D) D σ H) := by
  refine ⟨fun pins s σ H D I h => ?_⟩
  have ok := I.ok
  have fr : X.A.frames = some (X.env :: X.outer) := ok.frames.trans (congrArg some hs)
  refine wpAny_Try_except (wpAny_mono ((hb (wKeep X.K c i l Wout D) (X.pn ++ pins) (fun e s₁ => wpAny (model X.prog X.w) X.A (noteFrame e X.env) (fun _ s₂ => wpAny (model X.prog X.w) X.A (setFlight e none) (fun _ s₃ =>
    wpAny (model X.prog X.w) X.A (handleBy e X.env [.ExceptHandler (some (.Name x np)) (some n) [.Assign [.Name m p1] (.Name n p2) p3] pos']) (SP X pins D) X.xe s₃) X.xe s₂) X.xe s₁) (fun u s' xx => ?_) PassesOwn.looking).run [] s σ H D (I.toTry _) h) (fun f s1 q => ?_) fun e s1 z => z)
  · obtain ⟨a, B, sI, pins', σ', H', cls, d, rfl, J', nb, up, sky, na, os, ag, b, hb1, yes, no⟩ := xx
    have J : Inv X pins σ' H' sI := J'.ofTry ok
    rw [hs] at sky
    -- nothing stood at a before
    have nB : B.get? a = none := by
      rcases sky with z | z | z
      · exact z.2.1
      · exact z.2.1
      · exact z.2.1
    refine Sky.land Zc.steady fr hf sky fun h3 fl3 up3 => ?_
    have K3 : Inv X pins σ' H' { s' with heap := h3 } := J.landed nb fl3.1 (up.trans up3) os ag
    obtain ⟨o3, v3, e3, z3, d3⟩ := fl3.there
    have nfr : a ∉ frs (X.env :: X.outer) := fun hm => by
      obtain ⟨_, o1, e1, n1⟩ := fl3.2.2.1.mem hm
      rw [e3] at e1
      cases e1
      exact n1 _ d3
    have nL : a ≠ X.env.locals := fun z => nfr (List.mem_filterMap.mpr ⟨X.env, List.mem_cons_self, by rw [hf, z]⟩)
    have nF : a ∉ X.fs := fun hm => by
      obtain ⟨e, he, q⟩ := List.mem_filterMap.mp hm
      exact nfr (List.mem_filterMap.mpr ⟨e, List.mem_cons_of_mem _ he, q⟩)
    have nI : sI.heap.get? a = none := by
      cases e : sI.heap.get? a with
      | none => rfl
      | some o =>
        have z := nb a o e (by rw [hs]; exact nfr)
        rw [nB] at z
        cases z
    have n0 : X.s_0.heap.get? a = none := by
      cases e : X.s_0.heap.get? a with
      | none => rfl
      | some o =>
        obtain ⟨o1, z⟩ := J.base.there a o e (by rw [hex]; exact fun z => nomatch z)
        rw [nI] at z
        cases z
    have npn : ∀ p ∈ X.pn ++ pins, p.1 ≠ a := fun p hp z => by
      have q := (J.pin p hp).1
      rw [z, nI] at q
      cases q
    have S3 := K3.suite e3 d3 na nL nF
    refine wpAny_handleBy_cons (codeAny_handlers_test ?_) (by intro q; cases q)
    have LM := PySem.W.exm_one (M := model X.prog X.w) K3.kIn (fun A Q E s k q => wpAny_typeOf_ref (k _ _ e3) (by rw [z3.1]; exact q)) hb1
    have test : ∀ {Q : Value → Shared → Prop} {E : Value → Shared → Prop}, Q c { s' with heap := h3 } → wpAny (model X.prog X.w) (X.A.mark (some (.ref a))) (eval (.Name x np) X.env) Q E { s' with heap := h3 } := fun {Q E} q => by
      obtain ⟨hg, hdbg, hm | ⟨hm, hv, hnn⟩⟩ := hc
      · exact ld_glob (X := X.suite a ((a, o3) :: (X.pn ++ pins))) S3 hg hm q hdbg
      · exact ld_blt (X := X.suite a ((a, o3) :: (X.pn ++ pins))) S3 hg hm hv q hnn hdbg
    refine test (LM.here ?_)
    cases b with
    | true =>
      refine codeAny_handlers_suite_as (HandSPX.lands_againZ fl3 fun h4 fl4 up4 => ?_)
      have K4 : Inv X pins σ' H' { s' with heap := h4 } := J.landed nb fl4.1 ((up.trans up3).trans up4) os ag
      obtain ⟨o4, v4, e4, z4, d4⟩ := fl4.there
      have S4 := K4.suite e4 d4 na nL nF
      refine store_ok (X := X.suite a ((a, o4) :: (X.pn ++ pins))) (v := .ref a) S4 hN hi (.inl hin) rfl (fun s5 S5 => ?_) (.inr hin)
      have asg : PSs (X.suite a ((a, o4) :: (X.pn ++ pins))) [.Assign [.Name m p1] (.Name n p2) p3] (tAsg (tVar i) (gName l)) := pss_one (ps_set (i := l) hN hl (.inl hlm) (pe_var hi (.inl hin) hd1 hd2) (hf := .inr hlm))
      have hii : (σ'.set i (some (V.ref a)))[i]? = some (some (V.ref a)) := by
        have q : i < σ'.length := by
          rw [K4.len]
          exact (List.getElem?_eq_some_iff.mp hi).1
        exact List.getElem?_set_self q
      refine wpAny_mono (asg.run [] s5 _ H' { nx := fun σ6 H6 => σ6 = (σ'.set i (some (.ref a))).set l (some (.ref a)) ∧ H6 = H', rt := fun _ _ => False } S5 ⟨_, hii, rfl, rfl⟩) (fun f s6 q6 => ?_) (fun _ _ z => False.elim z)
      cases f with
      | next =>
        obtain ⟨σ6, H6, S6, eσ, eH⟩ := q6
        subst eσ eH
        have K6 : L2.Inv X ((a, o4) :: pins) ((σ'.set i (some (.ref a))).set l (some (.ref a))) H6 s6 := by
          refine ⟨ok, S6.os, S6.bare, S6.base, S6.loc, S6.cell, S6.free, S6.freeC, fun p hp => S6.pin p ?_, S6.hok, S6.len⟩
          rw [List.append_nil]
          rcases List.mem_append.mp hp with z | z
          · exact List.mem_cons_of_mem _ (List.mem_append_left _ z)
          · rcases List.mem_cons.mp z with y | y
            · rw [y]
              exact List.mem_cons_self
            · exact List.mem_cons_of_mem _ (List.mem_append_right _ y)
        exact gone_ok K6 hN hi hin fun s7 K7 => ⟨_, _, track K7 z4 ⟨_, d4⟩ n0 npn, yes rfl a na⟩
      | brk =>
        obtain ⟨_, _, _, z⟩ := q6
        exact False.elim z
      | cont =>
        obtain ⟨_, _, _, z⟩ := q6
        exact False.elim z
      | ret u =>
        obtain ⟨_, _, _, _, _, z⟩ := q6
        exact False.elim z
    | false =>
      refine wpAny_handleBy_nil ?_
      obtain ⟨k1, k2, k3, oe, vs, T, oT, ts, he, hz, hd, h1, hr⟩ := id fl3
      unfold PySem.passOn
      refine wpAny_bind (wpAny_field he hd h1 ?_)
      rw [if_neg (by simp : ¬ ((Value.ref T == Value.none) = true))]
      have out : wpAny (model X.prog X.w) X.A (setFlight (.ref a) X.env.frame) (fun _ s4 => wpAny (model X.prog X.w) X.A (throw (.ref a) : Sem Flow) (SP X pins D) X.xe s4) X.xe { s' with heap := h3 } := by
        rw [hf]
        refine HandSPX.setFlight_upZ fl3 fun h4 hh4 up4 => wpAny_throw (tk _ _ ?_)
        exact ⟨a, B, sI, pins, σ', H', cls, d, rfl, J, nb, (up.trans up3).trans up4, .inr (.inr (by rw [hs]; exact hh4)), na, os, ag, no rfl⟩
      first
        | exact wpAny_bind (wpAny_pure (wpAny_bind out))
        | exact wpAny_bind out
  · cases f with
    | next =>
      obtain ⟨σ1, H1, J1, q1⟩ := q
      exact wpAny_execs_nil ⟨σ1, H1, J1.ofTry ok, q1⟩
    | brk =>
      obtain ⟨σ1, H1, J1, q1⟩ := q
      exact ⟨σ1, H1, J1.ofTry ok, q1⟩
    | cont =>
      obtain ⟨σ1, H1, J1, q1⟩ := q
      exact ⟨σ1, H1, J1.ofTry ok, q1⟩
    | ret u =>
      obtain ⟨v, σ1, H1, J1, r1, q1⟩ := q
      exact ⟨v, σ1, H1, J1.ofTry ok, r1, q1⟩
end
end Ev

set_option Elab.async false
set_option linter.all false
set_option maxRecDepth 100000
set_option maxHeartbeats 4000000
/-! Own rules, fourth: a kept exception asked for its class and its field; zip of a text and a list. -/
namespace Ev
open PySem PySem.Spec PyProof.Rows L2
section
variable {X : Cx} {pins : List (Addr × Obj)} {σ : L2.St} {H : Hp} {s : Shared}
/-- a kept exception as the library's rules take it -/
theorem xo_inst {a D : Addr} {d : Option Addr} (I : L2.Inv X pins σ H s) (ha : H a = some (XO (.ref D) d a)) (hd : ∀ dd, d = some dd → ∃ fs, H dd = some (.xd fs)) :
    ∃ (oe : Obj) (od : Option Obj), PySem.W.InstAt s.heap a oe D od ∧ ∀ dd fs, d = some dd → H dd = some (.xd fs) → ∃ (mA : Str → Option Value) (o : Obj), od = some o ∧ (∀ f, PySem.W.lookIn f o = some (mA f)) ∧ ∀ f, RelO (fs.lookup f) (mA f) := by
  obtain ⟨⟨oe, vs, e, z, f⟩, _, _⟩ := I.hok a _ ha
  cases d with
  | none =>
    refine ⟨oe, none, ⟨e, z.1, ?_, ?_⟩, fun dd fs h => nomatch h⟩
    · unfold PySem.W.notCls
      rw [f] <;> rfl
    · rw [z.2]
      trivial
  | some dd =>
    obtain ⟨fs, hx⟩ := hd dd rfl
    obtain ⟨mA, hns, hr⟩ := (show ObjOk X.prog X.w H s.heap dd (.xd fs) from I.hok dd _ hx)
    obtain ⟨o, ho, hl⟩ := lookIn_ns hns
    refine ⟨oe, some o, ⟨e, z.1, ?_, ?_⟩, fun d2 f2 h h2 => ?_⟩
    · unfold PySem.W.notCls
      rw [f] <;> rfl
    · rw [z.2]
      exact ho
    · cases h
      rw [hx] at h2
      cases h2
      exact ⟨mA, o, rfl, hl, hr⟩
end
/-- isinstance(e, c), e a kept exception of the class at D -/
def rIsX (K : PySem.W.Frag) : List V → Hp → VK → Prop := fun xs H Q => ∃ (a D : Addr) (d : Option Addr) (c : V) (cv : Value) (b : Bool), xs = [.ref a, c] ∧ H a = some (XO (.ref D) d a) ∧ (∀ dd, d = some dd → ∃ fs, H dd = some (.xd fs)) ∧ ExcC K D ∧ ClsV c cv ∧ PySem.W.kitOne K (.ref D) cv = some b ∧ Q (.bl b) H
theorem call_isx {X : Cx} : CallR X (.builtin "isinstance") (rIsX X.K) := by
  intro pins s σ H xs us Q I r h
  obtain ⟨a, D, d, c, cv, b, rfl, ha, hd, xc, k, e, q⟩ := h
  obtain ⟨u1, u2, rfl, r1, r2⟩ := vals2 r
  have e2 := k.eq r2
  subst e2
  obtain rfl : u1 = Value.ref a := r1
  obtain ⟨oe, od, J, _⟩ := xo_inst I ha hd
  exact PySem.W.kia_one (PySem.W.ev_kitx xc) I.kIn ⟨oe, od, J⟩ e (fun z => nomatch z) fun tk => ⟨.bl b, H, I.tok tk, rfl, q⟩
/-- e.f, e a kept exception of the class at C -/
def tXo (K : PySem.W.Frag) (f : Str) (te : TE) : TE := fun σ H Q => te σ H fun x H1 => ∃ (a C dd : Addr) (fs : List (Str × V)) (v : V), x = .ref a ∧ H1 a = some (XO (.ref C) (some dd) a) ∧ H1 dd = some (.xd fs) ∧ XfC K C ∧ PySem.W.findIn K (.ref C) f = some none ∧ fs.lookup f = some v ∧ Q v H1
theorem pe_xo {X : Cx} {e : Expr} {te : TE} {pos : Pos} {n : Str} (he : PE X e te) (hb : attributeBase e n X.env (eval e X.env) = eval e X.env := by rfl) : PE X (.Attribute e n pos) (tXo X.K n te) := by
  refine ⟨fun pins s σ H Q I h => ?_⟩
  refine attr_of hb (thn (he.run pins s σ H _ I h) fun u s1 hh => ?_)
  obtain ⟨x, H1, I1, rx, a, C, dd, fs, v, ex, ha, hx, T, hno, l, q⟩ := hh
  subst ex
  obtain rfl : u = Value.ref a := rx
  obtain ⟨oe, od, J, more⟩ := xo_inst I1 ha fun d2 h2 => by cases h2; exact ⟨fs, hx⟩
  obtain ⟨mA, o, rfl, hl, hr⟩ := more dd fs rfl hx
  obtain ⟨u, hu, ru⟩ := RelO.some_of (v := v) (o := mA n) (by rw [← l]; exact hr n)
  exact HandSPX.exc_get I1.kIn J T.ga T.gg T.exC (PySem.W.findObj_own T.hdC hno rfl (by rw [hl, hu])) (handed_of ru) ⟨v, H1, I1.tok _, ru, q⟩

/-! ### zip(text, list) -/
/-- a text's signs beside a list's items -/
def Izs (K : PySem.W.Frag) (z : Str) (b : Addr) : It :=
  ⟨fun i H => i < z.cps.size ∧ ∃ (ys : List V) (y : V), SqL K H b ys ∧ ys[i]? = some y,
    fun i H v H' => ∃ T c y, v = .ref T ∧ H T = none ∧ H' = upd H T (.tup [.str ⟨#[c]⟩, y]) ∧ z.cps[i]? = some c ∧ ∀ ys, SqL K H b ys → ys[i]? = some y,
    fun i H => i ≤ z.cps.size ∧ ∃ ys : List V, SqL K H b ys ∧ i ≤ ys.length ∧ (i = z.cps.size ∨ i = ys.length)⟩
section
variable {P : Program} {w : World} {K : PySem.W.Frag} {elts : List Expr} {kk : Nat} {tpos : Pos} {x : Str} {t : Tok} {b z TI TO i1 i2 : Addr}
theorem turn_zipS (S : ZipSep2 z TI TO i1 i2 [i1] [i2, b]) (hb : b ≠ i2) :
    Turn P w K (.Tuple elts kk tpos) (Izs K x b) [z, TI, TO, i1, i2] z (fun i h => IsZip h z TI TO .none ∧ IsTupOf2 h TI (.ref i1) (.ref i2) ∧ (∃ a1 a2, IsTupOf2 h TO a1 a2) ∧ h.IsStrIter i1 (strIterType x) x t i ∧ h.IsListIter i2 b i) := by
  have five : ∀ {c : Addr}, c ∈ [z, TI, TO, i1, i2] → c = z ∨ c = TI ∨ c = TO ∨ c = i1 ∨ c = i2 := fun h => by simpa using h
  refine ⟨by simp, fun i h st c hc => ?_, fun i h h' st k => ?_, ?_, ?_, fun A i s Q E st h => wpAny_pyIter_zip st.1 h⟩
  · obtain ⟨hz, hTI, ⟨a1, a2, hTO⟩, ⟨o1, e1, _, d1⟩, ⟨o2, e2, _, d2⟩⟩ := st
    rcases five hc with q | q | q | q | q
    · rw [q]; exact ⟨_, hz, fun v q => nomatch q⟩
    · rw [q]; exact ⟨_, hTI, fun v q => nomatch q⟩
    · rw [q]; exact ⟨_, hTO, fun v q => nomatch q⟩
    · rw [q]; exact ⟨o1, e1, fun v q => by rw [d1] at q; cases q⟩
    · rw [q]; exact ⟨o2, e2, fun v q => by rw [d2] at q; cases q⟩
  · obtain ⟨hz, hTI, ⟨a1, a2, hTO⟩, ⟨o1, e1, r1⟩, h2⟩ := st
    exact ⟨k z (by simp) _ hz, k TI (by simp) _ hTI, ⟨a1, a2, k TO (by simp) _ hTO⟩, ⟨o1, k i1 (by simp) _ e1, r1⟩, h2.at fun o q => k i2 (by simp) o q⟩
  · intro X hP hw hK hc i pins s σ H E I hf st hg
    subst hP hw hK
    obtain ⟨hz, hTI, ⟨a1, a2, hTO⟩, h1, h2⟩ := st
    obtain ⟨hi, ys, y, hq, hy⟩ := hg
    obtain ⟨its, rv, p, _⟩ := I.list hq
    have hlen : its.toArray.size = ys.length := by simp [rv.length]
    have hiy : i < its.toArray.size := by
      rw [hlen]
      exact (List.getElem?_eq_some_iff.mp hy).1
    have zl : z < s.heap.objs.size := Heap.lt_size hz
    have D1 := Draws.text (prog := X.prog) (w := X.w) (A := X.A.in1) (I.ok.hd hc) i1 x t
    have D2 := Draws.list (prog := X.prog) (w := X.w) (A := X.A.in1) (I.ok.hd hc) i2 b hb its.toArray
    refine wpAny_pyNext_zipD2_item (A := X.A) S D1 D2 hz hTI hTO h1 ⟨h2, p.isList⟩ hi hiy fun x1 x2 h' tk q1 q2 z' TO' s1 s2 hT hsz hk => ?_
    obtain ⟨c, u, hcx, rfl⟩ := q1
    refine ⟨_, rfl, wpAny_letOwnedTupleGo_zip (s := { s with heap := h', toks := tk }) z' fun h'' z'' sb => ?_⟩
    have hT2 : h''.get? s.heap.objs.size = some { cls := .type "tuple", data := .seq #[.str ⟨#[c]⟩ u, x2] } := (sb.2 _ (Nat.ne_of_gt zl)).trans hT
    obtain ⟨u2, hu2, ru2⟩ := rv.get hy
    have e2 : x2 = u2 := by
      have q3 : its.toArray[i]? = some u2 := by simpa using hu2
      rw [q3] at q2
      exact (Option.some.inj q2).symm
    subst e2
    have new : ObjOk X.prog X.w (upd H s.heap.objs.size (.tup [.str ⟨#[c]⟩, y])) h'' s.heap.objs.size (.tup [.str ⟨#[c]⟩, y]) :=
      ⟨by show 2 ≤ sizeLine; decide, [.str ⟨#[c]⟩ u, x2], .cons ⟨u, rfl⟩ (.cons ru2 .nil), ⟨_, hT2, rfl, _, rfl⟩⟩
    have J : L2.Inv X pins σ (upd H s.heap.objs.size (.tup [.str ⟨#[c]⟩, y])) { s with heap := h'', toks := tk } :=
      I.turnedNew (t' := tk) (ch := [z, TI, TO, i1, i2]) (fun c o hb q => (sb.2 c (fun q' => hb (by simp [q']))).trans (hk c o (fun q' => hb (by simp [q'])) (fun q' => hb (by simp [q'])) (fun q' => hb (by simp [q'])) (fun q' => hb (by simp [q'])) q)) hf (Nat.le_refl _) new
    refine ⟨.ref s.heap.objs.size, _, J, rfl, ⟨_, c, y, rfl, I.hok.fresh (Nat.le_refl _), rfl, hcx, fun l hl => by rw [I.list_inj hl hq]; exact hy⟩, ⟨z'', ?_, ⟨.str ⟨#[c]⟩ u, x2, (sb.2 _ S.TOz).trans TO'⟩, ?_, ?_⟩, fun c hcm => ?_⟩
    · exact (sb.2 _ S.TIz).trans (hk _ _ S.TIz S.TITO S.TIi1 S.TIi2 hTI)
    · obtain ⟨o, ho, hr⟩ := s1
      exact ⟨o, (sb.2 _ (Ne.symm S.zi1)).trans ho, hr⟩
    · exact s2.1.at fun o q => (sb.2 _ (Ne.symm S.zi2)).trans q
    · obtain ⟨o1, e1, _⟩ := h1
      obtain ⟨o2, e2, _⟩ := h2
      have hlt : c < s.heap.objs.size := by
        rcases five hcm with q | q | q | q | q
        · rw [q]; exact zl
        · rw [q]; exact Heap.lt_size hTI
        · rw [q]; exact Heap.lt_size hTO
        · rw [q]; exact Heap.lt_size e1
        · rw [q]; exact Heap.lt_size e2
      rw [upd_ne (Nat.ne_of_lt hlt)]
      exact (hf c hcm).1
  · intro X hP hw hK hc i pins s σ H E I hf st hg
    subst hP hw hK
    obtain ⟨hz, hTI, ⟨a1, a2, hTO⟩, h1, h2⟩ := st
    obtain ⟨hi, ys, hq, hiy, hend⟩ := hg
    obtain ⟨its, rv, p, _⟩ := I.list hq
    have hlen : its.toArray.size = ys.length := by simp [rv.length]
    have D1 := Draws.text (prog := X.prog) (w := X.w) (A := X.A.in1) (I.ok.hd hc) i1 x t
    have D2 := Draws.list (prog := X.prog) (w := X.w) (A := X.A.in1) (I.ok.hd hc) i2 b hb its.toArray
    refine wpAny_pyNext_zipD2_end (A := X.A) S D1 D2 hz hTI hTO h1 ⟨h2, p.isList⟩ hi (by rw [hlen]; exact hiy) (by rw [hlen]; exact hend) fun h' tk hk => ⟨rfl, ?_⟩
    exact I.turnedL (t' := tk) (ch := [z, TI, TO, i1, i2]) (fun c o hb q => hk c o (fun q' => hb (by simp [q'])) (fun q' => hb (by simp [q'])) (fun q' => hb (by simp [q'])) (fun q' => hb (by simp [q'])) q) hf
end
def iZipS (K : PySem.W.Frag) (ta : TA) : TI := fun σ H R => ta σ H fun vs H1 => ∃ x b ys, vs = [.str x, .ref b] ∧ SqL K H1 b ys ∧ R (Izs K x b) H1
theorem pi_zipS {X : Cx} {e e2 : Expr} {ta : TA} {p pos tpos : Pos} {elts : List Expr} {kk : Nat} (hg : Gl X "zip") (hm : X.mg "zip" = none) (ha : PA X [e, e2] ta)
    (h1 : starEach [e, e2] X.env = (false, eval e X.env) :: starEach [e2] X.env := by rfl) (h2 : (backTo pos (starEach [e2] X.env)).any (·.1) = false := by rfl) :
    PI X (.Tuple elts kk tpos) (.Call (.Name "zip" p) [e, e2] [] pos) (iZipS X.K ta) := by
  refine ⟨fun pins s σ H R I h => ?_⟩
  refine Call_ (ld_blt I hg hm PyProof.Rows.boot_zip (PyProof.Rows.callWith_type1 (thn (ha.run pos pins s σ H _ I h) fun us s1 ⟨vs, H1, I1, r1, q1⟩ => ?_) h1 h2))
  obtain ⟨x, b, ys, rfl, hq, q⟩ := q1
  cases r1 with
  | cons r rr => cases rr with
    | cons r' rr =>
      cases rr
      obtain ⟨t, rfl⟩ := r
      cases r'
      obtain ⟨its, rv, pl, _⟩ := I1.list hq
      have lb : b < s1.heap.objs.size := pl.lt
      refine zip_begins2 (begins_text x t) (begins_list b its.toArray) trivial pl.isList fun h' hz hTI hTO e1 e2 hsz hk => wpAny_pyIter_zip hz ?_
      have I2 : L2.Inv X pins σ H1 { s1 with heap := h' } := I1.kept (t' := s1.toks) hk
      have S := zip_sep2 (N := s1.heap.objs.size) (fp1 := []) (fp2 := [b]) (fun b h => nomatch h) (fun c hc => by rw [List.mem_singleton.mp hc]; exact lb)
      refine ⟨s1.heap.objs.size + 4, [s1.heap.objs.size + 4, s1.heap.objs.size + 2, s1.heap.objs.size + 3, s1.heap.objs.size, s1.heap.objs.size + 1], _, _, H1, rfl, I2, turn_zipS (x := x) (t := t) S (Nat.ne_of_lt (Nat.lt_succ_of_lt lb)), ⟨hz, hTI, ⟨_, _, hTO⟩, ⟨_, e1, rfl, rfl⟩, ⟨_, e2, rfl, rfl⟩⟩, fun c hcm => ?_, q⟩
      have hle : s1.heap.objs.size ≤ c := by
        have five : c = s1.heap.objs.size + 4 ∨ c = s1.heap.objs.size + 2 ∨ c = s1.heap.objs.size + 3 ∨ c = s1.heap.objs.size ∨ c = s1.heap.objs.size + 1 := by simpa using hcm
        rcases five with q | q | q | q | q
        · rw [q]; exact Nat.le_add_right _ _
        · rw [q]; exact Nat.le_add_right _ _
        · rw [q]; exact Nat.le_add_right _ _
        · exact Nat.le_of_eq q.symm
        · rw [q]; exact Nat.le_add_right _ _
      exact I1.fpOk hle (I1.hok.fresh hle)
theorem walk_zipS {K : PySem.W.Frag} {x : Str} {b : Addr} {ys : List V} (hn : x.cps.size = ys.length) : Walk (Izs K x b) ys.length (fun H => SqL K H b ys) (YPair (fun i => x.cps[i]?.map fun c => .str ⟨#[c]⟩) (fun i => ys[i]?)) := by
  refine ⟨fun i H hi q => ⟨by omega, ys, ys[i], q, by simp [hi]⟩, fun H q => ⟨by omega, ys, q, by omega, .inr rfl⟩, fun i H v H' hi q y => ?_⟩
  obtain ⟨T, c, y, h1, h2, h3, h4, h5⟩ := y
  exact ⟨T, .str ⟨#[c]⟩, y, h1, h2, h3, by simp [h4], h5 ys q⟩
end Ev

set_option Elab.async false
set_option linter.all false
set_option maxRecDepth 100000
set_option maxHeartbeats 4000000
namespace Ev
open PySem PySem.Spec PyProof.Rows L2 He
/-! ### the text by places -/
abbrev R : PySem.W.OpenRow := PySem.W.OpenLaw.row PySem.Challenge.rw_evenpick_k60_whole_one_purse
def top (i : Nat) : Stmt := PySem.Challenge.pw_evenpick_k60_whole_one_purse.main.body.getD i (.Pass ⟨0, 0, 0, 0⟩)
abbrev s_whole : Stmt := top 14
abbrev s_coin_row : Stmt := top 15
abbrev s_named : Stmt := top 16
abbrev s_read_word : Stmt := top 17
abbrev s_parts_of : Stmt := top 18
abbrev s_shuffled : Stmt := top 23
abbrev s_pour_drawers : Stmt := top 24
abbrev s_pour_weighers : Stmt := top 25
abbrev s_is_below : Stmt := top 42
abbrev s_is_node : Stmt := top 43
abbrev s_led_on : Stmt := top 44
abbrev s_coins_to_gives : Stmt := top 45
abbrev s_checked : Stmt := top 46
abbrev s_walked : Stmt := top 47
abbrev s_number_in : Stmt := top 50
abbrev s_node_in : Stmt := top 51
abbrev s_read_program : Stmt := top 52
abbrev s__law_cell : Stmt := top 79
abbrev s__law_numbers : Stmt := top 80
abbrev s__law_only : Stmt := top 81
abbrev s__law_names : Stmt := top 82
abbrev s__law_draw : Stmt := top 83
abbrev s__law_go : Stmt := top 84
abbrev s__law_see : Stmt := top 85
abbrev s__law_cut : Stmt := top 86
abbrev s__law_new : Stmt := top 87
abbrev s__law_kept : Stmt := top 88
abbrev s__law_draws : Stmt := top 89
abbrev s__law_shuffled : Stmt := top 90
abbrev s__law_poured : Stmt := top 91
abbrev s__law_pour : Stmt := top 92
abbrev s__law_beyond : Stmt := top 93
abbrev s__law_told : Stmt := top 94
abbrev s__law_row : Stmt := top 95
abbrev s__law_answered : Stmt := top 96
abbrev s__law_left : Stmt := top 97
abbrev s_law : Stmt := top 98
abbrev s_Short_init : Stmt := inClass (top 5) 0
abbrev s_Keeper_init : Stmt := inClass (top 20) 0
abbrev s_Keeper_seen : Stmt := inClass (top 20) 1
abbrev s_Keeper_held : Stmt := inClass (top 20) 2
abbrev s_Drawer_init : Stmt := inClass (top 21) 0
abbrev s_Drawer_see : Stmt := inClass (top 21) 1
abbrev s_Drawer_cut : Stmt := inClass (top 21) 2
abbrev s_Weigher_init : Stmt := inClass (top 22) 0
abbrev s_Weigher_weight : Stmt := inClass (top 22) 1
abbrev s_Weigher_see : Stmt := inClass (top 22) 2
abbrev s_Purse_init : Stmt := inClass (top 55) 0
abbrev s_Purse_put : Stmt := inClass (top 55) 1
abbrev s_Purse_drawn : Stmt := inClass (top 55) 2
abbrev s_Purse_draws : Stmt := inClass (top 55) 3
abbrev s_Purse_draw : Stmt := inClass (top 55) 4
abbrev s_Purse_there : Stmt := inClass (top 55) 6
abbrev s_Purse_take : Stmt := inClass (top 55) 7
abbrev s_Purse_left : Stmt := inClass (top 55) 8
abbrev s_Desk_init : Stmt := inClass (top 77) 0
abbrev s_Desk_say : Stmt := inClass (top 77) 1
abbrev s_Desk_program_by : Stmt := inClass (top 77) 2
abbrev s_Desk_keeper_by : Stmt := inClass (top 77) 3
abbrev s_Desk_drawer_by : Stmt := inClass (top 77) 4
abbrev s_Desk_weigher_by : Stmt := inClass (top 77) 5
abbrev s_Desk_on_program : Stmt := inClass (top 77) 6
abbrev s_Desk_on_coins : Stmt := inClass (top 77) 7
abbrev s_Desk_on_keeper : Stmt := inClass (top 77) 8
abbrev s_Desk_made : Stmt := inClass (top 77) 9
/-! ### the defs and the facts -/
def d_whole : DefD := ⟨("whole", none), "whole", "whole", defArgs s_whole, defBody s_whole, defScope s_whole, [], []⟩
def d_coin_row : DefD := ⟨("coin_row", none), "coin_row", "coin_row", defArgs s_coin_row, defBody s_coin_row, defScope s_coin_row, [], []⟩
def d_named : DefD := ⟨("named", none), "named", "named", defArgs s_named, defBody s_named, defScope s_named, [], []⟩
def d_read_word : DefD := ⟨("read_word", none), "read_word", "read_word", defArgs s_read_word, defBody s_read_word, defScope s_read_word, [], []⟩
def d_parts_of : DefD := ⟨("parts_of", none), "parts_of", "parts_of", defArgs s_parts_of, defBody s_parts_of, defScope s_parts_of, [], []⟩
def d_shuffled : DefD := ⟨("shuffled", none), "shuffled", "shuffled", defArgs s_shuffled, defBody s_shuffled, defScope s_shuffled, [], []⟩
def d_pour_drawers : DefD := ⟨("pour_drawers", none), "pour_drawers", "pour_drawers", defArgs s_pour_drawers, defBody s_pour_drawers, defScope s_pour_drawers, [], []⟩
def d_pour_weighers : DefD := ⟨("pour_weighers", none), "pour_weighers", "pour_weighers", defArgs s_pour_weighers, defBody s_pour_weighers, defScope s_pour_weighers, [], []⟩
def d_is_below : DefD := ⟨("is_below", none), "is_below", "is_below", defArgs s_is_below, defBody s_is_below, defScope s_is_below, [], []⟩
def d_is_node : DefD := ⟨("is_node", none), "is_node", "is_node", defArgs s_is_node, defBody s_is_node, defScope s_is_node, [], []⟩
def d_led_on : DefD := ⟨("led_on", none), "led_on", "led_on", defArgs s_led_on, defBody s_led_on, defScope s_led_on, [], []⟩
def d_coins_to_gives : DefD := ⟨("coins_to_gives", none), "coins_to_gives", "coins_to_gives", defArgs s_coins_to_gives, defBody s_coins_to_gives, defScope s_coins_to_gives, [], []⟩
def d_checked : DefD := ⟨("checked", none), "checked", "checked", defArgs s_checked, defBody s_checked, defScope s_checked, [], []⟩
def d_walked : DefD := ⟨("walked", none), "walked", "walked", defArgs s_walked, defBody s_walked, defScope s_walked, [], []⟩
def d_number_in : DefD := ⟨("number_in", none), "number_in", "number_in", defArgs s_number_in, defBody s_number_in, defScope s_number_in, [], []⟩
def d_node_in : DefD := ⟨("node_in", none), "node_in", "node_in", defArgs s_node_in, defBody s_node_in, defScope s_node_in, [], []⟩
def d_read_program : DefD := ⟨("read_program", none), "read_program", "read_program", defArgs s_read_program, defBody s_read_program, defScope s_read_program, [], []⟩
def d__law_cell : DefD := ⟨("_law_cell", none), "_law_cell", "_law_cell", defArgs s__law_cell, defBody s__law_cell, defScope s__law_cell, [], []⟩
def d__law_numbers : DefD := ⟨("_law_numbers", none), "_law_numbers", "_law_numbers", defArgs s__law_numbers, defBody s__law_numbers, defScope s__law_numbers, [], []⟩
def d__law_only : DefD := ⟨("_law_only", none), "_law_only", "_law_only", defArgs s__law_only, defBody s__law_only, defScope s__law_only, [], []⟩
def d__law_names : DefD := ⟨("_law_names", none), "_law_names", "_law_names", defArgs s__law_names, defBody s__law_names, defScope s__law_names, [], []⟩
def d__law_draw : DefD := ⟨("_law_draw", none), "_law_draw", "_law_draw", defArgs s__law_draw, defBody s__law_draw, defScope s__law_draw, [], []⟩
def d__law_go : DefD := ⟨("_law_go", none), "_law_go", "_law_go", defArgs s__law_go, defBody s__law_go, defScope s__law_go, [], []⟩
def d__law_see : DefD := ⟨("_law_see", none), "_law_see", "_law_see", defArgs s__law_see, defBody s__law_see, defScope s__law_see, [], []⟩
def d__law_cut : DefD := ⟨("_law_cut", none), "_law_cut", "_law_cut", defArgs s__law_cut, defBody s__law_cut, defScope s__law_cut, [], []⟩
def d__law_new : DefD := ⟨("_law_new", none), "_law_new", "_law_new", defArgs s__law_new, defBody s__law_new, defScope s__law_new, [], []⟩
def d__law_kept : DefD := ⟨("_law_kept", none), "_law_kept", "_law_kept", defArgs s__law_kept, defBody s__law_kept, defScope s__law_kept, [], []⟩
def d__law_draws : DefD := ⟨("_law_draws", none), "_law_draws", "_law_draws", defArgs s__law_draws, defBody s__law_draws, defScope s__law_draws, [], []⟩
def d__law_shuffled : DefD := ⟨("_law_shuffled", none), "_law_shuffled", "_law_shuffled", defArgs s__law_shuffled, defBody s__law_shuffled, defScope s__law_shuffled, [], []⟩
def d__law_poured : DefD := ⟨("_law_poured", none), "_law_poured", "_law_poured", defArgs s__law_poured, defBody s__law_poured, defScope s__law_poured, [], []⟩
def d__law_pour : DefD := ⟨("_law_pour", none), "_law_pour", "_law_pour", defArgs s__law_pour, defBody s__law_pour, defScope s__law_pour, [], []⟩
def d__law_beyond : DefD := ⟨("_law_beyond", none), "_law_beyond", "_law_beyond", defArgs s__law_beyond, defBody s__law_beyond, defScope s__law_beyond, [], []⟩
def d__law_told : DefD := ⟨("_law_told", none), "_law_told", "_law_told", defArgs s__law_told, defBody s__law_told, defScope s__law_told, [], []⟩
def d__law_row : DefD := ⟨("_law_row", none), "_law_row", "_law_row", defArgs s__law_row, defBody s__law_row, defScope s__law_row, [], []⟩
def d__law_answered : DefD := ⟨("_law_answered", none), "_law_answered", "_law_answered", defArgs s__law_answered, defBody s__law_answered, defScope s__law_answered, [], []⟩
def d__law_left : DefD := ⟨("_law_left", none), "_law_left", "_law_left", defArgs s__law_left, defBody s__law_left, defScope s__law_left, [], []⟩
def d_law : DefD := ⟨("law", none), "law", "law", defArgs s_law, defBody s_law, defScope s_law, [], []⟩
def d_Short_init : DefD := ⟨("Short", some "__init__"), "__init__", "Short.__init__", defArgs s_Short_init, defBody s_Short_init, defScope s_Short_init, [], []⟩
def d_Keeper_init : DefD := ⟨("Keeper", some "__init__"), "__init__", "Keeper.__init__", defArgs s_Keeper_init, defBody s_Keeper_init, defScope s_Keeper_init, [], []⟩
def d_Keeper_seen : DefD := ⟨("Keeper", some "seen"), "seen", "Keeper.seen", defArgs s_Keeper_seen, defBody s_Keeper_seen, defScope s_Keeper_seen, [], []⟩
def d_Keeper_held : DefD := ⟨("Keeper", some "held"), "held", "Keeper.held", defArgs s_Keeper_held, defBody s_Keeper_held, defScope s_Keeper_held, [], []⟩
def d_Drawer_init : DefD := ⟨("Drawer", some "__init__"), "__init__", "Drawer.__init__", defArgs s_Drawer_init, defBody s_Drawer_init, defScope s_Drawer_init, [], []⟩
def d_Drawer_see : DefD := ⟨("Drawer", some "see"), "see", "Drawer.see", defArgs s_Drawer_see, defBody s_Drawer_see, defScope s_Drawer_see, [], []⟩
def d_Drawer_cut : DefD := ⟨("Drawer", some "cut"), "cut", "Drawer.cut", defArgs s_Drawer_cut, defBody s_Drawer_cut, defScope s_Drawer_cut, [], []⟩
def d_Weigher_init : DefD := ⟨("Weigher", some "__init__"), "__init__", "Weigher.__init__", defArgs s_Weigher_init, defBody s_Weigher_init, defScope s_Weigher_init, [], []⟩
def d_Weigher_weight : DefD := ⟨("Weigher", some "weight"), "weight", "Weigher.weight", defArgs s_Weigher_weight, defBody s_Weigher_weight, defScope s_Weigher_weight, [], []⟩
def d_Weigher_see : DefD := ⟨("Weigher", some "see"), "see", "Weigher.see", defArgs s_Weigher_see, defBody s_Weigher_see, defScope s_Weigher_see, [], []⟩
def d_Purse_init : DefD := ⟨("Purse", some "__init__"), "__init__", "Purse.__init__", defArgs s_Purse_init, defBody s_Purse_init, defScope s_Purse_init, [.int 1], []⟩
def d_Purse_put : DefD := ⟨("Purse", some "put"), "put", "Purse.put", defArgs s_Purse_put, defBody s_Purse_put, defScope s_Purse_put, [], []⟩
def d_Purse_drawn : DefD := ⟨("Purse", some "drawn"), "drawn", "Purse.drawn", defArgs s_Purse_drawn, defBody s_Purse_drawn, defScope s_Purse_drawn, [], []⟩
def d_Purse_draws : DefD := ⟨("Purse", some "draws"), "draws", "Purse.draws", defArgs s_Purse_draws, defBody s_Purse_draws, defScope s_Purse_draws, [], []⟩
def d_Purse_draw : DefD := ⟨("Purse", some "draw"), "draw", "Purse.draw", defArgs s_Purse_draw, defBody s_Purse_draw, defScope s_Purse_draw, [], []⟩
def d_Purse_there : DefD := ⟨("Purse", some "there"), "there", "Purse.there", defArgs s_Purse_there, defBody s_Purse_there, defScope s_Purse_there, [], []⟩
def d_Purse_take : DefD := ⟨("Purse", some "take"), "take", "Purse.take", defArgs s_Purse_take, defBody s_Purse_take, defScope s_Purse_take, [], []⟩
def d_Purse_left : DefD := ⟨("Purse", some "left"), "left", "Purse.left", defArgs s_Purse_left, defBody s_Purse_left, defScope s_Purse_left, [], []⟩
def d_Desk_init : DefD := ⟨("Desk", some "__init__"), "__init__", "Desk.__init__", defArgs s_Desk_init, defBody s_Desk_init, defScope s_Desk_init, [], []⟩
def d_Desk_say : DefD := ⟨("Desk", some "say"), "say", "Desk.say", defArgs s_Desk_say, defBody s_Desk_say, defScope s_Desk_say, [], []⟩
def d_Desk_program_by : DefD := ⟨("Desk", some "program_by"), "program_by", "Desk.program_by", defArgs s_Desk_program_by, defBody s_Desk_program_by, defScope s_Desk_program_by, [], []⟩
def d_Desk_keeper_by : DefD := ⟨("Desk", some "keeper_by"), "keeper_by", "Desk.keeper_by", defArgs s_Desk_keeper_by, defBody s_Desk_keeper_by, defScope s_Desk_keeper_by, [], []⟩
def d_Desk_drawer_by : DefD := ⟨("Desk", some "drawer_by"), "drawer_by", "Desk.drawer_by", defArgs s_Desk_drawer_by, defBody s_Desk_drawer_by, defScope s_Desk_drawer_by, [], []⟩
def d_Desk_weigher_by : DefD := ⟨("Desk", some "weigher_by"), "weigher_by", "Desk.weigher_by", defArgs s_Desk_weigher_by, defBody s_Desk_weigher_by, defScope s_Desk_weigher_by, [], []⟩
def d_Desk_on_program : DefD := ⟨("Desk", some "on_program"), "on_program", "Desk.on_program", defArgs s_Desk_on_program, defBody s_Desk_on_program, defScope s_Desk_on_program, [], []⟩
def d_Desk_on_coins : DefD := ⟨("Desk", some "on_coins"), "on_coins", "Desk.on_coins", defArgs s_Desk_on_coins, defBody s_Desk_on_coins, defScope s_Desk_on_coins, [], []⟩
def d_Desk_on_keeper : DefD := ⟨("Desk", some "on_keeper"), "on_keeper", "Desk.on_keeper", defArgs s_Desk_on_keeper, defBody s_Desk_on_keeper, defScope s_Desk_on_keeper, [], []⟩
def d_Desk_made : DefD := ⟨("Desk", some "made"), "made", "Desk.made", defArgs s_Desk_made, defBody s_Desk_made, defScope s_Desk_made, [], []⟩
/-- C.m is read off the class at C as v -/
def fcB (K : PySem.W.Frag) (C : Addr) (m : Str) (v : Value) : Bool := match PySem.W.findCls K (.ref C) (.type "type") m with
  | some (.val u) => decide (u = v)
  | _ => false
theorem fcB_ok {K : PySem.W.Frag} {C : Addr} {m : Str} {v : Value} (h : fcB K C m v = true) : PySem.W.findCls K (.ref C) (.type "type") m = some (.val v) := by
  unfold fcB at h
  split at h
  · rename_i u e
    rw [e, of_decide_eq_true h]
  · cases h
def kindsV : List (Str × Dv) := [("show", .str "n"), ("shares", .str "n"), ("mean", .str "n"), ("coins", .str "c"), ("go", .str "n"), ("draw", .str "w"), ("left", .str ""), ("drawer", .str "nw"), ("weigher", .str "n"), ("held", .str "n"), ("pour", .str "nnn"), ("cut", .str "nw"), ("yield", .str "c")]
def kindsT : Tab := (fun K => ga K "KINDS", ["show", "shares", "mean", "coins", "go", "draw", "left", "drawer", "weigher", "held", "pour", "cut", "yield"])
/-- the class object of an own exception with its own __init__ -/
def oexB (K : PySem.W.Frag) (C : Addr) : Bool := match K.lookup C with
  | some ⟨.type t, _, .cls cd, sl⟩ => decide (t = "type") && (match cd.mro, sl.toList with
    | .ref C' :: bm, [_, _, _, _, some (.builtin n), _] => decide (C' = C) && (PySem.HandSPX.refsVE bm && (cd.hasDict && (!cd.hasDel && decide (n = "ValueError.__new__"))))
    | _, _ => false)
  | _ => false
theorem oexB_ok {K : PySem.W.Frag} {C : Addr} (h : oexB K C = true) : ∃ nm q N bs bm sn sub ab col dd k0 k1 k2 k3 k5, K.lookup C = some (excClassObj nm q C N bs bm true sn sub ab col dd k0 k1 k2 k3 k5 "ValueError.__new__") ∧ PySem.HandSPX.refsVE bm = true := by
  unfold oexB at h
  split at h
  · rename_i t od cd sl ho
    obtain ⟨ht, h⟩ := Bool.and_eq_true_iff.mp h
    split at h
    · rename_i C1 bm k0 k1 k2 k3 n k5 hm hs
      simp only [Bool.and_eq_true, decide_eq_true_eq, Bool.not_eq_true'] at h ht
      obtain ⟨rfl, hb, hd, hl, rfl⟩ := h
      subst ht
      obtain ⟨nm, bs, mro, ns, qn, hdc, sn, sub, ab, col, dl⟩ := cd
      dsimp only at hm hd hl
      subst hm hd hl
      obtain ⟨l⟩ := sl
      dsimp only at hs
      subst hs
      exact ⟨nm, qn, ns, bs, bm, sn, sub, ab, col, od, k0, k1, k2, k3, k5, ho, hb⟩
    · cases h
  · cases h
def fa0 : List Fa := [.glo "whole", .glo "coin_row", .glo "named", .glo "read_word", .glo "parts_of", .glo "shuffled", .glo "pour_drawers", .glo "pour_weighers", .glo "is_below", .glo "is_node", .glo "led_on", .glo "coins_to_gives", .glo "checked", .glo "walked", .glo "number_in", .glo "node_in", .glo "read_program", .glo "_law_cell", .glo "_law_numbers", .glo "_law_only"]
def fa1 : List Fa := [.glo "_law_names", .glo "_law_draw", .glo "_law_go", .glo "_law_see", .glo "_law_cut", .glo "_law_new", .glo "_law_kept", .glo "_law_draws", .glo "_law_shuffled", .glo "_law_poured", .glo "_law_pour", .glo "_law_beyond", .glo "_law_told", .glo "_law_row", .glo "_law_answered", .glo "_law_left", .glo "law", .glo "Purse", .glo "Drawer", .glo "Weigher"]
def fa2 : List Fa := [.glo "Desk", .glo "Keeper", .glo "EvenError", .glo "KINDS", .glo "NoProgram", .glo "NoText", .glo "Short", .glo "NoWeights", .glo "NoDraw", .glo "NoRow", .glo "NoName", .free "len", .free "all", .free "any", .free "int", .free "bool", .free "str", .free "list", .free "range", .free "min"]
def fa3 : List Fa := [.free "max", .free "abs", .free "isinstance", .free "sum", .free "tuple", .free "zip", .free "ValueError", .str "LETTERS" "abcdefghijklmnopqrstuvwxyz", .str "FIGURES_deskwords" "0123456789", .str "FIGURES_programtexts" "0123456789", .int "THINGS" 100, .cls "Purse", .noat "Purse" "room", .noat "Purse" "coins", .noat "Purse" "used", .noat "Purse" "size", .noat "Purse" "number", .meth "Purse" "put", .meth "Purse" "drawn", .meth "Purse" "draws"]
def fa4 : List Fa := [.meth "Purse" "draw", .meth "Purse" "there", .meth "Purse" "take", .meth "Purse" "left", .mkr "Purse", .cls "Drawer", .noat "Drawer" "purse", .noat "Drawer" "things", .noat "Drawer" "count", .noat "Drawer" "most", .meth "Drawer" "see", .meth "Drawer" "cut", .meth "Drawer" "seen", .meth "Drawer" "held", .mkr "Drawer", .cls "Weigher", .noat "Weigher" "purse", .noat "Weigher" "things", .noat "Weigher" "count", .noat "Weigher" "total"]
def fa5 : List Fa := [.meth "Weigher" "see", .meth "Weigher" "seen", .meth "Weigher" "held", .meth "Weigher" "weight", .mkr "Weigher", .cls "Desk", .noat "Desk" "purse", .noat "Desk" "programs", .noat "Desk" "keepers", .meth "Desk" "say", .meth "Desk" "program_by", .meth "Desk" "keeper_by", .meth "Desk" "drawer_by", .meth "Desk" "weigher_by", .meth "Desk" "on_program", .meth "Desk" "on_coins", .meth "Desk" "on_keeper", .meth "Desk" "made", .mkr "Desk", .exc "NoDraw"]
def fa6 : List Fa := [.exc "NoName", .exm "Short" "EvenError" true, .exm "NoDraw" "EvenError" true, .exm "NoName" "EvenError" true]
def faL : List Fa := fa0 ++ (fa1 ++ (fa2 ++ (fa3 ++ (fa4 ++ (fa5 ++ (fa6))))))
def fn0 : List DefD := [d_whole, d_coin_row, d_named, d_read_word, d_parts_of, d_shuffled, d_pour_drawers, d_pour_weighers, d_is_below, d_is_node, d_led_on, d_coins_to_gives, d_checked, d_walked, d_number_in, d_node_in, d_read_program, d__law_cell, d__law_numbers, d__law_only]
def fn1 : List DefD := [d__law_names, d__law_draw, d__law_go, d__law_see, d__law_cut, d__law_new, d__law_kept, d__law_draws, d__law_shuffled, d__law_poured, d__law_pour, d__law_beyond, d__law_told, d__law_row, d__law_answered, d__law_left, d_law, d_Short_init, d_Keeper_init, d_Keeper_seen]
def fn2 : List DefD := [d_Keeper_held, d_Drawer_init, d_Drawer_see, d_Drawer_cut, d_Weigher_init, d_Weigher_weight, d_Weigher_see, d_Purse_init, d_Purse_put, d_Purse_drawn, d_Purse_draws, d_Purse_draw, d_Purse_there, d_Purse_take, d_Purse_left, d_Desk_init, d_Desk_say, d_Desk_program_by, d_Desk_keeper_by, d_Desk_drawer_by]
def fn3 : List DefD := [d_Desk_weigher_by, d_Desk_on_program, d_Desk_on_coins, d_Desk_on_keeper, d_Desk_made]
def fnL : List DefD := fn0 ++ (fn1 ++ (fn2 ++ (fn3)))
def ex0 : List (PySem.W.Frag → Bool) := [fun K => decide (ma K (ga K "Drawer") "seen" = ma K (ga K "Keeper") "seen"),
  fun K => decide (ma K (ga K "Weigher") "seen" = ma K (ga K "Keeper") "seen"),
  fun K => decide (ma K (ga K "Drawer") "held" = ma K (ga K "Keeper") "held"),
  fun K => decide (ma K (ga K "Weigher") "held" = ma K (ga K "Keeper") "held"),
  fun K => PySem.W.readsIn K (ga K "Keeper") (.type "type"),
  fun K => decide (PySem.W.specialIn K (.ref (ga K "Keeper")) "__getattribute__" = some (some (.builtin "type.__getattribute__"))),
  fun K => PySem.W.readsIn K (ga K "EvenError") (.type "type"),
  fun K => decide (PySem.W.specialIn K (.ref (ga K "EvenError")) "__getattribute__" = some (some (.builtin "type.__getattribute__"))),
  fun K => fcB K (ga K "Keeper") "__init__" (.ref (ma K (ga K "Keeper") "__init__")),
  fun K => fcB K (ga K "EvenError") "__init__" (.builtin "ValueError.__init__"),
  fun K => decide (PySem.W.findIn K (.ref (ga K "Short")) "__setattr__" = some (some (.builtin "object.__setattr__"))),
  fun K => decide (PySem.W.subIn K (.ref (ga K "Short")) (.type "BaseException") = some true),
  fun K => decide (PySem.W.typeIn K (.ref (ga K "Short")) = some (.type "type")),
  fun K => PySem.W.keepIn K (.ref (ga K "Short")),
  fun K => oexB K (ga K "Short")]
def ex1 : List (PySem.W.Frag → Bool) := [fun K => decide (PySem.W.findIn K (.ref (ga K "Short")) "spent" = some none),
  fun K => decide (PySem.W.findIn K (.ref (ga K "Short")) "__init__" = some (some (.ref (ma K (ga K "Short") "__init__")))),
  fun K => decide (PySem.W.typeIn K (.ref (ma K (ga K "Short") "__init__")) = some (.type "function")),
  fun K => decide (PySem.W.findIn K (.ref (ga K "Short")) "__getattribute__" = some (some (.builtin "BaseException.__getattribute__"))),
  fun K => decide (PySem.W.findIn K (.ref (ga K "Short")) "__getattr__" = some none),
  fun K => decide (PySem.W.subIn K (.ref (ga K "Short")) (.type "BaseException") = some true),
  fun K => PySem.W.hasDictIn K (ga K "Short"),
  fun K => decide (PySem.W.findIn K (.ref (ga K "Short")) "__class__" = some (some (.builtin "object.__class__"))),
  fun K => decide (PySem.W.mroIn K (ga K "Short") (.type "object") = some true),
  fun K => decide (PySem.W.kitOne K (.ref (ga K "Short")) (.ref (ga K "NoProgram")) = some false),
  fun K => decide (PySem.W.kitOne K (.ref (ga K "Short")) (.ref (ga K "NoText")) = some false),
  fun K => decide (PySem.W.kitOne K (.ref (ga K "Short")) (.ref (ga K "Short")) = some true),
  fun K => decide (PySem.W.kitOne K (.ref (ga K "Short")) (.ref (ga K "NoWeights")) = some false),
  fun K => decide (PySem.W.kitOne K (.ref (ga K "Short")) (.ref (ga K "NoDraw")) = some false),
  fun K => decide (PySem.W.kitOne K (.ref (ga K "Short")) (.ref (ga K "NoRow")) = some false)]
def ex2 : List (PySem.W.Frag → Bool) := [fun K => decide (PySem.W.kitOne K (.ref (ga K "Short")) (.ref (ga K "NoName")) = some false),
  fun K => decide (PySem.W.kitOne K (.ref (ga K "Short")) (.type "ValueError") = some true),
  fun K => decide (PySem.W.findIn K (.ref (ga K "NoDraw")) "__getattribute__" = some (some (.builtin "BaseException.__getattribute__"))),
  fun K => decide (PySem.W.findIn K (.ref (ga K "NoDraw")) "__getattr__" = some none),
  fun K => decide (PySem.W.subIn K (.ref (ga K "NoDraw")) (.type "BaseException") = some true),
  fun K => PySem.W.hasDictIn K (ga K "NoDraw"),
  fun K => decide (PySem.W.findIn K (.ref (ga K "NoDraw")) "__class__" = some (some (.builtin "object.__class__"))),
  fun K => decide (PySem.W.mroIn K (ga K "NoDraw") (.type "object") = some true),
  fun K => decide (PySem.W.kitOne K (.ref (ga K "NoDraw")) (.ref (ga K "NoProgram")) = some false),
  fun K => decide (PySem.W.kitOne K (.ref (ga K "NoDraw")) (.ref (ga K "NoText")) = some false),
  fun K => decide (PySem.W.kitOne K (.ref (ga K "NoDraw")) (.ref (ga K "Short")) = some false),
  fun K => decide (PySem.W.kitOne K (.ref (ga K "NoDraw")) (.ref (ga K "NoWeights")) = some false),
  fun K => decide (PySem.W.kitOne K (.ref (ga K "NoDraw")) (.ref (ga K "NoDraw")) = some true),
  fun K => decide (PySem.W.kitOne K (.ref (ga K "NoDraw")) (.ref (ga K "NoRow")) = some false),
  fun K => decide (PySem.W.kitOne K (.ref (ga K "NoDraw")) (.ref (ga K "NoName")) = some false)]
def ex3 : List (PySem.W.Frag → Bool) := [fun K => decide (PySem.W.kitOne K (.ref (ga K "NoDraw")) (.type "ValueError") = some true),
  fun K => decide (PySem.W.findIn K (.ref (ga K "NoName")) "__getattribute__" = some (some (.builtin "BaseException.__getattribute__"))),
  fun K => decide (PySem.W.findIn K (.ref (ga K "NoName")) "__getattr__" = some none),
  fun K => decide (PySem.W.subIn K (.ref (ga K "NoName")) (.type "BaseException") = some true),
  fun K => PySem.W.hasDictIn K (ga K "NoName"),
  fun K => decide (PySem.W.findIn K (.ref (ga K "NoName")) "__class__" = some (some (.builtin "object.__class__"))),
  fun K => decide (PySem.W.mroIn K (ga K "NoName") (.type "object") = some true),
  fun K => decide (PySem.W.kitOne K (.ref (ga K "NoName")) (.ref (ga K "NoProgram")) = some false),
  fun K => decide (PySem.W.kitOne K (.ref (ga K "NoName")) (.ref (ga K "NoText")) = some false),
  fun K => decide (PySem.W.kitOne K (.ref (ga K "NoName")) (.ref (ga K "Short")) = some false),
  fun K => decide (PySem.W.kitOne K (.ref (ga K "NoName")) (.ref (ga K "NoWeights")) = some false),
  fun K => decide (PySem.W.kitOne K (.ref (ga K "NoName")) (.ref (ga K "NoDraw")) = some false),
  fun K => decide (PySem.W.kitOne K (.ref (ga K "NoName")) (.ref (ga K "NoRow")) = some false),
  fun K => decide (PySem.W.kitOne K (.ref (ga K "NoName")) (.ref (ga K "NoName")) = some true),
  fun K => decide (PySem.W.kitOne K (.ref (ga K "NoName")) (.type "ValueError") = some true)]
def ex4 : List (PySem.W.Frag → Bool) := [fun K => decide (PySem.W.specialIn K (.builtin "object.__class__") "__get__" = some (some (.builtin "getset_descriptor.__get__"))),
  fun K => decide (PySem.W.takesIn K (.builtin "object.__class__") = some true),
  fun K => decide (PySem.W.kitOne K (.ref (ga K "Drawer")) (.ref (ga K "Drawer")) = some true),
  fun K => decide (PySem.W.kitOne K (.ref (ga K "Drawer")) (.ref (ga K "Weigher")) = some false),
  fun K => decide (PySem.W.kitOne K (.ref (ga K "Weigher")) (.ref (ga K "Drawer")) = some false),
  fun K => decide (PySem.W.kitOne K (.ref (ga K "Weigher")) (.ref (ga K "Weigher")) = some true),
  fun K => decide (PySem.W.findIn K (.ref (ga K "Drawer")) "__class__" = some (some (.builtin "object.__class__"))),
  fun K => decide (PySem.W.mroIn K (ga K "Drawer") (.type "object") = some true),
  fun K => decide (PySem.W.findIn K (.ref (ga K "Weigher")) "__class__" = some (some (.builtin "object.__class__"))),
  fun K => decide (PySem.W.mroIn K (ga K "Weigher") (.type "object") = some true),
  fun K => valsB K (ga K "KINDS") kindsV]
def exL : List (PySem.W.Frag → Bool) := ex0 ++ (ex1 ++ (ex2 ++ (ex3 ++ (ex4))))
/-- what the head leaves, as the walk takes it -/
structure Says (w : World) (K : PySem.W.Frag) : Prop where
  t : SaysT faL fnL [kindsT] w K
  x : (exL.all fun f => f K) = true
structure Tx (w : World) (K : PySem.W.Frag) (mg : Str → Option Value) (h : Heap) : Prop where
  X : K.In h
  G : h.Ns mainGlobals mg
  c : Says w K
section
variable {w : World} {K : PySem.W.Frag} {mg : Str → Option Value} {h : Heap}
theorem Tx.fact (T : Tx w K mg h) (i : Nat) {f : Fa} (e : faL[i]? = some f := by rfl) : f.ok K = true := T.c.t.d.fact i e
theorem Tx.ex (T : Tx w K mg h) (i : Nat) {f : PySem.W.Frag → Bool} (e : exL[i]? = some f := by rfl) : f K = true := List.all_eq_true.mp T.c.x f (List.mem_of_getElem? e)
theorem str_ex (X : K.In h) (G : h.Ns mainGlobals mg) {x z : Str} (c : (Fa.str x z).ok K = true) : ∃ u, mg x = some u ∧ RelV (.str z) u := by
  obtain ⟨t, e⟩ := str_ok X G c
  exact ⟨_, e, t, rfl⟩
theorem int_ex (X : K.In h) (G : h.Ns mainGlobals mg) {x : Str} {i : Int} (c : (Fa.int x i).ok K = true) : ∃ u, mg x = some u ∧ RelV (.int i) u := by
  obtain ⟨t, e⟩ := int_ok X G c
  exact ⟨_, e, t, rfl⟩
variable (T : Tx w K mg h)
include T
theorem Tx.gl_whole : mg "whole" = some (.ref (ga K "whole")) := glo_ok T.X T.G (T.fact 0 (f := .glo "whole"))
theorem Tx.gl_coin_row : mg "coin_row" = some (.ref (ga K "coin_row")) := glo_ok T.X T.G (T.fact 1 (f := .glo "coin_row"))
theorem Tx.gl_named : mg "named" = some (.ref (ga K "named")) := glo_ok T.X T.G (T.fact 2 (f := .glo "named"))
theorem Tx.gl_read_word : mg "read_word" = some (.ref (ga K "read_word")) := glo_ok T.X T.G (T.fact 3 (f := .glo "read_word"))
theorem Tx.gl_parts_of : mg "parts_of" = some (.ref (ga K "parts_of")) := glo_ok T.X T.G (T.fact 4 (f := .glo "parts_of"))
theorem Tx.gl_shuffled : mg "shuffled" = some (.ref (ga K "shuffled")) := glo_ok T.X T.G (T.fact 5 (f := .glo "shuffled"))
theorem Tx.gl_pour_drawers : mg "pour_drawers" = some (.ref (ga K "pour_drawers")) := glo_ok T.X T.G (T.fact 6 (f := .glo "pour_drawers"))
theorem Tx.gl_pour_weighers : mg "pour_weighers" = some (.ref (ga K "pour_weighers")) := glo_ok T.X T.G (T.fact 7 (f := .glo "pour_weighers"))
theorem Tx.gl_is_below : mg "is_below" = some (.ref (ga K "is_below")) := glo_ok T.X T.G (T.fact 8 (f := .glo "is_below"))
theorem Tx.gl_is_node : mg "is_node" = some (.ref (ga K "is_node")) := glo_ok T.X T.G (T.fact 9 (f := .glo "is_node"))
theorem Tx.gl_led_on : mg "led_on" = some (.ref (ga K "led_on")) := glo_ok T.X T.G (T.fact 10 (f := .glo "led_on"))
theorem Tx.gl_coins_to_gives : mg "coins_to_gives" = some (.ref (ga K "coins_to_gives")) := glo_ok T.X T.G (T.fact 11 (f := .glo "coins_to_gives"))
theorem Tx.gl_checked : mg "checked" = some (.ref (ga K "checked")) := glo_ok T.X T.G (T.fact 12 (f := .glo "checked"))
theorem Tx.gl_walked : mg "walked" = some (.ref (ga K "walked")) := glo_ok T.X T.G (T.fact 13 (f := .glo "walked"))
theorem Tx.gl_number_in : mg "number_in" = some (.ref (ga K "number_in")) := glo_ok T.X T.G (T.fact 14 (f := .glo "number_in"))
theorem Tx.gl_node_in : mg "node_in" = some (.ref (ga K "node_in")) := glo_ok T.X T.G (T.fact 15 (f := .glo "node_in"))
theorem Tx.gl_read_program : mg "read_program" = some (.ref (ga K "read_program")) := glo_ok T.X T.G (T.fact 16 (f := .glo "read_program"))
theorem Tx.gl__law_cell : mg "_law_cell" = some (.ref (ga K "_law_cell")) := glo_ok T.X T.G (T.fact 17 (f := .glo "_law_cell"))
theorem Tx.gl__law_numbers : mg "_law_numbers" = some (.ref (ga K "_law_numbers")) := glo_ok T.X T.G (T.fact 18 (f := .glo "_law_numbers"))
theorem Tx.gl__law_only : mg "_law_only" = some (.ref (ga K "_law_only")) := glo_ok T.X T.G (T.fact 19 (f := .glo "_law_only"))
theorem Tx.gl__law_names : mg "_law_names" = some (.ref (ga K "_law_names")) := glo_ok T.X T.G (T.fact 20 (f := .glo "_law_names"))
theorem Tx.gl__law_draw : mg "_law_draw" = some (.ref (ga K "_law_draw")) := glo_ok T.X T.G (T.fact 21 (f := .glo "_law_draw"))
theorem Tx.gl__law_go : mg "_law_go" = some (.ref (ga K "_law_go")) := glo_ok T.X T.G (T.fact 22 (f := .glo "_law_go"))
theorem Tx.gl__law_see : mg "_law_see" = some (.ref (ga K "_law_see")) := glo_ok T.X T.G (T.fact 23 (f := .glo "_law_see"))
theorem Tx.gl__law_cut : mg "_law_cut" = some (.ref (ga K "_law_cut")) := glo_ok T.X T.G (T.fact 24 (f := .glo "_law_cut"))
theorem Tx.gl__law_new : mg "_law_new" = some (.ref (ga K "_law_new")) := glo_ok T.X T.G (T.fact 25 (f := .glo "_law_new"))
theorem Tx.gl__law_kept : mg "_law_kept" = some (.ref (ga K "_law_kept")) := glo_ok T.X T.G (T.fact 26 (f := .glo "_law_kept"))
theorem Tx.gl__law_draws : mg "_law_draws" = some (.ref (ga K "_law_draws")) := glo_ok T.X T.G (T.fact 27 (f := .glo "_law_draws"))
theorem Tx.gl__law_shuffled : mg "_law_shuffled" = some (.ref (ga K "_law_shuffled")) := glo_ok T.X T.G (T.fact 28 (f := .glo "_law_shuffled"))
theorem Tx.gl__law_poured : mg "_law_poured" = some (.ref (ga K "_law_poured")) := glo_ok T.X T.G (T.fact 29 (f := .glo "_law_poured"))
theorem Tx.gl__law_pour : mg "_law_pour" = some (.ref (ga K "_law_pour")) := glo_ok T.X T.G (T.fact 30 (f := .glo "_law_pour"))
theorem Tx.gl__law_beyond : mg "_law_beyond" = some (.ref (ga K "_law_beyond")) := glo_ok T.X T.G (T.fact 31 (f := .glo "_law_beyond"))
theorem Tx.gl__law_told : mg "_law_told" = some (.ref (ga K "_law_told")) := glo_ok T.X T.G (T.fact 32 (f := .glo "_law_told"))
theorem Tx.gl__law_row : mg "_law_row" = some (.ref (ga K "_law_row")) := glo_ok T.X T.G (T.fact 33 (f := .glo "_law_row"))
theorem Tx.gl__law_answered : mg "_law_answered" = some (.ref (ga K "_law_answered")) := glo_ok T.X T.G (T.fact 34 (f := .glo "_law_answered"))
theorem Tx.gl__law_left : mg "_law_left" = some (.ref (ga K "_law_left")) := glo_ok T.X T.G (T.fact 35 (f := .glo "_law_left"))
theorem Tx.gl_law : mg "law" = some (.ref (ga K "law")) := glo_ok T.X T.G (T.fact 36 (f := .glo "law"))
theorem Tx.gl_Purse : mg "Purse" = some (.ref (ga K "Purse")) := glo_ok T.X T.G (T.fact 37 (f := .glo "Purse"))
theorem Tx.gl_Drawer : mg "Drawer" = some (.ref (ga K "Drawer")) := glo_ok T.X T.G (T.fact 38 (f := .glo "Drawer"))
theorem Tx.gl_Weigher : mg "Weigher" = some (.ref (ga K "Weigher")) := glo_ok T.X T.G (T.fact 39 (f := .glo "Weigher"))
theorem Tx.gl_Desk : mg "Desk" = some (.ref (ga K "Desk")) := glo_ok T.X T.G (T.fact 40 (f := .glo "Desk"))
theorem Tx.gl_Keeper : mg "Keeper" = some (.ref (ga K "Keeper")) := glo_ok T.X T.G (T.fact 41 (f := .glo "Keeper"))
theorem Tx.gl_EvenError : mg "EvenError" = some (.ref (ga K "EvenError")) := glo_ok T.X T.G (T.fact 42 (f := .glo "EvenError"))
theorem Tx.gl_KINDS : mg "KINDS" = some (.ref (ga K "KINDS")) := glo_ok T.X T.G (T.fact 43 (f := .glo "KINDS"))
theorem Tx.gl_NoProgram : mg "NoProgram" = some (.ref (ga K "NoProgram")) := glo_ok T.X T.G (T.fact 44 (f := .glo "NoProgram"))
theorem Tx.gl_NoText : mg "NoText" = some (.ref (ga K "NoText")) := glo_ok T.X T.G (T.fact 45 (f := .glo "NoText"))
theorem Tx.gl_Short : mg "Short" = some (.ref (ga K "Short")) := glo_ok T.X T.G (T.fact 46 (f := .glo "Short"))
theorem Tx.gl_NoWeights : mg "NoWeights" = some (.ref (ga K "NoWeights")) := glo_ok T.X T.G (T.fact 47 (f := .glo "NoWeights"))
theorem Tx.gl_NoDraw : mg "NoDraw" = some (.ref (ga K "NoDraw")) := glo_ok T.X T.G (T.fact 48 (f := .glo "NoDraw"))
theorem Tx.gl_NoRow : mg "NoRow" = some (.ref (ga K "NoRow")) := glo_ok T.X T.G (T.fact 49 (f := .glo "NoRow"))
theorem Tx.gl_NoName : mg "NoName" = some (.ref (ga K "NoName")) := glo_ok T.X T.G (T.fact 50 (f := .glo "NoName"))
theorem Tx.fr_len : mg "len" = none := free_ok T.X T.G (T.fact 51 (f := .free "len"))
theorem Tx.fr_all : mg "all" = none := free_ok T.X T.G (T.fact 52 (f := .free "all"))
theorem Tx.fr_any : mg "any" = none := free_ok T.X T.G (T.fact 53 (f := .free "any"))
theorem Tx.fr_int : mg "int" = none := free_ok T.X T.G (T.fact 54 (f := .free "int"))
theorem Tx.fr_bool : mg "bool" = none := free_ok T.X T.G (T.fact 55 (f := .free "bool"))
theorem Tx.fr_str : mg "str" = none := free_ok T.X T.G (T.fact 56 (f := .free "str"))
theorem Tx.fr_list : mg "list" = none := free_ok T.X T.G (T.fact 57 (f := .free "list"))
theorem Tx.fr_range : mg "range" = none := free_ok T.X T.G (T.fact 58 (f := .free "range"))
theorem Tx.fr_min : mg "min" = none := free_ok T.X T.G (T.fact 59 (f := .free "min"))
theorem Tx.fr_max : mg "max" = none := free_ok T.X T.G (T.fact 60 (f := .free "max"))
theorem Tx.fr_abs : mg "abs" = none := free_ok T.X T.G (T.fact 61 (f := .free "abs"))
theorem Tx.fr_isinstance : mg "isinstance" = none := free_ok T.X T.G (T.fact 62 (f := .free "isinstance"))
theorem Tx.fr_sum : mg "sum" = none := free_ok T.X T.G (T.fact 63 (f := .free "sum"))
theorem Tx.fr_tuple : mg "tuple" = none := free_ok T.X T.G (T.fact 64 (f := .free "tuple"))
theorem Tx.fr_zip : mg "zip" = none := free_ok T.X T.G (T.fact 65 (f := .free "zip"))
theorem Tx.fr_ValueError : mg "ValueError" = none := free_ok T.X T.G (T.fact 66 (f := .free "ValueError"))
theorem Tx.st_LETTERS : ∃ u, mg "LETTERS" = some u ∧ RelV (.str "abcdefghijklmnopqrstuvwxyz") u := str_ex T.X T.G (T.fact 67 (f := .str "LETTERS" "abcdefghijklmnopqrstuvwxyz"))
theorem Tx.st_FIGURES_deskwords : ∃ u, mg "FIGURES_deskwords" = some u ∧ RelV (.str "0123456789") u := str_ex T.X T.G (T.fact 68 (f := .str "FIGURES_deskwords" "0123456789"))
theorem Tx.st_FIGURES_programtexts : ∃ u, mg "FIGURES_programtexts" = some u ∧ RelV (.str "0123456789") u := str_ex T.X T.G (T.fact 69 (f := .str "FIGURES_programtexts" "0123456789"))
theorem Tx.in_THINGS : ∃ u, mg "THINGS" = some u ∧ RelV (.int 100) u := int_ex T.X T.G (T.fact 70 (f := .int "THINGS" 100))
theorem Tx.cs_Purse : Cls K (ga K "Purse") := cls_ok (T.fact 71 (f := .cls "Purse"))
theorem Tx.na_Purse_room : NoAttr K (ga K "Purse") "room" := noat_ok (T.fact 72 (f := .noat "Purse" "room"))
theorem Tx.na_Purse_coins : NoAttr K (ga K "Purse") "coins" := noat_ok (T.fact 73 (f := .noat "Purse" "coins"))
theorem Tx.na_Purse_used : NoAttr K (ga K "Purse") "used" := noat_ok (T.fact 74 (f := .noat "Purse" "used"))
theorem Tx.na_Purse_size : NoAttr K (ga K "Purse") "size" := noat_ok (T.fact 75 (f := .noat "Purse" "size"))
theorem Tx.na_Purse_number : NoAttr K (ga K "Purse") "number" := noat_ok (T.fact 76 (f := .noat "Purse" "number"))
theorem Tx.me_Purse_put : Meth K (ga K "Purse") "put" (ma K (ga K "Purse") "put") := meth_ok (T.fact 77 (f := .meth "Purse" "put"))
theorem Tx.me_Purse_drawn : Meth K (ga K "Purse") "drawn" (ma K (ga K "Purse") "drawn") := meth_ok (T.fact 78 (f := .meth "Purse" "drawn"))
theorem Tx.me_Purse_draws : Meth K (ga K "Purse") "draws" (ma K (ga K "Purse") "draws") := meth_ok (T.fact 79 (f := .meth "Purse" "draws"))
theorem Tx.me_Purse_draw : Meth K (ga K "Purse") "draw" (ma K (ga K "Purse") "draw") := meth_ok (T.fact 80 (f := .meth "Purse" "draw"))
theorem Tx.me_Purse_there : Meth K (ga K "Purse") "there" (ma K (ga K "Purse") "there") := meth_ok (T.fact 81 (f := .meth "Purse" "there"))
theorem Tx.me_Purse_take : Meth K (ga K "Purse") "take" (ma K (ga K "Purse") "take") := meth_ok (T.fact 82 (f := .meth "Purse" "take"))
theorem Tx.me_Purse_left : Meth K (ga K "Purse") "left" (ma K (ga K "Purse") "left") := meth_ok (T.fact 83 (f := .meth "Purse" "left"))
theorem Tx.mk_Purse : Mk K (ga K "Purse") (ma K (ga K "Purse") "__init__") := mkr_ok (T.fact 84 (f := .mkr "Purse"))
theorem Tx.cs_Drawer : Cls K (ga K "Drawer") := cls_ok (T.fact 85 (f := .cls "Drawer"))
theorem Tx.na_Drawer_purse : NoAttr K (ga K "Drawer") "purse" := noat_ok (T.fact 86 (f := .noat "Drawer" "purse"))
theorem Tx.na_Drawer_things : NoAttr K (ga K "Drawer") "things" := noat_ok (T.fact 87 (f := .noat "Drawer" "things"))
theorem Tx.na_Drawer_count : NoAttr K (ga K "Drawer") "count" := noat_ok (T.fact 88 (f := .noat "Drawer" "count"))
theorem Tx.na_Drawer_most : NoAttr K (ga K "Drawer") "most" := noat_ok (T.fact 89 (f := .noat "Drawer" "most"))
theorem Tx.me_Drawer_see : Meth K (ga K "Drawer") "see" (ma K (ga K "Drawer") "see") := meth_ok (T.fact 90 (f := .meth "Drawer" "see"))
theorem Tx.me_Drawer_cut : Meth K (ga K "Drawer") "cut" (ma K (ga K "Drawer") "cut") := meth_ok (T.fact 91 (f := .meth "Drawer" "cut"))
theorem Tx.me_Drawer_seen : Meth K (ga K "Drawer") "seen" (ma K (ga K "Drawer") "seen") := meth_ok (T.fact 92 (f := .meth "Drawer" "seen"))
theorem Tx.me_Drawer_held : Meth K (ga K "Drawer") "held" (ma K (ga K "Drawer") "held") := meth_ok (T.fact 93 (f := .meth "Drawer" "held"))
theorem Tx.mk_Drawer : Mk K (ga K "Drawer") (ma K (ga K "Drawer") "__init__") := mkr_ok (T.fact 94 (f := .mkr "Drawer"))
theorem Tx.cs_Weigher : Cls K (ga K "Weigher") := cls_ok (T.fact 95 (f := .cls "Weigher"))
theorem Tx.na_Weigher_purse : NoAttr K (ga K "Weigher") "purse" := noat_ok (T.fact 96 (f := .noat "Weigher" "purse"))
theorem Tx.na_Weigher_things : NoAttr K (ga K "Weigher") "things" := noat_ok (T.fact 97 (f := .noat "Weigher" "things"))
theorem Tx.na_Weigher_count : NoAttr K (ga K "Weigher") "count" := noat_ok (T.fact 98 (f := .noat "Weigher" "count"))
theorem Tx.na_Weigher_total : NoAttr K (ga K "Weigher") "total" := noat_ok (T.fact 99 (f := .noat "Weigher" "total"))
theorem Tx.me_Weigher_see : Meth K (ga K "Weigher") "see" (ma K (ga K "Weigher") "see") := meth_ok (T.fact 100 (f := .meth "Weigher" "see"))
theorem Tx.me_Weigher_seen : Meth K (ga K "Weigher") "seen" (ma K (ga K "Weigher") "seen") := meth_ok (T.fact 101 (f := .meth "Weigher" "seen"))
theorem Tx.me_Weigher_held : Meth K (ga K "Weigher") "held" (ma K (ga K "Weigher") "held") := meth_ok (T.fact 102 (f := .meth "Weigher" "held"))
theorem Tx.me_Weigher_weight : Meth K (ga K "Weigher") "weight" (ma K (ga K "Weigher") "weight") := meth_ok (T.fact 103 (f := .meth "Weigher" "weight"))
theorem Tx.mk_Weigher : Mk K (ga K "Weigher") (ma K (ga K "Weigher") "__init__") := mkr_ok (T.fact 104 (f := .mkr "Weigher"))
theorem Tx.cs_Desk : Cls K (ga K "Desk") := cls_ok (T.fact 105 (f := .cls "Desk"))
theorem Tx.na_Desk_purse : NoAttr K (ga K "Desk") "purse" := noat_ok (T.fact 106 (f := .noat "Desk" "purse"))
theorem Tx.na_Desk_programs : NoAttr K (ga K "Desk") "programs" := noat_ok (T.fact 107 (f := .noat "Desk" "programs"))
theorem Tx.na_Desk_keepers : NoAttr K (ga K "Desk") "keepers" := noat_ok (T.fact 108 (f := .noat "Desk" "keepers"))
theorem Tx.me_Desk_say : Meth K (ga K "Desk") "say" (ma K (ga K "Desk") "say") := meth_ok (T.fact 109 (f := .meth "Desk" "say"))
theorem Tx.me_Desk_program_by : Meth K (ga K "Desk") "program_by" (ma K (ga K "Desk") "program_by") := meth_ok (T.fact 110 (f := .meth "Desk" "program_by"))
theorem Tx.me_Desk_keeper_by : Meth K (ga K "Desk") "keeper_by" (ma K (ga K "Desk") "keeper_by") := meth_ok (T.fact 111 (f := .meth "Desk" "keeper_by"))
theorem Tx.me_Desk_drawer_by : Meth K (ga K "Desk") "drawer_by" (ma K (ga K "Desk") "drawer_by") := meth_ok (T.fact 112 (f := .meth "Desk" "drawer_by"))
theorem Tx.me_Desk_weigher_by : Meth K (ga K "Desk") "weigher_by" (ma K (ga K "Desk") "weigher_by") := meth_ok (T.fact 113 (f := .meth "Desk" "weigher_by"))
theorem Tx.me_Desk_on_program : Meth K (ga K "Desk") "on_program" (ma K (ga K "Desk") "on_program") := meth_ok (T.fact 114 (f := .meth "Desk" "on_program"))
theorem Tx.me_Desk_on_coins : Meth K (ga K "Desk") "on_coins" (ma K (ga K "Desk") "on_coins") := meth_ok (T.fact 115 (f := .meth "Desk" "on_coins"))
theorem Tx.me_Desk_on_keeper : Meth K (ga K "Desk") "on_keeper" (ma K (ga K "Desk") "on_keeper") := meth_ok (T.fact 116 (f := .meth "Desk" "on_keeper"))
theorem Tx.me_Desk_made : Meth K (ga K "Desk") "made" (ma K (ga K "Desk") "made") := meth_ok (T.fact 117 (f := .meth "Desk" "made"))
theorem Tx.mk_Desk : Mk K (ga K "Desk") (ma K (ga K "Desk") "__init__") := mkr_ok (T.fact 118 (f := .mkr "Desk"))
theorem Tx.ex_NoDraw : PySem.W.excIn K (ga K "NoDraw") veBase "ValueError.__new__" = true ∧ PySem.W.keepIn K (.ref (ga K "NoDraw")) = true ∧ PySem.W.subIn K (.ref (ga K "NoDraw")) (.type "BaseException") = some true ∧ PySem.W.typeIn K (.ref (ga K "NoDraw")) = some (.type "type") := exc_ok (T.fact 119 (f := .exc "NoDraw"))
theorem Tx.ex_NoName : PySem.W.excIn K (ga K "NoName") veBase "ValueError.__new__" = true ∧ PySem.W.keepIn K (.ref (ga K "NoName")) = true ∧ PySem.W.subIn K (.ref (ga K "NoName")) (.type "BaseException") = some true ∧ PySem.W.typeIn K (.ref (ga K "NoName")) = some (.type "type") := exc_ok (T.fact 120 (f := .exc "NoName"))
theorem Tx.em_Short : PySem.W.exmOne K (.ref (ga K "Short")) (.ref (ga K "EvenError")) = some true := exm_ok (T.fact 121 (f := .exm "Short" "EvenError" true))
theorem Tx.em_NoDraw : PySem.W.exmOne K (.ref (ga K "NoDraw")) (.ref (ga K "EvenError")) = some true := exm_ok (T.fact 122 (f := .exm "NoDraw" "EvenError" true))
theorem Tx.em_NoName : PySem.W.exmOne K (.ref (ga K "NoName")) (.ref (ga K "EvenError")) = some true := exm_ok (T.fact 123 (f := .exm "NoName" "EvenError" true))
theorem Tx.eq_Drawer_seen : ma K (ga K "Drawer") "seen" = ma K (ga K "Keeper") "seen" := of_decide_eq_true (T.ex 0)
theorem Tx.eq_Weigher_seen : ma K (ga K "Weigher") "seen" = ma K (ga K "Keeper") "seen" := of_decide_eq_true (T.ex 1)
theorem Tx.eq_Drawer_held : ma K (ga K "Drawer") "held" = ma K (ga K "Keeper") "held" := of_decide_eq_true (T.ex 2)
theorem Tx.eq_Weigher_held : ma K (ga K "Weigher") "held" = ma K (ga K "Keeper") "held" := of_decide_eq_true (T.ex 3)
theorem Tx.rd_Keeper : PySem.W.readsIn K (ga K "Keeper") (.type "type") = true := T.ex 4
theorem Tx.sg_Keeper : PySem.W.specialIn K (.ref (ga K "Keeper")) "__getattribute__" = some (some (.builtin "type.__getattribute__")) := of_decide_eq_true (T.ex 5)
theorem Tx.rd_EvenError : PySem.W.readsIn K (ga K "EvenError") (.type "type") = true := T.ex 6
theorem Tx.sg_EvenError : PySem.W.specialIn K (.ref (ga K "EvenError")) "__getattribute__" = some (some (.builtin "type.__getattribute__")) := of_decide_eq_true (T.ex 7)
theorem Tx.fc_Keeper : fcB K (ga K "Keeper") "__init__" (.ref (ma K (ga K "Keeper") "__init__")) = true := T.ex 8
theorem Tx.fc_EvenError : fcB K (ga K "EvenError") "__init__" (.builtin "ValueError.__init__") = true := T.ex 9
theorem Tx.sh_sa : PySem.W.findIn K (.ref (ga K "Short")) "__setattr__" = some (some (.builtin "object.__setattr__")) := of_decide_eq_true (T.ex 10)
theorem Tx.sh_ex : PySem.W.subIn K (.ref (ga K "Short")) (.type "BaseException") = some true := of_decide_eq_true (T.ex 11)
theorem Tx.sh_ty : PySem.W.typeIn K (.ref (ga K "Short")) = some (.type "type") := of_decide_eq_true (T.ex 12)
theorem Tx.sh_kp : PySem.W.keepIn K (.ref (ga K "Short")) = true := T.ex 13
theorem Tx.sh_ob : oexB K (ga K "Short") = true := T.ex 14
theorem Tx.sh_no : PySem.W.findIn K (.ref (ga K "Short")) "spent" = some none := of_decide_eq_true (T.ex 15)
theorem Tx.sh_in : PySem.W.findIn K (.ref (ga K "Short")) "__init__" = some (some (.ref (ma K (ga K "Short") "__init__"))) := of_decide_eq_true (T.ex 16)
theorem Tx.sh_tf : PySem.W.typeIn K (.ref (ma K (ga K "Short") "__init__")) = some (.type "function") := of_decide_eq_true (T.ex 17)
theorem Tx.xg_Short : PySem.W.findIn K (.ref (ga K "Short")) "__getattribute__" = some (some (.builtin "BaseException.__getattribute__")) := of_decide_eq_true (T.ex 18)
theorem Tx.xk_Short : PySem.W.findIn K (.ref (ga K "Short")) "__getattr__" = some none := of_decide_eq_true (T.ex 19)
theorem Tx.xs_Short : PySem.W.subIn K (.ref (ga K "Short")) (.type "BaseException") = some true := of_decide_eq_true (T.ex 20)
theorem Tx.xd_Short : PySem.W.hasDictIn K (ga K "Short") = true := T.ex 21
theorem Tx.xa_Short : PySem.W.findIn K (.ref (ga K "Short")) "__class__" = some (some (.builtin "object.__class__")) := of_decide_eq_true (T.ex 22)
theorem Tx.xm_Short : PySem.W.mroIn K (ga K "Short") (.type "object") = some true := of_decide_eq_true (T.ex 23)
theorem Tx.ki_Short_NoProgram : PySem.W.kitOne K (.ref (ga K "Short")) (.ref (ga K "NoProgram")) = some false := of_decide_eq_true (T.ex 24)
theorem Tx.ki_Short_NoText : PySem.W.kitOne K (.ref (ga K "Short")) (.ref (ga K "NoText")) = some false := of_decide_eq_true (T.ex 25)
theorem Tx.ki_Short_Short : PySem.W.kitOne K (.ref (ga K "Short")) (.ref (ga K "Short")) = some true := of_decide_eq_true (T.ex 26)
theorem Tx.ki_Short_NoWeights : PySem.W.kitOne K (.ref (ga K "Short")) (.ref (ga K "NoWeights")) = some false := of_decide_eq_true (T.ex 27)
theorem Tx.ki_Short_NoDraw : PySem.W.kitOne K (.ref (ga K "Short")) (.ref (ga K "NoDraw")) = some false := of_decide_eq_true (T.ex 28)
theorem Tx.ki_Short_NoRow : PySem.W.kitOne K (.ref (ga K "Short")) (.ref (ga K "NoRow")) = some false := of_decide_eq_true (T.ex 29)
theorem Tx.ki_Short_NoName : PySem.W.kitOne K (.ref (ga K "Short")) (.ref (ga K "NoName")) = some false := of_decide_eq_true (T.ex 30)
theorem Tx.ki_Short_VE : PySem.W.kitOne K (.ref (ga K "Short")) (.type "ValueError") = some true := of_decide_eq_true (T.ex 31)
theorem Tx.xg_NoDraw : PySem.W.findIn K (.ref (ga K "NoDraw")) "__getattribute__" = some (some (.builtin "BaseException.__getattribute__")) := of_decide_eq_true (T.ex 32)
theorem Tx.xk_NoDraw : PySem.W.findIn K (.ref (ga K "NoDraw")) "__getattr__" = some none := of_decide_eq_true (T.ex 33)
theorem Tx.xs_NoDraw : PySem.W.subIn K (.ref (ga K "NoDraw")) (.type "BaseException") = some true := of_decide_eq_true (T.ex 34)
theorem Tx.xd_NoDraw : PySem.W.hasDictIn K (ga K "NoDraw") = true := T.ex 35
theorem Tx.xa_NoDraw : PySem.W.findIn K (.ref (ga K "NoDraw")) "__class__" = some (some (.builtin "object.__class__")) := of_decide_eq_true (T.ex 36)
theorem Tx.xm_NoDraw : PySem.W.mroIn K (ga K "NoDraw") (.type "object") = some true := of_decide_eq_true (T.ex 37)
theorem Tx.ki_NoDraw_NoProgram : PySem.W.kitOne K (.ref (ga K "NoDraw")) (.ref (ga K "NoProgram")) = some false := of_decide_eq_true (T.ex 38)
theorem Tx.ki_NoDraw_NoText : PySem.W.kitOne K (.ref (ga K "NoDraw")) (.ref (ga K "NoText")) = some false := of_decide_eq_true (T.ex 39)
theorem Tx.ki_NoDraw_Short : PySem.W.kitOne K (.ref (ga K "NoDraw")) (.ref (ga K "Short")) = some false := of_decide_eq_true (T.ex 40)
theorem Tx.ki_NoDraw_NoWeights : PySem.W.kitOne K (.ref (ga K "NoDraw")) (.ref (ga K "NoWeights")) = some false := of_decide_eq_true (T.ex 41)
theorem Tx.ki_NoDraw_NoDraw : PySem.W.kitOne K (.ref (ga K "NoDraw")) (.ref (ga K "NoDraw")) = some true := of_decide_eq_true (T.ex 42)
theorem Tx.ki_NoDraw_NoRow : PySem.W.kitOne K (.ref (ga K "NoDraw")) (.ref (ga K "NoRow")) = some false := of_decide_eq_true (T.ex 43)
theorem Tx.ki_NoDraw_NoName : PySem.W.kitOne K (.ref (ga K "NoDraw")) (.ref (ga K "NoName")) = some false := of_decide_eq_true (T.ex 44)
theorem Tx.ki_NoDraw_VE : PySem.W.kitOne K (.ref (ga K "NoDraw")) (.type "ValueError") = some true := of_decide_eq_true (T.ex 45)
theorem Tx.xg_NoName : PySem.W.findIn K (.ref (ga K "NoName")) "__getattribute__" = some (some (.builtin "BaseException.__getattribute__")) := of_decide_eq_true (T.ex 46)
theorem Tx.xk_NoName : PySem.W.findIn K (.ref (ga K "NoName")) "__getattr__" = some none := of_decide_eq_true (T.ex 47)
theorem Tx.xs_NoName : PySem.W.subIn K (.ref (ga K "NoName")) (.type "BaseException") = some true := of_decide_eq_true (T.ex 48)
theorem Tx.xd_NoName : PySem.W.hasDictIn K (ga K "NoName") = true := T.ex 49
theorem Tx.xa_NoName : PySem.W.findIn K (.ref (ga K "NoName")) "__class__" = some (some (.builtin "object.__class__")) := of_decide_eq_true (T.ex 50)
theorem Tx.xm_NoName : PySem.W.mroIn K (ga K "NoName") (.type "object") = some true := of_decide_eq_true (T.ex 51)
theorem Tx.ki_NoName_NoProgram : PySem.W.kitOne K (.ref (ga K "NoName")) (.ref (ga K "NoProgram")) = some false := of_decide_eq_true (T.ex 52)
theorem Tx.ki_NoName_NoText : PySem.W.kitOne K (.ref (ga K "NoName")) (.ref (ga K "NoText")) = some false := of_decide_eq_true (T.ex 53)
theorem Tx.ki_NoName_Short : PySem.W.kitOne K (.ref (ga K "NoName")) (.ref (ga K "Short")) = some false := of_decide_eq_true (T.ex 54)
theorem Tx.ki_NoName_NoWeights : PySem.W.kitOne K (.ref (ga K "NoName")) (.ref (ga K "NoWeights")) = some false := of_decide_eq_true (T.ex 55)
theorem Tx.ki_NoName_NoDraw : PySem.W.kitOne K (.ref (ga K "NoName")) (.ref (ga K "NoDraw")) = some false := of_decide_eq_true (T.ex 56)
theorem Tx.ki_NoName_NoRow : PySem.W.kitOne K (.ref (ga K "NoName")) (.ref (ga K "NoRow")) = some false := of_decide_eq_true (T.ex 57)
theorem Tx.ki_NoName_NoName : PySem.W.kitOne K (.ref (ga K "NoName")) (.ref (ga K "NoName")) = some true := of_decide_eq_true (T.ex 58)
theorem Tx.ki_NoName_VE : PySem.W.kitOne K (.ref (ga K "NoName")) (.type "ValueError") = some true := of_decide_eq_true (T.ex 59)
theorem Tx.xn : PySem.W.specialIn K (.builtin "object.__class__") "__get__" = some (some (.builtin "getset_descriptor.__get__")) := of_decide_eq_true (T.ex 60)
theorem Tx.xt : PySem.W.takesIn K (.builtin "object.__class__") = some true := of_decide_eq_true (T.ex 61)
theorem Tx.ki_Drawer_Drawer : PySem.W.kitOne K (.ref (ga K "Drawer")) (.ref (ga K "Drawer")) = some true := of_decide_eq_true (T.ex 62)
theorem Tx.ki_Drawer_Weigher : PySem.W.kitOne K (.ref (ga K "Drawer")) (.ref (ga K "Weigher")) = some false := of_decide_eq_true (T.ex 63)
theorem Tx.ki_Weigher_Drawer : PySem.W.kitOne K (.ref (ga K "Weigher")) (.ref (ga K "Drawer")) = some false := of_decide_eq_true (T.ex 64)
theorem Tx.ki_Weigher_Weigher : PySem.W.kitOne K (.ref (ga K "Weigher")) (.ref (ga K "Weigher")) = some true := of_decide_eq_true (T.ex 65)
theorem Tx.xa_Drawer : PySem.W.findIn K (.ref (ga K "Drawer")) "__class__" = some (some (.builtin "object.__class__")) := of_decide_eq_true (T.ex 66)
theorem Tx.xm_Drawer : PySem.W.mroIn K (ga K "Drawer") (.type "object") = some true := of_decide_eq_true (T.ex 67)
theorem Tx.xa_Weigher : PySem.W.findIn K (.ref (ga K "Weigher")) "__class__" = some (some (.builtin "object.__class__")) := of_decide_eq_true (T.ex 68)
theorem Tx.xm_Weigher : PySem.W.mroIn K (ga K "Weigher") (.type "object") = some true := of_decide_eq_true (T.ex 69)
theorem Tx.kv : valsB K (ga K "KINDS") kindsV = true := T.ex 70
theorem Tx.fn_whole : ∃ fd, FunD K "whole" "whole" (defArgs s_whole) (defBody s_whole) (defScope s_whole) [] [] (ga K "whole") fd := T.c.t.d.def_ 0 (d := d_whole) rfl
theorem Tx.fn_coin_row : ∃ fd, FunD K "coin_row" "coin_row" (defArgs s_coin_row) (defBody s_coin_row) (defScope s_coin_row) [] [] (ga K "coin_row") fd := T.c.t.d.def_ 1 (d := d_coin_row) rfl
theorem Tx.fn_named : ∃ fd, FunD K "named" "named" (defArgs s_named) (defBody s_named) (defScope s_named) [] [] (ga K "named") fd := T.c.t.d.def_ 2 (d := d_named) rfl
theorem Tx.fn_read_word : ∃ fd, FunD K "read_word" "read_word" (defArgs s_read_word) (defBody s_read_word) (defScope s_read_word) [] [] (ga K "read_word") fd := T.c.t.d.def_ 3 (d := d_read_word) rfl
theorem Tx.fn_parts_of : ∃ fd, FunD K "parts_of" "parts_of" (defArgs s_parts_of) (defBody s_parts_of) (defScope s_parts_of) [] [] (ga K "parts_of") fd := T.c.t.d.def_ 4 (d := d_parts_of) rfl
theorem Tx.fn_shuffled : ∃ fd, FunD K "shuffled" "shuffled" (defArgs s_shuffled) (defBody s_shuffled) (defScope s_shuffled) [] [] (ga K "shuffled") fd := T.c.t.d.def_ 5 (d := d_shuffled) rfl
theorem Tx.fn_pour_drawers : ∃ fd, FunD K "pour_drawers" "pour_drawers" (defArgs s_pour_drawers) (defBody s_pour_drawers) (defScope s_pour_drawers) [] [] (ga K "pour_drawers") fd := T.c.t.d.def_ 6 (d := d_pour_drawers) rfl
theorem Tx.fn_pour_weighers : ∃ fd, FunD K "pour_weighers" "pour_weighers" (defArgs s_pour_weighers) (defBody s_pour_weighers) (defScope s_pour_weighers) [] [] (ga K "pour_weighers") fd := T.c.t.d.def_ 7 (d := d_pour_weighers) rfl
theorem Tx.fn_is_below : ∃ fd, FunD K "is_below" "is_below" (defArgs s_is_below) (defBody s_is_below) (defScope s_is_below) [] [] (ga K "is_below") fd := T.c.t.d.def_ 8 (d := d_is_below) rfl
theorem Tx.fn_is_node : ∃ fd, FunD K "is_node" "is_node" (defArgs s_is_node) (defBody s_is_node) (defScope s_is_node) [] [] (ga K "is_node") fd := T.c.t.d.def_ 9 (d := d_is_node) rfl
theorem Tx.fn_led_on : ∃ fd, FunD K "led_on" "led_on" (defArgs s_led_on) (defBody s_led_on) (defScope s_led_on) [] [] (ga K "led_on") fd := T.c.t.d.def_ 10 (d := d_led_on) rfl
theorem Tx.fn_coins_to_gives : ∃ fd, FunD K "coins_to_gives" "coins_to_gives" (defArgs s_coins_to_gives) (defBody s_coins_to_gives) (defScope s_coins_to_gives) [] [] (ga K "coins_to_gives") fd := T.c.t.d.def_ 11 (d := d_coins_to_gives) rfl
theorem Tx.fn_checked : ∃ fd, FunD K "checked" "checked" (defArgs s_checked) (defBody s_checked) (defScope s_checked) [] [] (ga K "checked") fd := T.c.t.d.def_ 12 (d := d_checked) rfl
theorem Tx.fn_walked : ∃ fd, FunD K "walked" "walked" (defArgs s_walked) (defBody s_walked) (defScope s_walked) [] [] (ga K "walked") fd := T.c.t.d.def_ 13 (d := d_walked) rfl
theorem Tx.fn_number_in : ∃ fd, FunD K "number_in" "number_in" (defArgs s_number_in) (defBody s_number_in) (defScope s_number_in) [] [] (ga K "number_in") fd := T.c.t.d.def_ 14 (d := d_number_in) rfl
theorem Tx.fn_node_in : ∃ fd, FunD K "node_in" "node_in" (defArgs s_node_in) (defBody s_node_in) (defScope s_node_in) [] [] (ga K "node_in") fd := T.c.t.d.def_ 15 (d := d_node_in) rfl
theorem Tx.fn_read_program : ∃ fd, FunD K "read_program" "read_program" (defArgs s_read_program) (defBody s_read_program) (defScope s_read_program) [] [] (ga K "read_program") fd := T.c.t.d.def_ 16 (d := d_read_program) rfl
theorem Tx.fn__law_cell : ∃ fd, FunD K "_law_cell" "_law_cell" (defArgs s__law_cell) (defBody s__law_cell) (defScope s__law_cell) [] [] (ga K "_law_cell") fd := T.c.t.d.def_ 17 (d := d__law_cell) rfl
theorem Tx.fn__law_numbers : ∃ fd, FunD K "_law_numbers" "_law_numbers" (defArgs s__law_numbers) (defBody s__law_numbers) (defScope s__law_numbers) [] [] (ga K "_law_numbers") fd := T.c.t.d.def_ 18 (d := d__law_numbers) rfl
theorem Tx.fn__law_only : ∃ fd, FunD K "_law_only" "_law_only" (defArgs s__law_only) (defBody s__law_only) (defScope s__law_only) [] [] (ga K "_law_only") fd := T.c.t.d.def_ 19 (d := d__law_only) rfl
theorem Tx.fn__law_names : ∃ fd, FunD K "_law_names" "_law_names" (defArgs s__law_names) (defBody s__law_names) (defScope s__law_names) [] [] (ga K "_law_names") fd := T.c.t.d.def_ 20 (d := d__law_names) rfl
theorem Tx.fn__law_draw : ∃ fd, FunD K "_law_draw" "_law_draw" (defArgs s__law_draw) (defBody s__law_draw) (defScope s__law_draw) [] [] (ga K "_law_draw") fd := T.c.t.d.def_ 21 (d := d__law_draw) rfl
theorem Tx.fn__law_go : ∃ fd, FunD K "_law_go" "_law_go" (defArgs s__law_go) (defBody s__law_go) (defScope s__law_go) [] [] (ga K "_law_go") fd := T.c.t.d.def_ 22 (d := d__law_go) rfl
theorem Tx.fn__law_see : ∃ fd, FunD K "_law_see" "_law_see" (defArgs s__law_see) (defBody s__law_see) (defScope s__law_see) [] [] (ga K "_law_see") fd := T.c.t.d.def_ 23 (d := d__law_see) rfl
theorem Tx.fn__law_cut : ∃ fd, FunD K "_law_cut" "_law_cut" (defArgs s__law_cut) (defBody s__law_cut) (defScope s__law_cut) [] [] (ga K "_law_cut") fd := T.c.t.d.def_ 24 (d := d__law_cut) rfl
theorem Tx.fn__law_new : ∃ fd, FunD K "_law_new" "_law_new" (defArgs s__law_new) (defBody s__law_new) (defScope s__law_new) [] [] (ga K "_law_new") fd := T.c.t.d.def_ 25 (d := d__law_new) rfl
theorem Tx.fn__law_kept : ∃ fd, FunD K "_law_kept" "_law_kept" (defArgs s__law_kept) (defBody s__law_kept) (defScope s__law_kept) [] [] (ga K "_law_kept") fd := T.c.t.d.def_ 26 (d := d__law_kept) rfl
theorem Tx.fn__law_draws : ∃ fd, FunD K "_law_draws" "_law_draws" (defArgs s__law_draws) (defBody s__law_draws) (defScope s__law_draws) [] [] (ga K "_law_draws") fd := T.c.t.d.def_ 27 (d := d__law_draws) rfl
theorem Tx.fn__law_shuffled : ∃ fd, FunD K "_law_shuffled" "_law_shuffled" (defArgs s__law_shuffled) (defBody s__law_shuffled) (defScope s__law_shuffled) [] [] (ga K "_law_shuffled") fd := T.c.t.d.def_ 28 (d := d__law_shuffled) rfl
theorem Tx.fn__law_poured : ∃ fd, FunD K "_law_poured" "_law_poured" (defArgs s__law_poured) (defBody s__law_poured) (defScope s__law_poured) [] [] (ga K "_law_poured") fd := T.c.t.d.def_ 29 (d := d__law_poured) rfl
theorem Tx.fn__law_pour : ∃ fd, FunD K "_law_pour" "_law_pour" (defArgs s__law_pour) (defBody s__law_pour) (defScope s__law_pour) [] [] (ga K "_law_pour") fd := T.c.t.d.def_ 30 (d := d__law_pour) rfl
theorem Tx.fn__law_beyond : ∃ fd, FunD K "_law_beyond" "_law_beyond" (defArgs s__law_beyond) (defBody s__law_beyond) (defScope s__law_beyond) [] [] (ga K "_law_beyond") fd := T.c.t.d.def_ 31 (d := d__law_beyond) rfl
theorem Tx.fn__law_told : ∃ fd, FunD K "_law_told" "_law_told" (defArgs s__law_told) (defBody s__law_told) (defScope s__law_told) [] [] (ga K "_law_told") fd := T.c.t.d.def_ 32 (d := d__law_told) rfl
theorem Tx.fn__law_row : ∃ fd, FunD K "_law_row" "_law_row" (defArgs s__law_row) (defBody s__law_row) (defScope s__law_row) [] [] (ga K "_law_row") fd := T.c.t.d.def_ 33 (d := d__law_row) rfl
theorem Tx.fn__law_answered : ∃ fd, FunD K "_law_answered" "_law_answered" (defArgs s__law_answered) (defBody s__law_answered) (defScope s__law_answered) [] [] (ga K "_law_answered") fd := T.c.t.d.def_ 34 (d := d__law_answered) rfl
theorem Tx.fn__law_left : ∃ fd, FunD K "_law_left" "_law_left" (defArgs s__law_left) (defBody s__law_left) (defScope s__law_left) [] [] (ga K "_law_left") fd := T.c.t.d.def_ 35 (d := d__law_left) rfl
theorem Tx.fn_law : ∃ fd, FunD K "law" "law" (defArgs s_law) (defBody s_law) (defScope s_law) [] [] (ga K "law") fd := T.c.t.d.def_ 36 (d := d_law) rfl
theorem Tx.fn_Short_init : ∃ fd, FunD K "__init__" "Short.__init__" (defArgs s_Short_init) (defBody s_Short_init) (defScope s_Short_init) [] [] (ma K (ga K "Short") "__init__") fd := T.c.t.d.def_ 37 (d := d_Short_init) rfl
theorem Tx.fn_Keeper_init : ∃ fd, FunD K "__init__" "Keeper.__init__" (defArgs s_Keeper_init) (defBody s_Keeper_init) (defScope s_Keeper_init) [] [] (ma K (ga K "Keeper") "__init__") fd := T.c.t.d.def_ 38 (d := d_Keeper_init) rfl
theorem Tx.fn_Keeper_seen : ∃ fd, FunD K "seen" "Keeper.seen" (defArgs s_Keeper_seen) (defBody s_Keeper_seen) (defScope s_Keeper_seen) [] [] (ma K (ga K "Keeper") "seen") fd := T.c.t.d.def_ 39 (d := d_Keeper_seen) rfl
theorem Tx.fn_Keeper_held : ∃ fd, FunD K "held" "Keeper.held" (defArgs s_Keeper_held) (defBody s_Keeper_held) (defScope s_Keeper_held) [] [] (ma K (ga K "Keeper") "held") fd := T.c.t.d.def_ 40 (d := d_Keeper_held) rfl
theorem Tx.fn_Drawer_init : ∃ fd, FunD K "__init__" "Drawer.__init__" (defArgs s_Drawer_init) (defBody s_Drawer_init) (defScope s_Drawer_init) [] [] (ma K (ga K "Drawer") "__init__") fd := T.c.t.d.def_ 41 (d := d_Drawer_init) rfl
theorem Tx.fn_Drawer_see : ∃ fd, FunD K "see" "Drawer.see" (defArgs s_Drawer_see) (defBody s_Drawer_see) (defScope s_Drawer_see) [] [] (ma K (ga K "Drawer") "see") fd := T.c.t.d.def_ 42 (d := d_Drawer_see) rfl
theorem Tx.fn_Drawer_cut : ∃ fd, FunD K "cut" "Drawer.cut" (defArgs s_Drawer_cut) (defBody s_Drawer_cut) (defScope s_Drawer_cut) [] [] (ma K (ga K "Drawer") "cut") fd := T.c.t.d.def_ 43 (d := d_Drawer_cut) rfl
theorem Tx.fn_Weigher_init : ∃ fd, FunD K "__init__" "Weigher.__init__" (defArgs s_Weigher_init) (defBody s_Weigher_init) (defScope s_Weigher_init) [] [] (ma K (ga K "Weigher") "__init__") fd := T.c.t.d.def_ 44 (d := d_Weigher_init) rfl
theorem Tx.fn_Weigher_weight : ∃ fd, FunD K "weight" "Weigher.weight" (defArgs s_Weigher_weight) (defBody s_Weigher_weight) (defScope s_Weigher_weight) [] [] (ma K (ga K "Weigher") "weight") fd := T.c.t.d.def_ 45 (d := d_Weigher_weight) rfl
theorem Tx.fn_Weigher_see : ∃ fd, FunD K "see" "Weigher.see" (defArgs s_Weigher_see) (defBody s_Weigher_see) (defScope s_Weigher_see) [] [] (ma K (ga K "Weigher") "see") fd := T.c.t.d.def_ 46 (d := d_Weigher_see) rfl
theorem Tx.fn_Purse_init : ∃ fd, FunD K "__init__" "Purse.__init__" (defArgs s_Purse_init) (defBody s_Purse_init) (defScope s_Purse_init) [.int 1] [] (ma K (ga K "Purse") "__init__") fd := T.c.t.d.def_ 47 (d := d_Purse_init) rfl
theorem Tx.fn_Purse_put : ∃ fd, FunD K "put" "Purse.put" (defArgs s_Purse_put) (defBody s_Purse_put) (defScope s_Purse_put) [] [] (ma K (ga K "Purse") "put") fd := T.c.t.d.def_ 48 (d := d_Purse_put) rfl
theorem Tx.fn_Purse_drawn : ∃ fd, FunD K "drawn" "Purse.drawn" (defArgs s_Purse_drawn) (defBody s_Purse_drawn) (defScope s_Purse_drawn) [] [] (ma K (ga K "Purse") "drawn") fd := T.c.t.d.def_ 49 (d := d_Purse_drawn) rfl
theorem Tx.fn_Purse_draws : ∃ fd, FunD K "draws" "Purse.draws" (defArgs s_Purse_draws) (defBody s_Purse_draws) (defScope s_Purse_draws) [] [] (ma K (ga K "Purse") "draws") fd := T.c.t.d.def_ 50 (d := d_Purse_draws) rfl
theorem Tx.fn_Purse_draw : ∃ fd, FunD K "draw" "Purse.draw" (defArgs s_Purse_draw) (defBody s_Purse_draw) (defScope s_Purse_draw) [] [] (ma K (ga K "Purse") "draw") fd := T.c.t.d.def_ 51 (d := d_Purse_draw) rfl
theorem Tx.fn_Purse_there : ∃ fd, FunD K "there" "Purse.there" (defArgs s_Purse_there) (defBody s_Purse_there) (defScope s_Purse_there) [] [] (ma K (ga K "Purse") "there") fd := T.c.t.d.def_ 52 (d := d_Purse_there) rfl
theorem Tx.fn_Purse_take : ∃ fd, FunD K "take" "Purse.take" (defArgs s_Purse_take) (defBody s_Purse_take) (defScope s_Purse_take) [] [] (ma K (ga K "Purse") "take") fd := T.c.t.d.def_ 53 (d := d_Purse_take) rfl
theorem Tx.fn_Purse_left : ∃ fd, FunD K "left" "Purse.left" (defArgs s_Purse_left) (defBody s_Purse_left) (defScope s_Purse_left) [] [] (ma K (ga K "Purse") "left") fd := T.c.t.d.def_ 54 (d := d_Purse_left) rfl
theorem Tx.fn_Desk_init : ∃ fd, FunD K "__init__" "Desk.__init__" (defArgs s_Desk_init) (defBody s_Desk_init) (defScope s_Desk_init) [] [] (ma K (ga K "Desk") "__init__") fd := T.c.t.d.def_ 55 (d := d_Desk_init) rfl
theorem Tx.fn_Desk_say : ∃ fd, FunD K "say" "Desk.say" (defArgs s_Desk_say) (defBody s_Desk_say) (defScope s_Desk_say) [] [] (ma K (ga K "Desk") "say") fd := T.c.t.d.def_ 56 (d := d_Desk_say) rfl
theorem Tx.fn_Desk_program_by : ∃ fd, FunD K "program_by" "Desk.program_by" (defArgs s_Desk_program_by) (defBody s_Desk_program_by) (defScope s_Desk_program_by) [] [] (ma K (ga K "Desk") "program_by") fd := T.c.t.d.def_ 57 (d := d_Desk_program_by) rfl
theorem Tx.fn_Desk_keeper_by : ∃ fd, FunD K "keeper_by" "Desk.keeper_by" (defArgs s_Desk_keeper_by) (defBody s_Desk_keeper_by) (defScope s_Desk_keeper_by) [] [] (ma K (ga K "Desk") "keeper_by") fd := T.c.t.d.def_ 58 (d := d_Desk_keeper_by) rfl
theorem Tx.fn_Desk_drawer_by : ∃ fd, FunD K "drawer_by" "Desk.drawer_by" (defArgs s_Desk_drawer_by) (defBody s_Desk_drawer_by) (defScope s_Desk_drawer_by) [] [] (ma K (ga K "Desk") "drawer_by") fd := T.c.t.d.def_ 59 (d := d_Desk_drawer_by) rfl
theorem Tx.fn_Desk_weigher_by : ∃ fd, FunD K "weigher_by" "Desk.weigher_by" (defArgs s_Desk_weigher_by) (defBody s_Desk_weigher_by) (defScope s_Desk_weigher_by) [] [] (ma K (ga K "Desk") "weigher_by") fd := T.c.t.d.def_ 60 (d := d_Desk_weigher_by) rfl
theorem Tx.fn_Desk_on_program : ∃ fd, FunD K "on_program" "Desk.on_program" (defArgs s_Desk_on_program) (defBody s_Desk_on_program) (defScope s_Desk_on_program) [] [] (ma K (ga K "Desk") "on_program") fd := T.c.t.d.def_ 61 (d := d_Desk_on_program) rfl
theorem Tx.fn_Desk_on_coins : ∃ fd, FunD K "on_coins" "Desk.on_coins" (defArgs s_Desk_on_coins) (defBody s_Desk_on_coins) (defScope s_Desk_on_coins) [] [] (ma K (ga K "Desk") "on_coins") fd := T.c.t.d.def_ 62 (d := d_Desk_on_coins) rfl
theorem Tx.fn_Desk_on_keeper : ∃ fd, FunD K "on_keeper" "Desk.on_keeper" (defArgs s_Desk_on_keeper) (defBody s_Desk_on_keeper) (defScope s_Desk_on_keeper) [] [] (ma K (ga K "Desk") "on_keeper") fd := T.c.t.d.def_ 63 (d := d_Desk_on_keeper) rfl
theorem Tx.fn_Desk_made : ∃ fd, FunD K "made" "Desk.made" (defArgs s_Desk_made) (defBody s_Desk_made) (defScope s_Desk_made) [] [] (ma K (ga K "Desk") "made") fd := T.c.t.d.def_ 64 (d := d_Desk_made) rfl
theorem Tx.kinds : ∃ es n, KDict K w (ga K "KINDS") es n := T.c.t.tab 0 (t := kindsT) rfl
theorem Tx.off_Keeper : OffC K (ga K "Keeper") "__init__" (.ref (ma K (ga K "Keeper") "__init__")) := ⟨⟨T.rd_Keeper, T.sg_Keeper⟩, fcB_ok T.fc_Keeper⟩
theorem Tx.off_EvenError : OffC K (ga K "EvenError") "__init__" (.builtin "ValueError.__init__") := ⟨⟨T.rd_EvenError, T.sg_EvenError⟩, fcB_ok T.fc_EvenError⟩
theorem Tx.xc_Short : ExcC K (ga K "Short") := ⟨T.xg_Short, T.xk_Short, T.xs_Short, T.xd_Short, T.xa_Short, T.xn, T.xt, T.xm_Short⟩
theorem Tx.xc_NoDraw : ExcC K (ga K "NoDraw") := ⟨T.xg_NoDraw, T.xk_NoDraw, T.xs_NoDraw, T.xd_NoDraw, T.xa_NoDraw, T.xn, T.xt, T.xm_NoDraw⟩
theorem Tx.xc_NoName : ExcC K (ga K "NoName") := ⟨T.xg_NoName, T.xk_NoName, T.xs_NoName, T.xd_NoName, T.xa_NoName, T.xn, T.xt, T.xm_NoName⟩
theorem Tx.xf_Short : XfC K (ga K "Short") := ⟨T.xg_Short, T.xk_Short, T.xs_Short, T.xd_Short⟩
theorem Tx.ox_Short : OexC K (ga K "Short") := ⟨oexB_ok T.sh_ob, T.sh_sa, T.sh_ex, T.sh_ty, T.sh_kp⟩
end
end Ev

set_option Elab.async false
set_option linter.all false
set_option maxRecDepth 100000
set_option maxHeartbeats 0
namespace Ev
open PySem PySem.Spec PyProof.Rows L2 He
/-! ### the head: its own Hook over written addresses, the run -/
def loose0 : List Str := ["_wall", "EvenError", "NoProgram", "NoText", "Short", "NoWeights", "NoDraw", "NoRow", "NoName", "LETTERS", "FIGURES_deskwords", "KINDS", "whole", "coin_row", "named", "read_word", "parts_of", "Keeper", "Drawer", "Weigher", "shuffled", "pour_drawers", "pour_weighers", "share", "added", "taken", "times", "divided", "is_weight", "check_weights"]
def loose1 : List Str := ["step_of", "levels_of", "level_nodes", "least_program", "THINGS", "is_below", "is_node", "led_on", "coins_to_gives", "checked", "walked", "FIGURES_programtexts", "number_in", "node_in", "read_program", "show_program", "Purse", "node_key", "numbered", "marks", "slim", "first_row", "without_itself", "put_in", "solved", "table", "shares_of", "mean_of", "how_many", "rank"]
def loose2 : List Str := ["in_figures", "yielded", "show_share", "show_coins", "Desk", "_law_cell", "_law_numbers", "_law_only", "_law_names", "_law_draw", "_law_go", "_law_see", "_law_cut", "_law_new", "_law_kept", "_law_draws", "_law_shuffled", "_law_poured", "_law_pour", "_law_beyond", "_law_told", "_law_row", "_law_answered", "_law_left"]
def loose : List Str := loose0 ++ loose1 ++ loose2
def adr0 : List Addr := [3, 2, 140, 145, 150, 155, 162, 167, 275, 280, 287, 363, 370, 377, 382, 389, 396, 401, 406, 411, 694, 701, 706, 711, 718, 723, 730, 737, 744, 751, 758, 765, 770, 777, 782, 787, 792, 799, 804, 811]
def adr1 : List Addr := [86, 181, 188, 195, 216, 223, 230, 249, 256, 263, 431, 438, 445, 450, 457, 471, 478, 485, 619, 626, 633, 640, 647, 654, 659, 666, 673, 680, 144, 149, 154, 161, 166, 274, 279, 286, 362, 369, 376, 381]
def adr2 : List Addr := [388, 395, 400, 405, 410, 693, 700, 705, 710, 717, 722, 729, 736, 743, 750, 757, 764, 769, 776, 781, 786, 791, 798, 803, 810, 85, 180, 187, 194, 215, 222, 229, 248, 255, 262, 430, 437, 444, 449, 456]
def adr3 : List Addr := [470, 477, 484, 618, 625, 632, 639, 646, 653, 658, 665, 672, 679, 424, 31, 51, 70, 89, 101, 113, 125, 137, 198, 233, 266, 495, 683, 30, 50, 69, 88, 100, 112, 124, 136, 197, 232, 265, 494, 682]
def adrs : List Addr := adr0 ++ adr1 ++ adr2 ++ adr3
abbrev AlE : Type := AlT × Bool
def obsR (g : Addr → Option Obj) : AlE := (obsT faL fnL [kindsT] (frG g adrs), exL.all fun f => f (frG g adrs))
def hkE : PySem.W.Hook where
  α := AlE
  obs := fun s => obsR s.heap.get?
  val := fun w => (valT fnL [kindsT] w, true)
  says := fun w h => ∃ K : PySem.W.Frag, K.In h ∧ Says w K
  of := fun _ _ e => ⟨_, frG_in, ⟨congrArg Prod.fst e, congrArg Prod.snd e⟩⟩
  keeps := fun _ _ _ ⟨K, hK, c⟩ k => ⟨K, PySem.W.Frag.In.keeps hK k, c⟩
def obE (s : PySem.W.SharedT) : AlE := obsR (HandSHeadRun.getT s)
theorem obE_eq (s : PySem.W.SharedT) : obE s = hkE.obs s.abs := by
  have e : HandSHeadRun.getT s = s.abs.heap.get? := funext (HandSHeadRun.getT_eq s)
  unfold obE
  rw [e] <;> rfl
theorem runF (w : World) : HandSHeadRun.RunEq R (PySem.W.view R.prog [98]) hkE obE 6200 loose (w.withFollow "special-get-raises" false) := by
  intro os
  kernel_rfl
theorem runT (w : World) : HandSHeadRun.RunEq R (PySem.W.view R.prog [98]) hkE obE 6200 loose (w.withFollow "special-get-raises" true) := by
  intro os
  kernel_rfl
theorem run (w : World) : HandSHeadRun.RunEq R (PySem.W.view R.prog [98]) hkE obE 6200 loose w := PySem.W.byRow2 "special-get-raises" runF runT w
end Ev

set_option Elab.async false
set_option linter.all false
set_option maxRecDepth 100000
set_option maxHeartbeats 4000000
namespace Ev
open PySem PySem.Spec PyProof.Rows L2 He
/-- len of a list or tuple, by what of it the written part tells -/
def rLenK (K : PySem.W.Frag) : List V → Hp → VK → Prop := fun xs H Q => ∃ p ys, xs = [.ref p] ∧ (SqL K H p ys ∨ SqT K H p ys) ∧ Q (.int ys.length) H
section
variable {X : Cx} {j k : Nat} {f C : Addr} {sp : Sp} {x : Str} {p pos : Pos} {e : Expr} {es : List Expr} {t : TA} {dvs : List V} {E : XK}
theorem pc_mk (c : CalDX X k f dvs sp) (M : Mk X.K C f) (hr : Room j X.A) (hk : k + 1 ≤ j) (hm : X.mg x = some (.ref C)) (hx : Passes (L2.CX X.prog X.w) X E) (ha : PA X (e :: es) t) (hg : Gl X x := by rfl) (hdb : (x == ("__debug__" : Str)) = false := by decide)
    (h1 : starEach (e :: es) X.env = (false, eval e X.env) :: starEach es X.env := by rfl) (h2 : (backTo pos (starEach es X.env)).any (·.1) = false := by rfl) : PE X (.Call (.Name x p) (e :: es) [] pos) (tMake C sp dvs E t) := by
  refine ⟨fun pins s σ H Q I h => ?_⟩
  obtain ⟨fd, ps, ds, F, b, v⟩ := c.ex
  exact (pe_make M F (hr.mono hk) hg hm b v hx ha hdb h1 h2).run pins s σ H Q I h
theorem pc_mk0 (c : CalDX X k f dvs sp) (M : Mk X.K C f) (hr : Room j X.A) (hk : k + 1 ≤ j) (hm : X.mg x = some (.ref C)) (hx : Passes (L2.CX X.prog X.w) X E) (hg : Gl X x := by rfl) (hdb : (x == ("__debug__" : Str)) = false := by decide) : PE X (.Call (.Name x p) [] [] pos) (tMake C sp dvs E tNil) := by
  refine ⟨fun pins s σ H Q I h => ?_⟩
  obtain ⟨fd, ps, ds, F, b, v⟩ := c.ex
  exact (pe_make0 M F (hr.mono hk) hg hm b v hx hdb).run pins s σ H Q I h
end
section
variable {P : Program} {w : World} {K : PySem.W.Frag} {mg : Str → Option Value} {base : Heap} {x qual : Str} {st : Stmt} {f : Addr} {fd : FuncData} {N ps : List Str} {k : Nat} {sp : Sp}
/-- a def keeps its promise: its body as a term, the reading -/
theorem okOf (F : FunD K x qual (defArgs st) (defBody st) (defScope st) [] [] f fd) (S : FnScope N ps (defScope st))
    (hb : ∀ (kV doc pm : Value) (an : Option Addr) (cdv ct : Value) (us : List Value), us.length = ps.length → bindArgs (PySem.W.fnOf x qual (defArgs st) (defBody st) (defScope st) .none kV doc pm an cdv ct) ⟨us, []⟩ = pure (ps.zip us))
    (len : ∀ vs H Q E, sp vs H Q E → vs.length = ps.length)
    (hbody : ∀ (cdv : Value) (A : Around) (outer : List Env) (s : Shared) (H : Hp) (vs : List V) (Q : VK) (E : XK), Room k (A.deeper (envOfC qual (defScope st) s.heap.objs.size f cdv)) → sp vs H Q E →
      ∃ t, PSs (cxOf (L2.CX P w) P w K mg base N qual (defScope st) f cdv A outer s H E) (defBody st) t ∧ t { nx := fun _ H' => Q .non H', rt := Q } (start N vs) H) : Cal P w K mg base (k + 1) f sp :=
  ⟨⟨fd, ps, F.ok S len hbody, F.bindsN hb⟩, F.kp⟩
end
section
variable {w : World} {K : PySem.W.Frag} {mg : Str → Option Value} {h : Heap} (T : Tx w K mg h)
include T
theorem has_Purse_put : Has K (fun C => C = ga K "Purse") "put" (ma K (ga K "Purse") "put") := ⟨fun C e => by subst e; exact ⟨T.cs_Purse, T.me_Purse_put⟩⟩
theorem has_Purse_drawn : Has K (fun C => C = ga K "Purse") "drawn" (ma K (ga K "Purse") "drawn") := ⟨fun C e => by subst e; exact ⟨T.cs_Purse, T.me_Purse_drawn⟩⟩
theorem has_Purse_draws : Has K (fun C => C = ga K "Purse") "draws" (ma K (ga K "Purse") "draws") := ⟨fun C e => by subst e; exact ⟨T.cs_Purse, T.me_Purse_draws⟩⟩
theorem has_Purse_draw : Has K (fun C => C = ga K "Purse") "draw" (ma K (ga K "Purse") "draw") := ⟨fun C e => by subst e; exact ⟨T.cs_Purse, T.me_Purse_draw⟩⟩
theorem has_Purse_there : Has K (fun C => C = ga K "Purse") "there" (ma K (ga K "Purse") "there") := ⟨fun C e => by subst e; exact ⟨T.cs_Purse, T.me_Purse_there⟩⟩
theorem has_Purse_take : Has K (fun C => C = ga K "Purse") "take" (ma K (ga K "Purse") "take") := ⟨fun C e => by subst e; exact ⟨T.cs_Purse, T.me_Purse_take⟩⟩
theorem has_Purse_left : Has K (fun C => C = ga K "Purse") "left" (ma K (ga K "Purse") "left") := ⟨fun C e => by subst e; exact ⟨T.cs_Purse, T.me_Purse_left⟩⟩
theorem has_Drawer_see : Has K (fun C => C = ga K "Drawer") "see" (ma K (ga K "Drawer") "see") := ⟨fun C e => by subst e; exact ⟨T.cs_Drawer, T.me_Drawer_see⟩⟩
theorem has_Drawer_cut : Has K (fun C => C = ga K "Drawer") "cut" (ma K (ga K "Drawer") "cut") := ⟨fun C e => by subst e; exact ⟨T.cs_Drawer, T.me_Drawer_cut⟩⟩
theorem has_Weigher_see : Has K (fun C => C = ga K "Weigher") "see" (ma K (ga K "Weigher") "see") := ⟨fun C e => by subst e; exact ⟨T.cs_Weigher, T.me_Weigher_see⟩⟩
theorem has_Weigher_weight : Has K (fun C => C = ga K "Weigher") "weight" (ma K (ga K "Weigher") "weight") := ⟨fun C e => by subst e; exact ⟨T.cs_Weigher, T.me_Weigher_weight⟩⟩
theorem has_Desk_say : Has K (fun C => C = ga K "Desk") "say" (ma K (ga K "Desk") "say") := ⟨fun C e => by subst e; exact ⟨T.cs_Desk, T.me_Desk_say⟩⟩
theorem has_Desk_program_by : Has K (fun C => C = ga K "Desk") "program_by" (ma K (ga K "Desk") "program_by") := ⟨fun C e => by subst e; exact ⟨T.cs_Desk, T.me_Desk_program_by⟩⟩
theorem has_Desk_keeper_by : Has K (fun C => C = ga K "Desk") "keeper_by" (ma K (ga K "Desk") "keeper_by") := ⟨fun C e => by subst e; exact ⟨T.cs_Desk, T.me_Desk_keeper_by⟩⟩
theorem has_Desk_drawer_by : Has K (fun C => C = ga K "Desk") "drawer_by" (ma K (ga K "Desk") "drawer_by") := ⟨fun C e => by subst e; exact ⟨T.cs_Desk, T.me_Desk_drawer_by⟩⟩
theorem has_Desk_weigher_by : Has K (fun C => C = ga K "Desk") "weigher_by" (ma K (ga K "Desk") "weigher_by") := ⟨fun C e => by subst e; exact ⟨T.cs_Desk, T.me_Desk_weigher_by⟩⟩
theorem has_Desk_on_program : Has K (fun C => C = ga K "Desk") "on_program" (ma K (ga K "Desk") "on_program") := ⟨fun C e => by subst e; exact ⟨T.cs_Desk, T.me_Desk_on_program⟩⟩
theorem has_Desk_on_coins : Has K (fun C => C = ga K "Desk") "on_coins" (ma K (ga K "Desk") "on_coins") := ⟨fun C e => by subst e; exact ⟨T.cs_Desk, T.me_Desk_on_coins⟩⟩
theorem has_Desk_on_keeper : Has K (fun C => C = ga K "Desk") "on_keeper" (ma K (ga K "Desk") "on_keeper") := ⟨fun C e => by subst e; exact ⟨T.cs_Desk, T.me_Desk_on_keeper⟩⟩
theorem has_Desk_made : Has K (fun C => C = ga K "Desk") "made" (ma K (ga K "Desk") "made") := ⟨fun C e => by subst e; exact ⟨T.cs_Desk, T.me_Desk_made⟩⟩
theorem has_seen : Has K (fun C => C = ga K "Drawer" ∨ C = ga K "Weigher") "seen" (ma K (ga K "Keeper") "seen") := ⟨fun C e => by
  rcases e with e | e
  · subst e; exact ⟨T.cs_Drawer, by have q := T.me_Drawer_seen; rw [T.eq_Drawer_seen] at q; exact q⟩
  · subst e; exact ⟨T.cs_Weigher, by have q := T.me_Weigher_seen; rw [T.eq_Weigher_seen] at q; exact q⟩⟩
theorem has_held : Has K (fun C => C = ga K "Drawer" ∨ C = ga K "Weigher") "held" (ma K (ga K "Keeper") "held") := ⟨fun C e => by
  rcases e with e | e
  · subst e; exact ⟨T.cs_Drawer, by have q := T.me_Drawer_held; rw [T.eq_Drawer_held] at q; exact q⟩
  · subst e; exact ⟨T.cs_Weigher, by have q := T.me_Weigher_held; rw [T.eq_Weigher_held] at q; exact q⟩⟩
end
end Ev

set_option Elab.async false
set_option linter.all false
set_option maxRecDepth 100000
set_option maxHeartbeats 2000000
/-! The plain model: a pool of coins, keepers; and how they lie in the heap. -/
namespace Ev
open PySem PySem.Spec PyProof.Rows L2 He
/-! ### a pool -/
structure Pool where
  size : Int
  num : Int
  coins : List Int
/-- a number below m -/
def drawP (m : Int) : List Int → Int → Int → Option (Int × Pool)
  | [], s, n => if s < m then none else if n < s / m * m then some (n % m, ⟨s / m, n / m, []⟩) else none
  | c :: cs, s, n => if s < m then drawP m cs (2 * s) (2 * n + c) else if n < s / m * m then some (n % m, ⟨s / m, n / m, c :: cs⟩) else drawP m cs (2 * (s - s / m * m)) (2 * (n - s / m * m) + c)
def Pool.draw (p : Pool) (m : Int) : Option (Int × Pool) := drawP m p.coins p.size p.num
def Pool.draws (p : Pool) : List Int → Option (List Int × Pool)
  | [] => some ([], p)
  | m :: ms => match p.draw m with
    | none => none
    | some (a, q) => match q.draws ms with
      | none => none
      | some (as, r) => some (a :: as, r)
structure Pool.Ok (p : Pool) : Prop where
  one : 1 ≤ p.size
  low : 0 ≤ p.num
  lt : p.num < p.size
  top : p.size < 2 ^ 64
  coin : ∀ c ∈ p.coins, c = 0 ∨ c = 1
/-- a number that may be asked -/
def Few (m : Int) : Prop := 1 ≤ m ∧ m ≤ 2 ^ 63
theorem div_mul_le {s m : Int} (h0 : 0 ≤ s) (hm : 1 ≤ m) : s / m * m ≤ s ∧ s < s / m * m + m ∧ 0 ≤ s / m := by
  have h1 := Int.emod_add_mul_ediv s m
  have h2 := Int.emod_nonneg s (show m ≠ 0 by omega)
  have h3 := Int.emod_lt_of_pos s (show 0 < m by omega)
  have h4 : m * (s / m) = s / m * m := Int.mul_comm _ _
  have h5 : 0 ≤ s / m := Int.ediv_nonneg h0 (by omega)
  omega
theorem drawP_ok {m : Int} (hm : Few m) : ∀ {cs : List Int} {s n : Int} {a : Int} {q : Pool}, Pool.Ok ⟨s, n, cs⟩ → drawP m cs s n = some (a, q) → q.Ok ∧ 0 ≤ a ∧ a < m ∧ q.coins.length ≤ cs.length ∧ q.coins = cs.drop (cs.length - q.coins.length)
  | cs, s, n, a, q, ok, h => by
    have m1 := hm.1
    have o1 : 1 ≤ s := ok.one
    have o2 : 0 ≤ n := ok.low
    have o3 : n < s := ok.lt
    have o4 : s < 2 ^ 64 := ok.top
    have oc : ∀ c ∈ cs, c = 0 ∨ c = 1 := ok.coin
    have acc : ∀ {t : List Int}, t = cs → some (n % m, (⟨s / m, n / m, t⟩ : Pool)) = some (a, q) → ¬ s < m → n < s / m * m → q.Ok ∧ 0 ≤ a ∧ a < m ∧ q.coins.length ≤ cs.length ∧ q.coins = cs.drop (cs.length - q.coins.length) := by
      intro t et e hs hn
      cases e
      subst et
      obtain ⟨d1, d2, d3⟩ := div_mul_le (s := s) (by omega) m1
      obtain ⟨e1, e2, e3⟩ := div_mul_le (s := n) o2 m1
      have q1 : 1 ≤ s / m := by
        by_cases z : s / m = 0
        · rw [z] at d2
          omega
        · omega
      have q2 : n / m < s / m := Int.ediv_lt_of_lt_mul (by omega) hn
      have q3 : s / m ≤ s := Int.ediv_le_self _ (by omega)
      refine ⟨⟨q1, e3, q2, (show s / m < 2 ^ 64 by omega), oc⟩, Int.emod_nonneg _ (by omega), Int.emod_lt_of_pos _ (by omega), Nat.le_refl _, ?_⟩
      show t = t.drop (t.length - t.length)
      rw [Nat.sub_self, List.drop_zero]
    cases cs with
    | nil =>
      unfold drawP at h
      split at h
      · cases h
      · split at h
        · exact acc rfl h (by assumption) (by assumption)
        · cases h
    | cons c cs =>
      have c01 := oc c List.mem_cons_self
      have sub : ∀ {s' n' : Int}, Pool.Ok ⟨s', n', cs⟩ → drawP m cs s' n' = some (a, q) → q.Ok ∧ 0 ≤ a ∧ a < m ∧ q.coins.length ≤ (c :: cs).length ∧ q.coins = (c :: cs).drop ((c :: cs).length - q.coins.length) := by
        intro s' n' ok' h'
        obtain ⟨r1, r2, r3, r4, r5⟩ := drawP_ok hm ok' h'
        refine ⟨r1, r2, r3, by rw [List.length_cons]; omega, ?_⟩
        rw [List.length_cons, show cs.length + 1 - q.coins.length = (cs.length - q.coins.length) + 1 by omega, List.drop_succ_cons]
        exact r5
      have m2 := hm.2
      unfold drawP at h
      split at h
      · exact sub ⟨(show 1 ≤ 2 * s by omega), (show 0 ≤ 2 * n + c by omega), (show 2 * n + c < 2 * s by omega), (show 2 * s < 2 ^ 64 by omega), fun z hz => oc z (List.mem_cons_of_mem _ hz)⟩ h
      · split at h
        · exact acc rfl h (by assumption) (by assumption)
        · rename_i h1 h2
          obtain ⟨d1, d2, d3⟩ := div_mul_le (s := s) (by omega) m1
          exact sub ⟨(show 1 ≤ 2 * (s - s / m * m) by omega), (show 0 ≤ 2 * (n - s / m * m) + c by omega), (show 2 * (n - s / m * m) + c < 2 * (s - s / m * m) by omega), (show 2 * (s - s / m * m) < 2 ^ 64 by omega), fun z hz => oc z (List.mem_cons_of_mem _ hz)⟩ h
theorem Pool.draw_ok {p q : Pool} {m a : Int} (hm : Few m) (ok : p.Ok) (h : p.draw m = some (a, q)) : q.Ok ∧ 0 ≤ a ∧ a < m ∧ q.coins.length ≤ p.coins.length ∧ q.coins = p.coins.drop (p.coins.length - q.coins.length) := drawP_ok hm ok h
theorem Pool.draws_ok : ∀ {ms : List Int} {p q : Pool} {as : List Int}, (∀ m ∈ ms, Few m) → p.Ok → p.draws ms = some (as, q) → q.Ok ∧ as.length = ms.length ∧ q.coins.length ≤ p.coins.length ∧ ∀ (i : Nat) (m : Int), ms[i]? = some m → ∃ a, as[i]? = some a ∧ 0 ≤ a ∧ a < m
  | [], p, q, as, _, ok, h => by
    cases h
    exact ⟨ok, rfl, Nat.le_refl _, fun i m e => by cases e⟩
  | m :: ms, p, q, as, hm, ok, h => by
    unfold Pool.draws at h
    split at h
    · cases h
    · rename_i a p1 e1
      obtain ⟨o1, a0, a1, l1, _⟩ := Pool.draw_ok (hm m List.mem_cons_self) ok e1
      split at h
      · cases h
      · rename_i as1 q1 e2
        cases h
        obtain ⟨r1, r2, r3, r4⟩ := Pool.draws_ok (fun z hz => hm z (List.mem_cons_of_mem _ hz)) o1 e2
        refine ⟨r1, by rw [List.length_cons, List.length_cons, r2], by omega, fun i z e => ?_⟩
        cases i with
        | zero =>
          cases e
          exact ⟨a, rfl, a0, a1⟩
        | succ i => exact r4 i z e
/-! ### what is refused -/
inductive Ex where
  | short (n : Int)
  | nodraw
  | noname
/-- behind a refusal: what was tracked is as it was -/
def Rz (K : PySem.W.Frag) (x : Ex) (E : XK) (H : Hp) : Prop := match x with
  | .short n => ∀ (H' : Hp) (d : Addr), Same H H' → H d = none → H' d = some (.xd [(("spent" : Str), .int n)]) → E (.ref (ga K "Short")) (some d) H'
  | .nodraw => ∀ H' : Hp, Same H H' → E (.ref (ga K "NoDraw")) none H'
  | .noname => ∀ H' : Hp, Same H H' → E (.ref (ga K "NoName")) none H'
theorem Rz.mono {K : PySem.W.Frag} {x : Ex} {E : XK} {H H1 : Hp} (h : Rz K x E H) (s : Same H H1) : Rz K x E H1 := by
  cases x with
  | short n => exact fun H' d s' nd e => h H' d (s.trans s') (s.free nd) e
  | nodraw => exact fun H' s' => h H' (s.trans s')
  | noname => exact fun H' s' => h H' (s.trans s')
/-- all that was tracked stays, but at a -/
def Keep1 (H H' : Hp) (a : Addr) : Prop := ∀ b o, H b = some o → b ≠ a → H' b = some o
theorem Keep1.same {H H1 H2 : Hp} {a : Addr} (s : Same H H1) (k : Keep1 H1 H2 a) : Keep1 H H2 a := fun b o e n => k b o (s b o e) n
theorem Same.keep {H H1 : Hp} {a : Addr} (s : Same H H1) : Keep1 H H1 a := fun b o e _ => s b o e
theorem Keep1.trans {H H1 H2 : Hp} {a : Addr} (s : Keep1 H H1 a) (k : Keep1 H1 H2 a) : Keep1 H H2 a := fun b o e n => k b o (s b o e n) n
end Ev

set_option Elab.async false
set_option linter.all false
set_option maxRecDepth 100000
set_option maxHeartbeats 2000000
namespace Ev
open PySem PySem.Spec PyProof.Rows L2 He
/-- fields by names ks and values vs -/
def zf (ks : List Str) (vs : List V) : List (Str × V) := ks.zip vs
theorem zf_get : ∀ {ks : List Str} {vs : List V} {k : Str} {i : Nat} {v : V}, ks.idxOf? k = some i → vs[i]? = some v → (zf ks vs).lookup k = some v
  | [], vs, k, i, v, h, hv => by cases h
  | k0 :: ks, [], k, i, v, h, hv => by cases hv
  | k0 :: ks, v0 :: vs, k, i, v, h, hv => by
    show List.lookup k ((k0, v0) :: ks.zip vs) = some v
    rw [List.idxOf?_cons] at h
    by_cases e : k0 = k
    · subst e
      rw [if_pos (beq_self_eq_true _)] at h
      cases h
      rw [List.lookup_cons, beq_self_eq_true]
      cases hv
      rfl
    · rw [if_neg (by simpa using e)] at h
      obtain ⟨j, hj, rfl⟩ := Option.map_eq_some_iff.mp h
      rw [List.lookup_cons, show (k == k0) = false from by simpa using fun z => e z.symm]
      exact zf_get hj hv
theorem zf_no : ∀ {ks : List Str} {vs : List V} {k : Str}, ks.idxOf? k = none → (zf ks vs).lookup k = none
  | [], vs, k, h => rfl
  | k0 :: ks, [], k, h => rfl
  | k0 :: ks, v0 :: vs, k, h => by
    show List.lookup k ((k0, v0) :: ks.zip vs) = none
    rw [List.idxOf?_cons] at h
    by_cases e : k0 = k
    · subst e
      rw [if_pos (beq_self_eq_true _)] at h
      cases h
    · rw [if_neg (by simpa using e)] at h
      rw [List.lookup_cons, show (k == k0) = false from by simpa using fun z => e z.symm]
      exact zf_no (Option.map_eq_none_iff.mp h)
theorem zf_put : ∀ {ks : List Str} {vs : List V} {k : Str} {i : Nat} {v : V}, ks.idxOf? k = some i → i < vs.length → putF k v (zf ks vs) = zf ks (vs.set i v)
  | [], vs, k, i, v, h, hv => by cases h
  | k0 :: ks, [], k, i, v, h, hv => by cases hv
  | k0 :: ks, v0 :: vs, k, i, v, h, hv => by
    show putF k v ((k0, v0) :: ks.zip vs) = _
    rw [List.idxOf?_cons] at h
    unfold putF
    by_cases e : k0 = k
    · subst e
      rw [if_pos (beq_self_eq_true _)] at h
      cases h
      rw [if_pos rfl]
      rfl
    · rw [if_neg (by simpa using e)] at h
      obtain ⟨j, hj, rfl⟩ := Option.map_eq_some_iff.mp h
      rw [if_neg e]
      have q : putF k v (zf ks vs) = zf ks (vs.set j v) := zf_put hj (by simpa using hv)
      show (k0, v0) :: putF k v (zf ks vs) = _
      rw [q]
      rfl
theorem zf_new : ∀ {ks : List Str} {vs : List V} {k : Str} {v : V}, ks.idxOf? k = none → ks.length = vs.length → putF k v (zf ks vs) = zf (ks ++ [k]) (vs ++ [v])
  | [], [], k, v, h, hl => rfl
  | k0 :: ks, v0 :: vs, k, v, h, hl => by
    show putF k v ((k0, v0) :: ks.zip vs) = _
    rw [List.idxOf?_cons] at h
    unfold putF
    by_cases e : k0 = k
    · subst e
      rw [if_pos (beq_self_eq_true _)] at h
      cases h
    · rw [if_neg (by simpa using e)] at h
      rw [if_neg e]
      show (k0, v0) :: putF k v (zf ks vs) = _
      rw [zf_new (Option.map_eq_none_iff.mp h) (by simpa using hl)]
      rfl
/-- what is outside ch stays -/
def Fr (ch : Addr → Prop) (H H' : Hp) : Prop := ∀ b o, H b = some o → ¬ ch b → H' b = some o
theorem Fr.refl {ch : Addr → Prop} {H : Hp} : Fr ch H H := fun _ _ e _ => e
theorem Fr.trans {ch : Addr → Prop} {H H1 H2 : Hp} (s : Fr ch H H1) (k : Fr ch H1 H2) : Fr ch H H2 := fun b o e n => k b o (s b o e n) n
theorem Fr.mono {ch ch' : Addr → Prop} {H H1 : Hp} (s : Fr ch H H1) (h : ∀ b, ch b → ch' b) : Fr ch' H H1 := fun b o e n => s b o e fun c => n (h b c)
theorem _root_.L2.Same.fr {ch : Addr → Prop} {H H1 : Hp} (s : Same H H1) : Fr ch H H1 := fun b o e _ => s b o e
theorem Fr.upd {ch : Addr → Prop} {H H1 : Hp} {a : Addr} {o : HO} (s : Fr ch H H1) (h : ch a ∨ H a = none) : Fr ch H (upd H1 a o) := fun b u e n => by
  have q : b ≠ a := by
    rintro rfl
    rcases h with h | h
    · exact n h
    · rw [h] at e
      cases e
  rw [upd_ne q]
  exact s b u e n
theorem _root_.L2.Same.upd {H H1 : Hp} {a : Addr} {o : HO} (s : Same H H1) (h : H1 a = none) : Same H (L2.upd H1 a o) := fun b u e => by
  rw [upd_ne (ne_of_none (s b u e) h)]
  exact s b u e
theorem Fr.same {H H1 : Hp} (s : Fr (fun _ => False) H H1) : Same H H1 := fun b o e => s b o e fun z => z
theorem Fr.seqL {K : PySem.W.Frag} {ch : Addr → Prop} {H H1 : Hp} {a : Addr} {xs : List V} (s : Fr ch H H1) (n : ¬ ch a) (h : SqL K H a xs) : SqL K H1 a xs := by
  rcases h with h | h
  · left
    rcases h with h | ⟨o, h⟩
    · exact .inl (s _ _ h n)
    · exact .inr ⟨o, s _ _ h n⟩
  · exact .inr h
def pks : List Str := ["room", "coins", "used", "size", "number"]
def pf (l : Addr) (u : Int) (s : Int) (n : Int) : List (Str × V) := zf pks [.int 1, .ref l, .int u, .int s, .int n]
theorem pf_no {l : Addr} {u : Int} {s : Int} {n : Int} {k : Str} (h : pks.idxOf? k = none) : (pf l u s n).lookup k = none := zf_no h
theorem pf_room {l : Addr} {u : Int} {s : Int} {n : Int} : (pf l u s n).lookup ("room" : Str) = some (.int 1) := zf_get (i := 0) (by decide +kernel) rfl
theorem pf_coins {l : Addr} {u : Int} {s : Int} {n : Int} : (pf l u s n).lookup ("coins" : Str) = some (.ref l) := zf_get (i := 1) (by decide +kernel) rfl
theorem pf_put_coins {l : Addr} {u : Int} {s : Int} {n : Int} {z : Addr} : putF "coins" (.ref z) (pf l u s n) = pf z u s n := zf_put (i := 1) (by decide +kernel) (by simp)
theorem pf_used {l : Addr} {u : Int} {s : Int} {n : Int} : (pf l u s n).lookup ("used" : Str) = some (.int u) := zf_get (i := 2) (by decide +kernel) rfl
theorem pf_put_used {l : Addr} {u : Int} {s : Int} {n : Int} {z : Int} : putF "used" (.int z) (pf l u s n) = pf l z s n := zf_put (i := 2) (by decide +kernel) (by simp)
theorem pf_size {l : Addr} {u : Int} {s : Int} {n : Int} : (pf l u s n).lookup ("size" : Str) = some (.int s) := zf_get (i := 3) (by decide +kernel) rfl
theorem pf_put_size {l : Addr} {u : Int} {s : Int} {n : Int} {z : Int} : putF "size" (.int z) (pf l u s n) = pf l u z n := zf_put (i := 3) (by decide +kernel) (by simp)
theorem pf_number {l : Addr} {u : Int} {s : Int} {n : Int} : (pf l u s n).lookup ("number" : Str) = some (.int n) := zf_get (i := 4) (by decide +kernel) rfl
theorem pf_put_number {l : Addr} {u : Int} {s : Int} {n : Int} {z : Int} : putF "number" (.int z) (pf l u s n) = pf l u s z := zf_put (i := 4) (by decide +kernel) (by simp)
def dks : List Str := ["purse", "things", "count", "most"]
def df (p : Addr) (t : Addr) (c : Int) (m : Int) : List (Str × V) := zf dks [.ref p, .ref t, .int c, .int m]
theorem df_no {p : Addr} {t : Addr} {c : Int} {m : Int} {k : Str} (h : dks.idxOf? k = none) : (df p t c m).lookup k = none := zf_no h
theorem df_purse {p : Addr} {t : Addr} {c : Int} {m : Int} : (df p t c m).lookup ("purse" : Str) = some (.ref p) := zf_get (i := 0) (by decide +kernel) rfl
theorem df_put_purse {p : Addr} {t : Addr} {c : Int} {m : Int} {z : Addr} : putF "purse" (.ref z) (df p t c m) = df z t c m := zf_put (i := 0) (by decide +kernel) (by simp)
theorem df_things {p : Addr} {t : Addr} {c : Int} {m : Int} : (df p t c m).lookup ("things" : Str) = some (.ref t) := zf_get (i := 1) (by decide +kernel) rfl
theorem df_put_things {p : Addr} {t : Addr} {c : Int} {m : Int} {z : Addr} : putF "things" (.ref z) (df p t c m) = df p z c m := zf_put (i := 1) (by decide +kernel) (by simp)
theorem df_count {p : Addr} {t : Addr} {c : Int} {m : Int} : (df p t c m).lookup ("count" : Str) = some (.int c) := zf_get (i := 2) (by decide +kernel) rfl
theorem df_put_count {p : Addr} {t : Addr} {c : Int} {m : Int} {z : Int} : putF "count" (.int z) (df p t c m) = df p t z m := zf_put (i := 2) (by decide +kernel) (by simp)
theorem df_most {p : Addr} {t : Addr} {c : Int} {m : Int} : (df p t c m).lookup ("most" : Str) = some (.int m) := zf_get (i := 3) (by decide +kernel) rfl
theorem df_put_most {p : Addr} {t : Addr} {c : Int} {m : Int} {z : Int} : putF "most" (.int z) (df p t c m) = df p t c z := zf_put (i := 3) (by decide +kernel) (by simp)
def wks : List Str := ["purse", "things", "count", "total"]
def wf (p : Addr) (t : Addr) (c : Int) (m : Int) : List (Str × V) := zf wks [.ref p, .ref t, .int c, .int m]
theorem wf_no {p : Addr} {t : Addr} {c : Int} {m : Int} {k : Str} (h : wks.idxOf? k = none) : (wf p t c m).lookup k = none := zf_no h
theorem wf_purse {p : Addr} {t : Addr} {c : Int} {m : Int} : (wf p t c m).lookup ("purse" : Str) = some (.ref p) := zf_get (i := 0) (by decide +kernel) rfl
theorem wf_put_purse {p : Addr} {t : Addr} {c : Int} {m : Int} {z : Addr} : putF "purse" (.ref z) (wf p t c m) = wf z t c m := zf_put (i := 0) (by decide +kernel) (by simp)
theorem wf_things {p : Addr} {t : Addr} {c : Int} {m : Int} : (wf p t c m).lookup ("things" : Str) = some (.ref t) := zf_get (i := 1) (by decide +kernel) rfl
theorem wf_put_things {p : Addr} {t : Addr} {c : Int} {m : Int} {z : Addr} : putF "things" (.ref z) (wf p t c m) = wf p z c m := zf_put (i := 1) (by decide +kernel) (by simp)
theorem wf_count {p : Addr} {t : Addr} {c : Int} {m : Int} : (wf p t c m).lookup ("count" : Str) = some (.int c) := zf_get (i := 2) (by decide +kernel) rfl
theorem wf_put_count {p : Addr} {t : Addr} {c : Int} {m : Int} {z : Int} : putF "count" (.int z) (wf p t c m) = wf p t z m := zf_put (i := 2) (by decide +kernel) (by simp)
theorem wf_total {p : Addr} {t : Addr} {c : Int} {m : Int} : (wf p t c m).lookup ("total" : Str) = some (.int m) := zf_get (i := 3) (by decide +kernel) rfl
theorem wf_put_total {p : Addr} {t : Addr} {c : Int} {m : Int} {z : Int} : putF "total" (.int z) (wf p t c m) = wf p t c z := zf_put (i := 3) (by decide +kernel) (by simp)
def eks : List Str := ["purse", "programs", "keepers"]
def ef (p : Addr) (t : Addr) (c : Addr) : List (Str × V) := zf eks [.ref p, .ref t, .ref c]
theorem ef_no {p : Addr} {t : Addr} {c : Addr} {k : Str} (h : eks.idxOf? k = none) : (ef p t c).lookup k = none := zf_no h
theorem ef_purse {p : Addr} {t : Addr} {c : Addr} : (ef p t c).lookup ("purse" : Str) = some (.ref p) := zf_get (i := 0) (by decide +kernel) rfl
theorem ef_put_purse {p : Addr} {t : Addr} {c : Addr} {z : Addr} : putF "purse" (.ref z) (ef p t c) = ef z t c := zf_put (i := 0) (by decide +kernel) (by simp)
theorem ef_programs {p : Addr} {t : Addr} {c : Addr} : (ef p t c).lookup ("programs" : Str) = some (.ref t) := zf_get (i := 1) (by decide +kernel) rfl
theorem ef_put_programs {p : Addr} {t : Addr} {c : Addr} {z : Addr} : putF "programs" (.ref z) (ef p t c) = ef p z c := zf_put (i := 1) (by decide +kernel) (by simp)
theorem ef_keepers {p : Addr} {t : Addr} {c : Addr} : (ef p t c).lookup ("keepers" : Str) = some (.ref c) := zf_get (i := 2) (by decide +kernel) rfl
theorem ef_put_keepers {p : Addr} {t : Addr} {c : Addr} {z : Addr} : putF "keepers" (.ref z) (ef p t c) = ef p t z := zf_put (i := 2) (by decide +kernel) (by simp)
section
variable {w : World} {K : PySem.W.Frag} {mg : Str → Option Value} {h : Heap} (T : Tx w K mg h) {H : Hp} {a dx : Addr}
include T
theorem Tx.r_Purse_room {l : Addr} {u : Int} {s : Int} {n : Int} {Q : V → Prop} (g : H a = some (.ins (ga K "Purse") dx (pf l u s n))) (q : Q (.int 1)) : ∃ a_1 C dx_1 fs v, V.ref a = V.ref a_1 ∧ H a_1 = some (.ins C dx_1 fs) ∧ Cls K C ∧ NoAttr K C "room" ∧ fs.lookup ("room" : Str) = some v ∧ Q v := ⟨a, _, dx, _, _, rfl, g, T.cs_Purse, T.na_Purse_room, pf_room, q⟩
theorem Tx.w_Purse_room {fs : List (Str × V)} {N : Addr → Addr → Addr → List (Str × V) → Prop} (g : H a = some (.ins (ga K "Purse") dx fs)) (q : N a (ga K "Purse") dx fs) (l : fs.length < 1000 := by exact of_decide_eq_true rfl) : ∃ a_1 C dx_1 fs, V.ref a = V.ref a_1 ∧ H a_1 = some (.ins C dx_1 fs) ∧ Cls K C ∧ NoAttr K C "room" ∧ fs.length < 1000 ∧ N a_1 C dx_1 fs := ⟨a, _, dx, _, rfl, g, T.cs_Purse, T.na_Purse_room, l, q⟩
theorem Tx.r_Purse_coins {l : Addr} {u : Int} {s : Int} {n : Int} {Q : V → Prop} (g : H a = some (.ins (ga K "Purse") dx (pf l u s n))) (q : Q (.ref l)) : ∃ a_1 C dx_1 fs v, V.ref a = V.ref a_1 ∧ H a_1 = some (.ins C dx_1 fs) ∧ Cls K C ∧ NoAttr K C "coins" ∧ fs.lookup ("coins" : Str) = some v ∧ Q v := ⟨a, _, dx, _, _, rfl, g, T.cs_Purse, T.na_Purse_coins, pf_coins, q⟩
theorem Tx.w_Purse_coins {fs : List (Str × V)} {N : Addr → Addr → Addr → List (Str × V) → Prop} (g : H a = some (.ins (ga K "Purse") dx fs)) (q : N a (ga K "Purse") dx fs) (l : fs.length < 1000 := by exact of_decide_eq_true rfl) : ∃ a_1 C dx_1 fs, V.ref a = V.ref a_1 ∧ H a_1 = some (.ins C dx_1 fs) ∧ Cls K C ∧ NoAttr K C "coins" ∧ fs.length < 1000 ∧ N a_1 C dx_1 fs := ⟨a, _, dx, _, rfl, g, T.cs_Purse, T.na_Purse_coins, l, q⟩
theorem Tx.r_Purse_used {l : Addr} {u : Int} {s : Int} {n : Int} {Q : V → Prop} (g : H a = some (.ins (ga K "Purse") dx (pf l u s n))) (q : Q (.int u)) : ∃ a_1 C dx_1 fs v, V.ref a = V.ref a_1 ∧ H a_1 = some (.ins C dx_1 fs) ∧ Cls K C ∧ NoAttr K C "used" ∧ fs.lookup ("used" : Str) = some v ∧ Q v := ⟨a, _, dx, _, _, rfl, g, T.cs_Purse, T.na_Purse_used, pf_used, q⟩
theorem Tx.w_Purse_used {fs : List (Str × V)} {N : Addr → Addr → Addr → List (Str × V) → Prop} (g : H a = some (.ins (ga K "Purse") dx fs)) (q : N a (ga K "Purse") dx fs) (l : fs.length < 1000 := by exact of_decide_eq_true rfl) : ∃ a_1 C dx_1 fs, V.ref a = V.ref a_1 ∧ H a_1 = some (.ins C dx_1 fs) ∧ Cls K C ∧ NoAttr K C "used" ∧ fs.length < 1000 ∧ N a_1 C dx_1 fs := ⟨a, _, dx, _, rfl, g, T.cs_Purse, T.na_Purse_used, l, q⟩
theorem Tx.r_Purse_size {l : Addr} {u : Int} {s : Int} {n : Int} {Q : V → Prop} (g : H a = some (.ins (ga K "Purse") dx (pf l u s n))) (q : Q (.int s)) : ∃ a_1 C dx_1 fs v, V.ref a = V.ref a_1 ∧ H a_1 = some (.ins C dx_1 fs) ∧ Cls K C ∧ NoAttr K C "size" ∧ fs.lookup ("size" : Str) = some v ∧ Q v := ⟨a, _, dx, _, _, rfl, g, T.cs_Purse, T.na_Purse_size, pf_size, q⟩
theorem Tx.w_Purse_size {fs : List (Str × V)} {N : Addr → Addr → Addr → List (Str × V) → Prop} (g : H a = some (.ins (ga K "Purse") dx fs)) (q : N a (ga K "Purse") dx fs) (l : fs.length < 1000 := by exact of_decide_eq_true rfl) : ∃ a_1 C dx_1 fs, V.ref a = V.ref a_1 ∧ H a_1 = some (.ins C dx_1 fs) ∧ Cls K C ∧ NoAttr K C "size" ∧ fs.length < 1000 ∧ N a_1 C dx_1 fs := ⟨a, _, dx, _, rfl, g, T.cs_Purse, T.na_Purse_size, l, q⟩
theorem Tx.r_Purse_number {l : Addr} {u : Int} {s : Int} {n : Int} {Q : V → Prop} (g : H a = some (.ins (ga K "Purse") dx (pf l u s n))) (q : Q (.int n)) : ∃ a_1 C dx_1 fs v, V.ref a = V.ref a_1 ∧ H a_1 = some (.ins C dx_1 fs) ∧ Cls K C ∧ NoAttr K C "number" ∧ fs.lookup ("number" : Str) = some v ∧ Q v := ⟨a, _, dx, _, _, rfl, g, T.cs_Purse, T.na_Purse_number, pf_number, q⟩
theorem Tx.w_Purse_number {fs : List (Str × V)} {N : Addr → Addr → Addr → List (Str × V) → Prop} (g : H a = some (.ins (ga K "Purse") dx fs)) (q : N a (ga K "Purse") dx fs) (l : fs.length < 1000 := by exact of_decide_eq_true rfl) : ∃ a_1 C dx_1 fs, V.ref a = V.ref a_1 ∧ H a_1 = some (.ins C dx_1 fs) ∧ Cls K C ∧ NoAttr K C "number" ∧ fs.length < 1000 ∧ N a_1 C dx_1 fs := ⟨a, _, dx, _, rfl, g, T.cs_Purse, T.na_Purse_number, l, q⟩
theorem Tx.r_Drawer_purse {p : Addr} {t : Addr} {c : Int} {m : Int} {Q : V → Prop} (g : H a = some (.ins (ga K "Drawer") dx (df p t c m))) (q : Q (.ref p)) : ∃ a_1 C dx_1 fs v, V.ref a = V.ref a_1 ∧ H a_1 = some (.ins C dx_1 fs) ∧ Cls K C ∧ NoAttr K C "purse" ∧ fs.lookup ("purse" : Str) = some v ∧ Q v := ⟨a, _, dx, _, _, rfl, g, T.cs_Drawer, T.na_Drawer_purse, df_purse, q⟩
theorem Tx.w_Drawer_purse {fs : List (Str × V)} {N : Addr → Addr → Addr → List (Str × V) → Prop} (g : H a = some (.ins (ga K "Drawer") dx fs)) (q : N a (ga K "Drawer") dx fs) (l : fs.length < 1000 := by exact of_decide_eq_true rfl) : ∃ a_1 C dx_1 fs, V.ref a = V.ref a_1 ∧ H a_1 = some (.ins C dx_1 fs) ∧ Cls K C ∧ NoAttr K C "purse" ∧ fs.length < 1000 ∧ N a_1 C dx_1 fs := ⟨a, _, dx, _, rfl, g, T.cs_Drawer, T.na_Drawer_purse, l, q⟩
theorem Tx.r_Drawer_things {p : Addr} {t : Addr} {c : Int} {m : Int} {Q : V → Prop} (g : H a = some (.ins (ga K "Drawer") dx (df p t c m))) (q : Q (.ref t)) : ∃ a_1 C dx_1 fs v, V.ref a = V.ref a_1 ∧ H a_1 = some (.ins C dx_1 fs) ∧ Cls K C ∧ NoAttr K C "things" ∧ fs.lookup ("things" : Str) = some v ∧ Q v := ⟨a, _, dx, _, _, rfl, g, T.cs_Drawer, T.na_Drawer_things, df_things, q⟩
theorem Tx.w_Drawer_things {fs : List (Str × V)} {N : Addr → Addr → Addr → List (Str × V) → Prop} (g : H a = some (.ins (ga K "Drawer") dx fs)) (q : N a (ga K "Drawer") dx fs) (l : fs.length < 1000 := by exact of_decide_eq_true rfl) : ∃ a_1 C dx_1 fs, V.ref a = V.ref a_1 ∧ H a_1 = some (.ins C dx_1 fs) ∧ Cls K C ∧ NoAttr K C "things" ∧ fs.length < 1000 ∧ N a_1 C dx_1 fs := ⟨a, _, dx, _, rfl, g, T.cs_Drawer, T.na_Drawer_things, l, q⟩
theorem Tx.r_Drawer_count {p : Addr} {t : Addr} {c : Int} {m : Int} {Q : V → Prop} (g : H a = some (.ins (ga K "Drawer") dx (df p t c m))) (q : Q (.int c)) : ∃ a_1 C dx_1 fs v, V.ref a = V.ref a_1 ∧ H a_1 = some (.ins C dx_1 fs) ∧ Cls K C ∧ NoAttr K C "count" ∧ fs.lookup ("count" : Str) = some v ∧ Q v := ⟨a, _, dx, _, _, rfl, g, T.cs_Drawer, T.na_Drawer_count, df_count, q⟩
theorem Tx.w_Drawer_count {fs : List (Str × V)} {N : Addr → Addr → Addr → List (Str × V) → Prop} (g : H a = some (.ins (ga K "Drawer") dx fs)) (q : N a (ga K "Drawer") dx fs) (l : fs.length < 1000 := by exact of_decide_eq_true rfl) : ∃ a_1 C dx_1 fs, V.ref a = V.ref a_1 ∧ H a_1 = some (.ins C dx_1 fs) ∧ Cls K C ∧ NoAttr K C "count" ∧ fs.length < 1000 ∧ N a_1 C dx_1 fs := ⟨a, _, dx, _, rfl, g, T.cs_Drawer, T.na_Drawer_count, l, q⟩
theorem Tx.r_Drawer_most {p : Addr} {t : Addr} {c : Int} {m : Int} {Q : V → Prop} (g : H a = some (.ins (ga K "Drawer") dx (df p t c m))) (q : Q (.int m)) : ∃ a_1 C dx_1 fs v, V.ref a = V.ref a_1 ∧ H a_1 = some (.ins C dx_1 fs) ∧ Cls K C ∧ NoAttr K C "most" ∧ fs.lookup ("most" : Str) = some v ∧ Q v := ⟨a, _, dx, _, _, rfl, g, T.cs_Drawer, T.na_Drawer_most, df_most, q⟩
theorem Tx.w_Drawer_most {fs : List (Str × V)} {N : Addr → Addr → Addr → List (Str × V) → Prop} (g : H a = some (.ins (ga K "Drawer") dx fs)) (q : N a (ga K "Drawer") dx fs) (l : fs.length < 1000 := by exact of_decide_eq_true rfl) : ∃ a_1 C dx_1 fs, V.ref a = V.ref a_1 ∧ H a_1 = some (.ins C dx_1 fs) ∧ Cls K C ∧ NoAttr K C "most" ∧ fs.length < 1000 ∧ N a_1 C dx_1 fs := ⟨a, _, dx, _, rfl, g, T.cs_Drawer, T.na_Drawer_most, l, q⟩
theorem Tx.r_Weigher_purse {p : Addr} {t : Addr} {c : Int} {m : Int} {Q : V → Prop} (g : H a = some (.ins (ga K "Weigher") dx (wf p t c m))) (q : Q (.ref p)) : ∃ a_1 C dx_1 fs v, V.ref a = V.ref a_1 ∧ H a_1 = some (.ins C dx_1 fs) ∧ Cls K C ∧ NoAttr K C "purse" ∧ fs.lookup ("purse" : Str) = some v ∧ Q v := ⟨a, _, dx, _, _, rfl, g, T.cs_Weigher, T.na_Weigher_purse, wf_purse, q⟩
theorem Tx.w_Weigher_purse {fs : List (Str × V)} {N : Addr → Addr → Addr → List (Str × V) → Prop} (g : H a = some (.ins (ga K "Weigher") dx fs)) (q : N a (ga K "Weigher") dx fs) (l : fs.length < 1000 := by exact of_decide_eq_true rfl) : ∃ a_1 C dx_1 fs, V.ref a = V.ref a_1 ∧ H a_1 = some (.ins C dx_1 fs) ∧ Cls K C ∧ NoAttr K C "purse" ∧ fs.length < 1000 ∧ N a_1 C dx_1 fs := ⟨a, _, dx, _, rfl, g, T.cs_Weigher, T.na_Weigher_purse, l, q⟩
theorem Tx.r_Weigher_things {p : Addr} {t : Addr} {c : Int} {m : Int} {Q : V → Prop} (g : H a = some (.ins (ga K "Weigher") dx (wf p t c m))) (q : Q (.ref t)) : ∃ a_1 C dx_1 fs v, V.ref a = V.ref a_1 ∧ H a_1 = some (.ins C dx_1 fs) ∧ Cls K C ∧ NoAttr K C "things" ∧ fs.lookup ("things" : Str) = some v ∧ Q v := ⟨a, _, dx, _, _, rfl, g, T.cs_Weigher, T.na_Weigher_things, wf_things, q⟩
theorem Tx.w_Weigher_things {fs : List (Str × V)} {N : Addr → Addr → Addr → List (Str × V) → Prop} (g : H a = some (.ins (ga K "Weigher") dx fs)) (q : N a (ga K "Weigher") dx fs) (l : fs.length < 1000 := by exact of_decide_eq_true rfl) : ∃ a_1 C dx_1 fs, V.ref a = V.ref a_1 ∧ H a_1 = some (.ins C dx_1 fs) ∧ Cls K C ∧ NoAttr K C "things" ∧ fs.length < 1000 ∧ N a_1 C dx_1 fs := ⟨a, _, dx, _, rfl, g, T.cs_Weigher, T.na_Weigher_things, l, q⟩
theorem Tx.r_Weigher_count {p : Addr} {t : Addr} {c : Int} {m : Int} {Q : V → Prop} (g : H a = some (.ins (ga K "Weigher") dx (wf p t c m))) (q : Q (.int c)) : ∃ a_1 C dx_1 fs v, V.ref a = V.ref a_1 ∧ H a_1 = some (.ins C dx_1 fs) ∧ Cls K C ∧ NoAttr K C "count" ∧ fs.lookup ("count" : Str) = some v ∧ Q v := ⟨a, _, dx, _, _, rfl, g, T.cs_Weigher, T.na_Weigher_count, wf_count, q⟩
theorem Tx.w_Weigher_count {fs : List (Str × V)} {N : Addr → Addr → Addr → List (Str × V) → Prop} (g : H a = some (.ins (ga K "Weigher") dx fs)) (q : N a (ga K "Weigher") dx fs) (l : fs.length < 1000 := by exact of_decide_eq_true rfl) : ∃ a_1 C dx_1 fs, V.ref a = V.ref a_1 ∧ H a_1 = some (.ins C dx_1 fs) ∧ Cls K C ∧ NoAttr K C "count" ∧ fs.length < 1000 ∧ N a_1 C dx_1 fs := ⟨a, _, dx, _, rfl, g, T.cs_Weigher, T.na_Weigher_count, l, q⟩
theorem Tx.r_Weigher_total {p : Addr} {t : Addr} {c : Int} {m : Int} {Q : V → Prop} (g : H a = some (.ins (ga K "Weigher") dx (wf p t c m))) (q : Q (.int m)) : ∃ a_1 C dx_1 fs v, V.ref a = V.ref a_1 ∧ H a_1 = some (.ins C dx_1 fs) ∧ Cls K C ∧ NoAttr K C "total" ∧ fs.lookup ("total" : Str) = some v ∧ Q v := ⟨a, _, dx, _, _, rfl, g, T.cs_Weigher, T.na_Weigher_total, wf_total, q⟩
theorem Tx.w_Weigher_total {fs : List (Str × V)} {N : Addr → Addr → Addr → List (Str × V) → Prop} (g : H a = some (.ins (ga K "Weigher") dx fs)) (q : N a (ga K "Weigher") dx fs) (l : fs.length < 1000 := by exact of_decide_eq_true rfl) : ∃ a_1 C dx_1 fs, V.ref a = V.ref a_1 ∧ H a_1 = some (.ins C dx_1 fs) ∧ Cls K C ∧ NoAttr K C "total" ∧ fs.length < 1000 ∧ N a_1 C dx_1 fs := ⟨a, _, dx, _, rfl, g, T.cs_Weigher, T.na_Weigher_total, l, q⟩
theorem Tx.r_Desk_purse {p : Addr} {t : Addr} {c : Addr} {Q : V → Prop} (g : H a = some (.ins (ga K "Desk") dx (ef p t c))) (q : Q (.ref p)) : ∃ a_1 C dx_1 fs v, V.ref a = V.ref a_1 ∧ H a_1 = some (.ins C dx_1 fs) ∧ Cls K C ∧ NoAttr K C "purse" ∧ fs.lookup ("purse" : Str) = some v ∧ Q v := ⟨a, _, dx, _, _, rfl, g, T.cs_Desk, T.na_Desk_purse, ef_purse, q⟩
theorem Tx.w_Desk_purse {fs : List (Str × V)} {N : Addr → Addr → Addr → List (Str × V) → Prop} (g : H a = some (.ins (ga K "Desk") dx fs)) (q : N a (ga K "Desk") dx fs) (l : fs.length < 1000 := by exact of_decide_eq_true rfl) : ∃ a_1 C dx_1 fs, V.ref a = V.ref a_1 ∧ H a_1 = some (.ins C dx_1 fs) ∧ Cls K C ∧ NoAttr K C "purse" ∧ fs.length < 1000 ∧ N a_1 C dx_1 fs := ⟨a, _, dx, _, rfl, g, T.cs_Desk, T.na_Desk_purse, l, q⟩
theorem Tx.r_Desk_programs {p : Addr} {t : Addr} {c : Addr} {Q : V → Prop} (g : H a = some (.ins (ga K "Desk") dx (ef p t c))) (q : Q (.ref t)) : ∃ a_1 C dx_1 fs v, V.ref a = V.ref a_1 ∧ H a_1 = some (.ins C dx_1 fs) ∧ Cls K C ∧ NoAttr K C "programs" ∧ fs.lookup ("programs" : Str) = some v ∧ Q v := ⟨a, _, dx, _, _, rfl, g, T.cs_Desk, T.na_Desk_programs, ef_programs, q⟩
theorem Tx.w_Desk_programs {fs : List (Str × V)} {N : Addr → Addr → Addr → List (Str × V) → Prop} (g : H a = some (.ins (ga K "Desk") dx fs)) (q : N a (ga K "Desk") dx fs) (l : fs.length < 1000 := by exact of_decide_eq_true rfl) : ∃ a_1 C dx_1 fs, V.ref a = V.ref a_1 ∧ H a_1 = some (.ins C dx_1 fs) ∧ Cls K C ∧ NoAttr K C "programs" ∧ fs.length < 1000 ∧ N a_1 C dx_1 fs := ⟨a, _, dx, _, rfl, g, T.cs_Desk, T.na_Desk_programs, l, q⟩
theorem Tx.r_Desk_keepers {p : Addr} {t : Addr} {c : Addr} {Q : V → Prop} (g : H a = some (.ins (ga K "Desk") dx (ef p t c))) (q : Q (.ref c)) : ∃ a_1 C dx_1 fs v, V.ref a = V.ref a_1 ∧ H a_1 = some (.ins C dx_1 fs) ∧ Cls K C ∧ NoAttr K C "keepers" ∧ fs.lookup ("keepers" : Str) = some v ∧ Q v := ⟨a, _, dx, _, _, rfl, g, T.cs_Desk, T.na_Desk_keepers, ef_keepers, q⟩
theorem Tx.w_Desk_keepers {fs : List (Str × V)} {N : Addr → Addr → Addr → List (Str × V) → Prop} (g : H a = some (.ins (ga K "Desk") dx fs)) (q : N a (ga K "Desk") dx fs) (l : fs.length < 1000 := by exact of_decide_eq_true rfl) : ∃ a_1 C dx_1 fs, V.ref a = V.ref a_1 ∧ H a_1 = some (.ins C dx_1 fs) ∧ Cls K C ∧ NoAttr K C "keepers" ∧ fs.length < 1000 ∧ N a_1 C dx_1 fs := ⟨a, _, dx, _, rfl, g, T.cs_Desk, T.na_Desk_keepers, l, q⟩
end
end Ev

set_option Elab.async false
set_option linter.all false
set_option maxRecDepth 100000
set_option maxHeartbeats 2000000
/-! Comprehensions that give a value for each turn and leave all that was tracked. -/
namespace Ev
open PySem PySem.Spec PyProof.Rows L2 He
theorem iteD {p A B : Prop} [Decidable p] (h1 : p → A) (h2 : ¬ p → B) : if decide p = true then A else B := by
  by_cases h : p
  · rw [decide_eq_true h]
    exact h1 h
  · rw [decide_eq_false h]
    exact h2 h
theorem vint_eq {i j : Int} : (V.int i = V.int j) ↔ i = j := ⟨fun h => by cases h; rfl, fun h => by rw [h]⟩
theorem vstr_eq {i j : Str} : (V.str i = V.str j) ↔ i = j := ⟨fun h => by cases h; rfl, fun h => by rw [h]⟩
theorem iteVi {A B : Prop} {i j : Int} (h1 : i = j → A) (h2 : ¬ i = j → B) : if decide (V.int i = V.int j) = true then A else B := iteD (fun e => h1 (vint_eq.mp e)) fun e => h2 fun z => e (vint_eq.mpr z)
theorem iteVs {A B : Prop} {i j : Str} (h1 : i = j → A) (h2 : ¬ i = j → B) : if decide (V.str i = V.str j) = true then A else B := iteD (fun e => h1 (vstr_eq.mp e)) fun e => h2 fun z => e (vstr_eq.mpr z)
theorem iteNi {A B : Prop} {i j : Int} (h1 : i = j → A) (h2 : ¬ i = j → B) : if (!decide (V.int i = V.int j)) = true then B else A := by
  by_cases h : i = j
  · rw [decide_eq_true (vint_eq.mpr h)]
    exact h1 h
  · rw [decide_eq_false fun z => h (vint_eq.mp z)]
    exact h2 h
theorem iteNs {A B : Prop} {i j : Str} (h1 : i = j → A) (h2 : ¬ i = j → B) : if (!decide (V.str i = V.str j)) = true then B else A := by
  by_cases h : i = j
  · rw [decide_eq_true (vstr_eq.mpr h)]
    exact h1 h
  · rw [decide_eq_false fun z => h (vstr_eq.mp z)]
    exact h2 h
section
variable {J : It} {n : Nat} {G : Hp → Prop} {Y : Nat → Hp → V → Hp → Prop} {g : TG} {tt : TT} {te : TE} {vs : List Nat} {σ : L2.St} {H1 : Hp} {D : Addr} {Qd : Hp → Prop}
theorem lc_same (w : Walk J n G Y) (f : Nat → V) (hD : H1 D = none) (hn : n ≤ 1000000) (hG : ∀ H, Same H1 H → G H) (hY : ∀ i H x H', Y i H x H' → Same H H')
    (hs : ∀ i x H H', i < n → Same H1 H → Y i H x H' → ∀ (R : VK) (S : Hp → Prop), (∀ H4, Same H' H4 → R (f i) H4) → g x (wipe σ vs) H' fun σ2 H2 => wipe σ2 vs = wipe σ vs ∧ tt σ2 H2 fun b H3 => if b = true then te σ2 H3 R else S H3)
    (hd : ∀ H, Same H1 H → H D = some (.lst ((List.range n).map f)) → Qd H) :
    ∃ W : Nat → Nat → Hp → Prop, (∃ m, W 0 m (upd H1 D (.lst []))) ∧ ∀ i m H, W i m H →
      (J.stop i H ∧ Qd H) ∨ (J.go i H ∧ ∃ Nx : Hp → Prop, (∀ H', Nx H' → ∃ m', m' < m ∧ W (i + 1) m' H') ∧ ∀ x H', J.yld i H x H' → g x (wipe σ vs) H' fun σ2 H2 => wipe σ2 vs = wipe σ vs ∧ tt σ2 H2 fun b H3 =>
        if b = true then te σ2 H3 fun y H4 => ∃ acc, H4 D = some (.lst acc) ∧ acc.length < sizeLine ∧ Nx (upd H4 D (.lst (acc ++ [y]))) else Nx H3) := by
  refine lc_it w (fun i H => i ≤ n ∧ Same H1 H ∧ H D = some (.lst ((List.range i).map f))) ⟨Nat.zero_le _, (Same.refl H1).upd hD, upd_same⟩ (fun i H _ h => hG H h.2.1) (fun i x H H' hi hp y => ?_) fun H h => hd H h.2.1 h.2.2
  obtain ⟨_, s1, hl⟩ := hp
  refine hs i x H H' hi s1 y _ _ fun H4 s4 => ?_
  have s14 := s1.trans ((hY i H x H' y).trans s4)
  refine ⟨_, s4 _ _ (hY i H x H' y _ _ hl), ?_, by omega, ?_, ?_⟩
  · rw [List.length_map, List.length_range, sizeLine_eq]
    omega
  · intro b o e
    rw [upd_ne (ne_of_none e hD)]
    exact s14 b o e
  · rw [upd_same, List.range_succ, List.map_append]
    rfl
theorem range_map {α β : Type} {xs : List α} {f : α → β} {u : Nat → β} (h : ∀ i x, xs[i]? = some x → u i = f x) : (List.range xs.length).map u = xs.map f := by
  apply List.ext_getElem?
  intro i
  rw [List.getElem?_map, List.getElem?_map]
  by_cases hi : i < xs.length
  · rw [List.getElem?_range hi, List.getElem?_eq_getElem hi]
    show some (u i) = some (f xs[i])
    rw [h i xs[i] (List.getElem?_eq_getElem hi)]
  · rw [List.getElem?_eq_none (l := xs) (by omega), List.getElem?_eq_none (l := List.range xs.length) (by rw [List.length_range]; omega)]
    rfl
theorem lc_mapL {K : PySem.W.Frag} {a : Addr} {α : Type} {xs : List α} {e f : α → V} (hq : SqL K H1 a (xs.map e)) (hD : H1 D = none) (hn : xs.length ≤ 1000000)
    (hs : ∀ x H, x ∈ xs → Same H1 H → ∀ (R : VK) (S : Hp → Prop), (∀ H4, Same H H4 → R (f x) H4) → g (e x) (wipe σ vs) H fun σ2 H2 => wipe σ2 vs = wipe σ vs ∧ tt σ2 H2 fun b H3 => if b = true then te σ2 H3 R else S H3)
    (hd : ∀ H, Same H1 H → H D = some (.lst (xs.map f)) → Qd H) :
    ∃ W : Nat → Nat → Hp → Prop, (∃ m, W 0 m (upd H1 D (.lst []))) ∧ ∀ i m H, W i m H →
      ((Itl K a).stop i H ∧ Qd H) ∨ ((Itl K a).go i H ∧ ∃ Nx : Hp → Prop, (∀ H', Nx H' → ∃ m', m' < m ∧ W (i + 1) m' H') ∧ ∀ x H', (Itl K a).yld i H x H' → g x (wipe σ vs) H' fun σ2 H2 => wipe σ2 vs = wipe σ vs ∧ tt σ2 H2 fun b H3 =>
        if b = true then te σ2 H3 fun y H4 => ∃ acc, H4 D = some (.lst acc) ∧ acc.length < sizeLine ∧ Nx (upd H4 D (.lst (acc ++ [y]))) else Nx H3) := by
  refine lc_same (walk_list (xs := xs.map e)) (fun i => (xs[i]?.map f).getD .non) hD (by rw [List.length_map]; exact hn) (fun H s => s.seq hq) (fun i H x H' y => by rw [y.1]; exact Same.refl H) (fun i x H H' hi s y R S hR => ?_) fun H s hl => hd H s ?_
  · obtain ⟨rfl, y⟩ := y
    rw [List.length_map] at hi
    rw [List.getElem?_map, List.getElem?_eq_getElem hi] at y
    cases y
    rw [List.getElem?_eq_getElem hi] at hR
    exact hs xs[i] H' (List.getElem_mem hi) s R S hR
  · rw [hl, List.length_map, range_map (f := f) fun i x e => by rw [e]; rfl]
theorem lc_mapR {lo : Int} {m : Nat} {f : Nat → V} (hD : H1 D = none) (hn : m ≤ 1000000)
    (hs : ∀ i H, i < m → Same H1 H → ∀ (R : VK) (S : Hp → Prop), (∀ H4, Same H H4 → R (f i) H4) → g (.int (lo + i)) (wipe σ vs) H fun σ2 H2 => wipe σ2 vs = wipe σ vs ∧ tt σ2 H2 fun b H3 => if b = true then te σ2 H3 R else S H3)
    (hd : ∀ H, Same H1 H → H D = some (.lst ((List.range m).map f)) → Qd H) :
    ∃ W : Nat → Nat → Hp → Prop, (∃ m, W 0 m (upd H1 D (.lst []))) ∧ ∀ i j H, W i j H →
      ((Itr lo m).stop i H ∧ Qd H) ∨ ((Itr lo m).go i H ∧ ∃ Nx : Hp → Prop, (∀ H', Nx H' → ∃ m', m' < j ∧ W (i + 1) m' H') ∧ ∀ x H', (Itr lo m).yld i H x H' → g x (wipe σ vs) H' fun σ2 H2 => wipe σ2 vs = wipe σ vs ∧ tt σ2 H2 fun b H3 =>
        if b = true then te σ2 H3 fun y H4 => ∃ acc, H4 D = some (.lst acc) ∧ acc.length < sizeLine ∧ Nx (upd H4 D (.lst (acc ++ [y]))) else Nx H3) := by
  refine lc_same walk_range f hD hn (fun H s => trivial) (fun i H x H' y => by rw [y.1]; exact Same.refl H) (fun i x H H' hi s y R S hR => ?_) hd
  obtain ⟨rfl, rfl⟩ := y
  exact hs i H' hi s R S hR
theorem lc_mapS {z : Str} {f : Nat → V} (hD : H1 D = none) (hn : z.cps.size ≤ 1000000)
    (hs : ∀ c H, c ∈ z.cps.toList → Same H1 H → ∀ (R : VK) (S : Hp → Prop), (∀ H4, Same H H4 → R (f c) H4) → g (.str ⟨#[c]⟩) (wipe σ vs) H fun σ2 H2 => wipe σ2 vs = wipe σ vs ∧ tt σ2 H2 fun b H3 => if b = true then te σ2 H3 R else S H3)
    (hd : ∀ H, Same H1 H → H D = some (.lst (z.cps.toList.map f)) → Qd H) :
    ∃ W : Nat → Nat → Hp → Prop, (∃ m, W 0 m (upd H1 D (.lst []))) ∧ ∀ i j H, W i j H →
      ((Its z).stop i H ∧ Qd H) ∨ ((Its z).go i H ∧ ∃ Nx : Hp → Prop, (∀ H', Nx H' → ∃ m', m' < j ∧ W (i + 1) m' H') ∧ ∀ x H', (Its z).yld i H x H' → g x (wipe σ vs) H' fun σ2 H2 => wipe σ2 vs = wipe σ vs ∧ tt σ2 H2 fun b H3 =>
        if b = true then te σ2 H3 fun y H4 => ∃ acc, H4 D = some (.lst acc) ∧ acc.length < sizeLine ∧ Nx (upd H4 D (.lst (acc ++ [y]))) else Nx H3) := by
  refine lc_same walk_str (fun i => (z.cps.toList[i]?.map f).getD .non) hD hn (fun H s => trivial) (fun i H x H' y => by rw [y.1]; exact Same.refl H) (fun i x H H' hi s y R S hR => ?_) fun H s hl => hd H s ?_
  · obtain ⟨rfl, c, hc, rfl⟩ := y
    have hc' : z.cps.toList[i]? = some c := by rw [Array.getElem?_toList]; exact hc
    rw [hc'] at hR
    exact hs c H' (List.mem_of_getElem? hc') s R S hR
  · rw [hl, ← Array.length_toList, range_map (f := f) fun i x e => by rw [e]; rfl]
end
end Ev

set_option Elab.async false
set_option linter.all false
set_option maxRecDepth 100000
set_option maxHeartbeats 2000000
/-! The purse's methods. -/
namespace Ev
open PySem PySem.Spec PyProof.Rows L2 He
/-- a purse stands at p, its list of coins at l -/
def PurseAt (K : PySem.W.Frag) (H : Hp) (p l : Addr) (B : Nat) (q : Pool) : Prop := ∃ (dx : Addr) (used : Nat) (full : List Int), H p = some (.ins (ga K "Purse") dx (pf l used q.size q.num)) ∧ H l = some (.lst (full.map .int)) ∧ used ≤ full.length ∧ full.drop used = q.coins ∧ full.length ≤ B ∧ q.Ok
def sp_Purse_init (K : PySem.W.Frag) : Sp := fun vs H Q _ => ∃ (p dx : Addr), vs = [.ref p, .int 1] ∧ H p = some (.ins (ga K "Purse") dx []) ∧ ∀ (l : Addr) (H' : Hp), H l = none → PurseAt K H' p l 0 ⟨1, 0, []⟩ → Fr (fun b => b = p) H H' → Q .non H'
def sp_Purse_put (K : PySem.W.Frag) : Sp := fun vs H Q _ => ∃ (p l c : Addr) (B n : Nat) (q : Pool) (cs : List Int), vs = [.ref p, .ref c] ∧ PurseAt K H p l B q ∧ H c = some (.lst (cs.map .int)) ∧ cs.length ≤ n ∧ (∀ c ∈ cs, c = 0 ∨ c = 1) ∧ B + n ≤ 100000 ∧
  ∀ (l' : Addr) (H' : Hp), H l' = none → PurseAt K H' p l' (B + n) ⟨q.size, q.num, q.coins ++ cs⟩ → Fr (fun b => b = p) H H' → Q .non H'
def sp_Purse_left (K : PySem.W.Frag) : Sp := fun vs H Q _ => ∃ (p l : Addr) (B : Nat) (q : Pool), vs = [.ref p] ∧ PurseAt K H p l B q ∧ B ≤ 100000 ∧ Q (.int q.coins.length) H
def sp_Purse_there (K : PySem.W.Frag) : Sp := fun vs H Q _ => ∃ (p l : Addr) (B : Nat) (q : Pool), vs = [.ref p] ∧ PurseAt K H p l B q ∧ ∀ t, H t = none → Q (.ref t) (upd H t (.lst (q.coins.map .int)))
def sp_Purse_take (K : PySem.W.Frag) : Sp := fun vs H Q _ => ∃ (p l : Addr) (B : Nat) (q : Pool) (n : Nat), vs = [.ref p, .int n] ∧ PurseAt K H p l B q ∧ n ≤ q.coins.length ∧ ∀ H', PurseAt K H' p l B ⟨q.size, q.num, q.coins.drop n⟩ → Fr (fun b => b = p) H H' → Q .non H'
theorem cut_from {xs : List V} {i : Nat} (h : i ≤ xs.length) : cutV xs (some (i : Int)) none = xs.drop i := by
  unfold cutV
  have e : HT.sIx xs.length 0 (some (i : Int)) = i := by rw [HT.sIx_nat]; omega
  rw [e, HT.sIx_none, List.take_of_length_le (by rw [List.length_drop]; exact Nat.le_refl _)]
section
variable {P : Program} {w : World} {K : PySem.W.Frag} {mg : Str → Option Value} {base h : Heap}
abbrev N_Short_init : List Str := ["self", "spent"]
abbrev P_Short_init : List Str := ["self", "spent"]
theorem sc_Short_init : FnScope N_Short_init P_Short_init (defScope s_Short_init) := ⟨rfl, rfl, rfl, by decide +kernel, rfl, by decide +kernel, by decide +kernel⟩
theorem ok_Short_init (T : Tx w K mg h) : Cal P w K mg base 1 (ma K (ga K "Short") "__init__") (spX1 (ga K "Short") "spent") := by
  obtain ⟨fd, F⟩ := T.fn_Short_init
  refine okOf F sc_Short_init (fun _ _ _ _ _ _ us hl => match us, hl with | [_, _], _ => rfl) (fun vs H Q E h => ?_) (fun cdv A outer s H vs Q E hr hsp => ?_)
  · repeat (first | (obtain ⟨h1, _⟩ := h; subst h1; rfl) | (obtain ⟨_, h⟩ := h))
  · obtain ⟨a, v, rfl, ha, q⟩ := hsp
    refine ⟨_, (pss_cons (ps_expr (pc_offve T.gl_EvenError T.off_EvenError (pa_cons (pv 0) (pa_cons pe_str pa_nil))))
        (pss_one (ps_ost (pv 0) (pv 1)))), ?_⟩
    refine ⟨_, rfl, a, _, _, rfl, (by show 1 ≤ 1000; decide), T.ox_Short, ha, _, rfl, _, rfl, a, _, rfl, T.ox_Short, T.sh_no, .inl ⟨ha, fun d nd nda => q d _ nd nda upd_same ?_ ?_⟩⟩
    · rw [upd_ne nda, upd_same]
    · intro b o e ne
      rw [upd_ne ne, upd_ne (ne_of_none e nd)]
      exact e
abbrev N_Purse_put : List Str := ["self", "coins"]
abbrev P_Purse_put : List Str := ["self", "coins"]
theorem sc_Purse_put : FnScope N_Purse_put P_Purse_put (defScope s_Purse_put) := ⟨rfl, rfl, rfl, by decide +kernel, rfl, by decide +kernel, by decide +kernel⟩
theorem ok_Purse_put (T : Tx w K mg h) : Cal P w K mg base 1 (ma K (ga K "Purse") "put") (sp_Purse_put K) := by
  obtain ⟨fd, F⟩ := T.fn_Purse_put
  refine okOf F sc_Purse_put (fun _ _ _ _ _ _ us hl => match us, hl with | [_, _], _ => rfl) (fun vs H Q E h => ?_) (fun cdv A outer s H vs Q E hr hsp => ?_)
  · repeat (first | (obtain ⟨h1, _⟩ := h; subst h1; rfl) | (obtain ⟨_, h⟩ := h))
  · obtain ⟨p, l, c, B, n, q, cs, rfl, ⟨dx, used, full, hp, hl, h1, h2, h3, h4⟩, hc, h5, h6, h7, k⟩ := hsp
    refine ⟨_, (pss_one (ps_fld (pv 0) (pe_op op_cat (pe_fld (pv 0) rfl) (pe_callTy call_list_of (by rfl) T.fr_list boot_list (pa_cons (pv 1) pa_nil))) rfl)), ?_⟩
    have pl : p ≠ l := ne_of hp hl (by intro z; cases z)
    refine ⟨_, rfl, T.r_Purse_coins hp ⟨_, rfl, _, _, rfl, .inl (SqL.of hc), fun t ht => ?_⟩⟩
    have tl : l ≠ t := ne_of_none hl ht
    have tp : p ≠ t := ne_of_none hp ht
    refine ⟨_, _, _, _, rfl, rfl, (by rw [upd_ne tl]; exact hl), upd_same, (by rw [List.length_map, List.length_map, sizeLine_eq]; omega), fun l' hl' => ?_⟩
    have lt : l' ≠ t := fun e => by rw [e, upd_same] at hl'; cases hl'
    have hl2 : H l' = none := by rw [upd_ne lt] at hl'; exact hl'
    have lp : p ≠ l' := ne_of_none hp hl2
    refine ⟨_, rfl, T.w_Purse_coins (by rw [upd_ne lp, upd_ne tp]; exact hp) ?_⟩
    rw [pf_put_coins]
    refine k l' _ hl2 ⟨dx, used, full ++ cs, upd_same, by rw [upd_ne lp.symm, upd_same, List.map_append], by rw [List.length_append]; omega, by rw [List.drop_append_of_le_length h1, h2], by rw [List.length_append]; omega, ⟨h4.one, h4.low, h4.lt, h4.top, ?_⟩⟩ ?_
    · intro z hz
      rcases List.mem_append.mp hz with hz | hz
      · exact h4.coin z hz
      · exact h6 z hz
    · exact ((Fr.refl.upd (.inr ht)).upd (.inr hl2)).upd (.inl rfl)
abbrev N_Purse_left : List Str := ["self"]
abbrev P_Purse_left : List Str := ["self"]
theorem sc_Purse_left : FnScope N_Purse_left P_Purse_left (defScope s_Purse_left) := ⟨rfl, rfl, rfl, by decide +kernel, rfl, by decide +kernel, by decide +kernel⟩
theorem ok_Purse_left (T : Tx w K mg h) : Cal P w K mg base 1 (ma K (ga K "Purse") "left") (sp_Purse_left K) := by
  obtain ⟨fd, F⟩ := T.fn_Purse_left
  refine okOf F sc_Purse_left (fun _ _ _ _ _ _ us hl => match us, hl with | [_], _ => rfl) (fun vs H Q E h => ?_) (fun cdv A outer s H vs Q E hr hsp => ?_)
  · repeat (first | (obtain ⟨h1, _⟩ := h; subst h1; rfl) | (obtain ⟨_, h⟩ := h))
  · obtain ⟨p, l, B, q, rfl, ⟨dx, used, full, hp, hl, h1, h2, h3, h4⟩, h5, k⟩ := hsp
    refine ⟨_, (pss_one (ps_ret (pe_op op_sub (pe_callB call_len_seq (by rfl) T.fr_len boot_len (pa_cons (pe_fld (pv 0) rfl) pa_nil)) (pe_fld (pv 0) rfl)))), ?_⟩
    refine ⟨_, rfl, T.r_Purse_coins hp ⟨_, _, rfl, .inl (SqL.of hl), _, rfl, T.r_Purse_used hp ⟨_, _, rfl, rfl, ?_⟩⟩⟩
    have e : (full.length : Int) - (used : Int) = (q.coins.length : Int) := by rw [← h2, List.length_drop]; omega
    rw [List.length_map]
    show Q (.int ((full.length : Int) - (used : Int))) H
    rw [e]
    exact k
abbrev N_Purse_there : List Str := ["self"]
abbrev P_Purse_there : List Str := ["self"]
theorem sc_Purse_there : FnScope N_Purse_there P_Purse_there (defScope s_Purse_there) := ⟨rfl, rfl, rfl, by decide +kernel, rfl, by decide +kernel, by decide +kernel⟩
theorem ok_Purse_there (T : Tx w K mg h) : Cal P w K mg base 1 (ma K (ga K "Purse") "there") (sp_Purse_there K) := by
  obtain ⟨fd, F⟩ := T.fn_Purse_there
  refine okOf F sc_Purse_there (fun _ _ _ _ _ _ us hl => match us, hl with | [_], _ => rfl) (fun vs H Q E h => ?_) (fun cdv A outer s H vs Q E hr hsp => ?_)
  · repeat (first | (obtain ⟨h1, _⟩ := h; subst h1; rfl) | (obtain ⟨_, h⟩ := h))
  · obtain ⟨p, l, B, q, rfl, ⟨dx, used, full, hp, hl, h1, h2, h3, h4⟩, k⟩ := hsp
    refine ⟨_, (pss_one (ps_ret (pe_slice sl_list (pe_fld (pv 0) rfl) (po_some (pe_fld (pv 0) rfl)) po_none))), ?_⟩
    refine ⟨_, rfl, T.r_Purse_coins hp ⟨_, rfl, T.r_Purse_used hp ⟨_, rfl, _, _, rfl, SqL.of hl, fun t ht => ?_⟩⟩⟩
    rw [cut_from (by rw [List.length_map]; exact h1), ← List.map_drop, h2]
    exact k t ht
abbrev N_Purse_take : List Str := ["self", "many"]
abbrev P_Purse_take : List Str := ["self", "many"]
theorem sc_Purse_take : FnScope N_Purse_take P_Purse_take (defScope s_Purse_take) := ⟨rfl, rfl, rfl, by decide +kernel, rfl, by decide +kernel, by decide +kernel⟩
theorem ok_Purse_take (T : Tx w K mg h) : Cal P w K mg base 1 (ma K (ga K "Purse") "take") (sp_Purse_take K) := by
  obtain ⟨fd, F⟩ := T.fn_Purse_take
  refine okOf F sc_Purse_take (fun _ _ _ _ _ _ us hl => match us, hl with | [_, _], _ => rfl) (fun vs H Q E h => ?_) (fun cdv A outer s H vs Q E hr hsp => ?_)
  · repeat (first | (obtain ⟨h1, _⟩ := h; subst h1; rfl) | (obtain ⟨_, h⟩ := h))
  · obtain ⟨p, l, B, q, n, rfl, ⟨dx, used, full, hp, hl, h1, h2, h3, h4⟩, h5, k⟩ := hsp
    refine ⟨_, (pss_one (ps_fldaug (pv 0) (pv 1) in_add)), ?_⟩
    have pl : p ≠ l := ne_of hp hl (by intro z; cases z)
    have hq : full.length - used = q.coins.length := by rw [← h2, List.length_drop]
    refine ⟨_, rfl, p, _, dx, _, _, rfl, hp, T.cs_Purse, T.na_Purse_used, pf_used, _, rfl, _, _, rfl, rfl, dx, _, hp, (by show 5 < 1000; decide), ?_⟩
    rw [pf_put_used, show (used : Int) + (n : Int) = ((used + n : Nat) : Int) by omega]
    refine k _ ⟨dx, used + n, full, upd_same, by rw [upd_ne pl.symm]; exact hl, by omega, by rw [← List.drop_drop, h2], h3, ⟨h4.one, h4.low, h4.lt, h4.top, fun z hz => h4.coin z (List.mem_of_mem_drop hz)⟩⟩ (Fr.refl.upd (.inl rfl))
end
end Ev

set_option Elab.async false
set_option linter.all false
set_option maxRecDepth 100000
set_option maxHeartbeats 2000000
/-! Purse.drawn. -/
namespace Ev
open PySem PySem.Spec PyProof.Rows L2 He
def sp_Purse_drawn (K : PySem.W.Frag) : Sp := fun vs H Q E => ∃ (p dx l st : Addr) (full : List Int) (u0 used : Nat) (s0 n0 size num m : Int), vs = [.ref p, .ref st, .int m] ∧ H p = some (.ins (ga K "Purse") dx (pf l u0 s0 n0)) ∧ H l = some (.lst (full.map .int)) ∧ SqT K H st [.int used, .int size, .int num] ∧
  used ≤ full.length ∧ full.length ≤ 100000 ∧ Few m ∧ Pool.Ok ⟨size, num, full.drop used⟩ ∧ (drawP m (full.drop used) size num = none → Rz K (.short ((full.length : Int) - u0)) E H) ∧
  (∀ a q, drawP m (full.drop used) size num = some (a, q) → ∀ H' r t, Same H H' → H' r = some (.tup [.int a, .ref t]) → H' t = some (.tup [.int (full.length - q.coins.length : Nat), .int q.size, .int q.num]) → Q (.ref r) H')
/-- what both loops keep -/
structure DrW (p st : Addr) (full : List Int) (m : Int) (R : Option (Int × Pool)) (H0 : Hp) (used : Nat) (size num : Int) (pv : Option V) (σ : L2.St) (H : Hp) : Prop where
  s : σ = [some (.ref p), some (.ref st), some (.int m), some (.int used), some (.int size), some (.int num), pv]
  h : H0 = H
  u : used ≤ full.length
  ok : Pool.Ok ⟨size, num, full.drop used⟩
  r : drawP m (full.drop used) size num = R
theorem drop_at {full : List Int} {i : Nat} (h : i < full.length) : full.drop i = full[i] :: full.drop (i + 1) := List.drop_eq_getElem_cons h
theorem lst_at {full : List Int} {i : Nat} (h : i < full.length) : atI (full.map V.int) (i : Int) = some (.int full[i]) := atI_nat (by rw [List.getElem?_map, List.getElem?_eq_getElem h]; rfl)
theorem ok_more {size num : Int} {c : Int} {cs : List Int} (h : Pool.Ok ⟨size, num, c :: cs⟩) (hs : size < 2 ^ 63) : Pool.Ok ⟨2 * size, 2 * num + c, cs⟩ := by
  have c01 := h.coin c List.mem_cons_self
  have h1 : 1 ≤ size := h.one
  have h2 : 0 ≤ num := h.low
  have h3 : num < size := h.lt
  exact ⟨show 1 ≤ 2 * size by omega, show 0 ≤ 2 * num + c by omega, show 2 * num + c < 2 * size by omega, show 2 * size < 2 ^ 64 by omega, fun z hz => h.coin z (List.mem_cons_of_mem _ hz)⟩
/-- with too small a size: a coin more -/
theorem drawP_less {m size num : Int} {cs : List Int} (h : size < m) : drawP m cs size num = match cs with | [] => none | c :: t => drawP m t (2 * size) (2 * num + c) := by
  cases cs with
  | nil => unfold drawP; rw [if_pos h]
  | cons c t => conv => lhs; unfold drawP
                rw [if_pos h]
theorem drawP_yes {m size num : Int} {cs : List Int} (h : ¬ size < m) (h' : num < size / m * m) : drawP m cs size num = some (num % m, ⟨size / m, num / m, cs⟩) := by
  cases cs with
  | nil => unfold drawP; rw [if_neg h, if_pos h']
  | cons c t => unfold drawP; rw [if_neg h, if_pos h']
/-- refused: the rest -/
theorem drawP_no {m size num : Int} {cs : List Int} (hm : 1 ≤ m) (h : ¬ size < m) (h0 : 0 ≤ size) (h' : ¬ num < size / m * m) : drawP m cs size num = drawP m cs (size - size / m * m) (num - size / m * m) := by
  obtain ⟨d1, d2, d3⟩ := div_mul_le (s := size) h0 hm
  have l : size - size / m * m < m := by omega
  rw [drawP_less l]
  cases cs with
  | nil => unfold drawP; rw [if_neg h, if_neg h']
  | cons c t => conv => lhs; unfold drawP
                rw [if_neg h, if_neg h']
section
variable {P : Program} {w : World} {K : PySem.W.Frag} {mg : Str → Option Value} {base h : Heap}
abbrev N_Purse_drawn : List Str := ["self", "state", "many", "used", "size", "number", "parts"]
abbrev P_Purse_drawn : List Str := ["self", "state", "many"]
theorem sc_Purse_drawn : FnScope N_Purse_drawn P_Purse_drawn (defScope s_Purse_drawn) := ⟨rfl, rfl, rfl, by decide +kernel, rfl, by decide +kernel, by decide +kernel⟩
theorem ok_Purse_drawn (T : Tx w K mg h) : Cal P w K mg base 3 (ma K (ga K "Purse") "drawn") (sp_Purse_drawn K) := by
  obtain ⟨fd, F⟩ := T.fn_Purse_drawn
  refine okOf F sc_Purse_drawn (fun _ _ _ _ _ _ us hl => match us, hl with | [_, _, _], _ => rfl) (fun vs H Q E h => ?_) (fun cdv A outer s H vs Q E hr hsp => ?_)
  · repeat (first | (obtain ⟨h1, _⟩ := h; subst h1; rfl) | (obtain ⟨_, h⟩ := h))
  · obtain ⟨p, dx, l, st, full, u0, used, s0, n0, size, num, m, rfl, hp, hl, hst, h1, h2, h3, h4, kn, ks⟩ := hsp
    refine ⟨_, (pss_cons (ps_asg (pv 1) (pg_tup (by rfl) (pgs_cons (pg_name (i := 3) sc_Purse_drawn.nd rfl (Or.inl rfl)) (pgs_cons (pg_name (i := 4) sc_Purse_drawn.nd rfl (Or.inl rfl)) (pgs_cons (pg_name (i := 5) sc_Purse_drawn.nd rfl (Or.inl rfl)) pgs_nil)))))
        (pss_cons (ps_while powE (pt_val pe_bl)
          (pss_cons (ps_while powE (PW.pt (pw_or (pt_cmpR op_lt (pv 4) (pv 2) (nomark _)) (pw_or1 (pt_cmpR op_lt (pv 4) (pe_fld (pv 0) rfl) (nomark _)))))
            (pss_cons (ps_if (pt_cmpR op_eq (pv 3) (pe_callB call_len_seq (by rfl) T.fr_len boot_len (pa_cons (pe_fld (pv 0) rfl) pa_nil)) (nomark _))
              (pss_one (ps_raise rfl tkE (pmk_1 T.ox_Short T.sh_in T.sh_tf (ok_Short_init T) hr (by decide) T.gl_Short (pa_cons (pe_op op_sub (pv 3) (pe_fld (pv 0) rfl)) pa_nil))))
              pss_nil)
            (pss_cons (ps_set (i := 4) sc_Purse_drawn.nd rfl (Or.inl rfl) (pe_op op_mul pe_int (pv 4)))
            (pss_cons (ps_set (i := 5) sc_Purse_drawn.nd rfl (Or.inl rfl) (pe_op op_add (pe_op op_mul pe_int (pv 5)) (pe_ix ix_list (pe_fld (pv 0) rfl) (pv 3) (fun _ _ => rfl))))
            (pss_one (ps_aug (i := 3) sc_Purse_drawn.nd rfl (.inl rfl) pe_int ip_add))))))
          (pss_cons (ps_set (i := 6) sc_Purse_drawn.nd rfl (Or.inl rfl) (pe_op op_fdivW (pv 4) (pv 2)))
          (pss_cons (ps_if (pt_cmpR op_lt (pv 5) (pe_op op_mul (pv 6) (pv 2)) (nomark _))
            (pss_one ps_break)
            pss_nil)
          (pss_cons (ps_set (i := 4) sc_Purse_drawn.nd rfl (Or.inl rfl) (pe_op op_sub (pv 4) (pe_op op_mul (pv 6) (pv 2))))
          (pss_one (ps_set (i := 5) sc_Purse_drawn.nd rfl (Or.inl rfl) (pe_op op_sub (pv 5) (pe_op op_mul (pv 6) (pv 2))))))))))
        (pss_one (ps_ret (pe_tup (pa_cons (pe_op op_mod (pv 5) (pv 2)) (pa_cons (pe_tup (pa_cons (pv 3) (pa_cons (pv 6) (pa_cons (pe_op op_fdivW (pv 5) (pv 2)) pa_nil)))) pa_nil))))))), ?_⟩
    generalize hR : drawP m (full.drop used) size num = R at kn ks
    refine ⟨_, rfl, st, _, rfl, hst, rfl, _, _, rfl, _, _, rfl, _, _, rfl, rfl, ?_⟩
    refine ⟨fun n σ H2 => ∃ (u : Nat) (sz nm : Int) (pv : Option V), n = 2 * (full.length - u) + (if m ≤ sz then 1 else 0) ∧ DrW p st full m R H u sz nm pv σ H2, ⟨_, used, size, num, none, rfl, rfl, rfl, h1, h4, hR⟩, fun n σ H2 hW => ?_⟩
    obtain ⟨u, sz, nm, pv, en, ⟨rfl, rfl, hu, ok, hr1⟩⟩ := hW
    refine ⟨true, rfl, iteT ⟨_, fun _ _ z => z, ?_⟩⟩
    refine ⟨fun n2 σ H9 => ∃ (u2 : Nat) (sz2 nm2 : Int), n2 = full.length - u2 ∧ u ≤ u2 ∧ (sz < m → sz2 = sz ∧ u2 = u ∨ u < u2) ∧ (¬ sz < m → u2 = u ∧ sz2 = sz) ∧ DrW p st full m R H u2 sz2 nm2 pv σ H9, ⟨_, u, sz, nm, rfl, Nat.le_refl _, fun _ => .inl ⟨rfl, rfl⟩, fun _ => ⟨rfl, rfl⟩, rfl, rfl, hu, ok, hr1⟩, fun n2 σ H3 hW2 => ?_⟩
    obtain ⟨u2, sz2, nm2, en2, hu2, hlt, hnl, ⟨rfl, rfl, hv, ok2, hr2⟩⟩ := hW2
    have o1 : 1 ≤ sz2 := ok2.one
    have o2 : 0 ≤ nm2 := ok2.low
    have o3 : nm2 < sz2 := ok2.lt
    have o4 : sz2 < 2 ^ 64 := ok2.top
    have m1 := h3.1
    have m2 := h3.2
    -- size < many or size < self.room
    refine ⟨_, rfl, _, rfl, _, _, rfl, rfl, _, rfl, ?_⟩
    by_cases hs : sz2 < m
    · rw [decide_eq_true hs]
      refine iteT (iteT ⟨_, fun _ _ z => z, ?_⟩)
      -- used == len(self.coins)
      refine ⟨_, rfl, _, rfl, T.r_Purse_coins hp ⟨_, _, rfl, .inl (SqL.of hl), rfl, _, rfl, ?_⟩⟩
      refine iteVi (fun e => ?_) (fun e => ?_)
      · rw [List.length_map] at e
        have e2 : u2 = full.length := by omega
        refine ⟨_, rfl, _, rfl, T.r_Purse_used hp ⟨_, _, rfl, rfl, rd_mk1 fun d H2 nd kp ed => ?_⟩⟩
        subst e2
        rw [drawP_less hs, List.drop_length] at hr2
        exact kn hr2.symm _ d (fun b o z => kp b o z) nd ed
      · rw [List.length_map] at e
        have hl2 : u2 < full.length := by omega
        have ok3 := ok2
        rw [drop_at hl2] at ok3
        -- size = 2 * size; number = 2 * number + self.coins[used]; used += 1
        refine ⟨_, rfl, _, _, rfl, rfl, .inl ⟨by decide, by decide⟩, ?_⟩
        refine ⟨_, rfl, _, _, rfl, rfl, .inl ⟨by decide, by decide⟩, _, rfl, T.r_Purse_coins hp ⟨_, rfl, l, _, _, _, rfl, rfl, SqL.of hl, lst_at hl2, _, _, rfl, rfl, ?_⟩⟩
        refine ⟨_, rfl, _, _, rfl, rfl, ?_⟩
        refine ⟨_, by omega, u2 + 1, 2 * sz2, 2 * nm2 + full[u2], rfl, by omega, fun _ => .inr (by omega), fun z => by omega, rfl, rfl, by omega, ok_more ok3 (by omega), ?_⟩
        rw [← hr2, drawP_less hs, drop_at hl2]
    · rw [decide_eq_false hs]
      refine iteF ?_
      refine ⟨_, rfl, _, rfl, T.r_Purse_room hp ⟨_, _, rfl, rfl, _, rfl, ?_⟩⟩
      rw [show decide (sz2 < 1) = false from decide_eq_false (by omega)]
      refine iteF ?_
      obtain ⟨d1, d2, d3⟩ := div_mul_le (s := sz2) (by omega) m1
      obtain ⟨d4, d5, d6⟩ := div_mul_le (s := nm2) o2 m1
      have q3 : sz2 / m ≤ sz2 := Int.ediv_le_self _ (by omega)
      -- parts = size // many
      refine ⟨_, rfl, _, rfl, _, _, rfl, rfl, wide_div (b := 64) (by omega) (by omega) (by decide) (by decide), ?_⟩
      refine ⟨_, rfl, _, rfl, _, rfl, _, _, rfl, rfl, .inl ⟨by omega, by omega⟩, _, _, rfl, rfl, _, rfl, ?_⟩
      refine iteD (fun hy => ?_) (fun hy => ?_)
      · -- break; return
        refine ⟨_, rfl, _, rfl, _, _, rfl, rfl, (by omega), _, rfl, _, rfl, _, rfl, _, rfl, _, _, rfl, rfl, wide_div (b := 64) (by omega) (by omega) (by decide) (by decide), (by show 3 ≤ sizeLine; decide), fun t nt => ⟨by show 2 ≤ sizeLine; decide, fun r nr => ?_⟩⟩
        have rt : t ≠ r := ne_of_none upd_same nr
        refine ks (nm2 % m) ⟨sz2 / m, nm2 / m, full.drop u2⟩ (by rw [← hr2]; exact drawP_yes hs hy) _ r t (((Same.refl H).upd nt).upd nr) upd_same ?_
        rw [upd_ne rt, upd_same, List.length_drop, show full.length - (full.length - u2) = u2 by omega]
      · -- the rest
        refine ⟨_, rfl, _, rfl, _, rfl, _, _, rfl, rfl, .inl ⟨by omega, by omega⟩, _, _, rfl, rfl, ?_⟩
        refine ⟨_, rfl, _, rfl, _, rfl, _, _, rfl, rfl, .inl ⟨by omega, by omega⟩, _, _, rfl, rfl, ?_⟩
        have q1 : 1 ≤ sz2 - sz2 / m * m := by omega
        refine ⟨_, ?_, u2, sz2 - sz2 / m * m, nm2 - sz2 / m * m, some (.int (sz2 / m)), rfl, rfl, rfl, hv, ⟨q1, (show 0 ≤ nm2 - sz2 / m * m by omega), (show nm2 - sz2 / m * m < sz2 - sz2 / m * m by omega), (show sz2 - sz2 / m * m < 2 ^ 64 by omega), ok2.coin⟩, ?_⟩
        · rw [en, if_neg (by omega : ¬ m ≤ sz2 - sz2 / m * m)]
          by_cases z : sz < m
          · rcases hlt z with ⟨a, b⟩ | a
            · exact absurd z (by rw [← a]; exact hs)
            · rw [if_neg (by omega)]
              omega
          · obtain ⟨a, b⟩ := hnl z
            rw [if_pos (by omega)]
            omega
        · rw [← hr2]
          exact (drawP_no m1 hs (by omega) hy).symm
end
end Ev

set_option Elab.async false
set_option linter.all false
set_option maxRecDepth 100000
set_option maxHeartbeats 2000000
/-! Purse.draws, draw; a purse made. -/
namespace Ev
open PySem PySem.Spec PyProof.Rows L2 He
theorem draws_cons (p : Pool) (m : Int) (ms : List Int) : p.draws (m :: ms) = (p.draw m).bind fun z => (z.2.draws ms).map fun y => (z.1 :: y.1, y.2) := by
  show (match p.draw m with | none => none | some (a, q) => match q.draws ms with | none => none | some (as, r) => some (a :: as, r)) = _
  cases p.draw m with
  | none => rfl
  | some z =>
    show (match z.2.draws ms with | none => none | some (as, r) => some (z.1 :: as, r)) = (z.2.draws ms).map fun y => (z.1 :: y.1, y.2)
    cases z.2.draws ms with
    | none => rfl
    | some y => rfl
def sp_Purse_draws (K : PySem.W.Frag) : Sp := fun vs H Q E => ∃ (p l ms : Addr) (B : Nat) (q : Pool) (mss : List Int), vs = [.ref p, .ref ms] ∧ PurseAt K H p l B q ∧ B ≤ 100000 ∧ SqL K H ms (mss.map .int) ∧ mss.length ≤ 1000000 ∧ ((∃ m ∈ mss, m < 1) → Rz K .nodraw E H) ∧
  ((∀ m ∈ mss, Few m) → (q.draws mss = none → Rz K (.short q.coins.length) E H) ∧
  (∀ as q', q.draws mss = some (as, q') → ∀ H' r, H r = none → PurseAt K H' p l B q' → Fr (fun b => b = p) H H' → H' r = some (.lst (as.map .int)) → Q (.ref r) H')) ∧ ((∃ m ∈ mss, m < 1) ∨ ∀ m ∈ mss, Few m)
def sp_Purse_draw (K : PySem.W.Frag) : Sp := fun vs H Q E => ∃ (p l : Addr) (B : Nat) (q : Pool) (m : Int), vs = [.ref p, .int m] ∧ PurseAt K H p l B q ∧ B ≤ 100000 ∧ m ≤ 2 ^ 63 ∧ (m < 1 → Rz K .nodraw E H) ∧
  (1 ≤ m → (q.draw m = none → Rz K (.short q.coins.length) E H) ∧ (∀ a q', q.draw m = some (a, q') → ∀ H', PurseAt K H' p l B q' → Fr (fun b => b = p) H H' → Q (.int a) H'))
section
variable {P : Program} {w : World} {K : PySem.W.Frag} {mg : Str → Option Value} {base h : Heap}
abbrev N_Purse_draws : List Str := ["self", "manys", "many", "state", "found", "answer", "used", "size", "number"]
abbrev P_Purse_draws : List Str := ["self", "manys"]
theorem sc_Purse_draws : FnScope N_Purse_draws P_Purse_draws (defScope s_Purse_draws) := ⟨rfl, rfl, rfl, by decide +kernel, rfl, by decide +kernel, by decide +kernel⟩
theorem ok_Purse_draws (T : Tx w K mg h) : Cal P w K mg base 4 (ma K (ga K "Purse") "draws") (sp_Purse_draws K) := by
  obtain ⟨fd, F⟩ := T.fn_Purse_draws
  refine okOf F sc_Purse_draws (fun _ _ _ _ _ _ us hl => match us, hl with | [_, _], _ => rfl) (fun vs H Q E h => ?_) (fun cdv A outer s H vs Q E hr hsp => ?_)
  · repeat (first | (obtain ⟨h1, _⟩ := h; subst h1; rfl) | (obtain ⟨_, h⟩ := h))
  · obtain ⟨p, l, ms, B, q, mss, rfl, ⟨dx, used, full, hp, hl, h1, h2, h3, h4⟩, h5, h6, h7, kn, ks, hc⟩ := hsp
    refine ⟨_, (pss_cons (ps_if (pt_val (pe_callB (cr_any rfl) (by rfl) T.fr_any boot_any (pa_cons (pe_lc (own := [("many", 2)]) rfl sc_Purse_draws.nd (pi_list (pv 1)) (blkOk_by (own := [("many", 2)]) (N := N_Purse_draws) (sc := defScope s_Purse_draws) (by decide +kernel)) (fun _ _ _ _ _ => (pg_name (i := 2) sc_Purse_draws.nd rfl (Or.inl rfl))) (fun _ _ _ _ _ => pts_nil) (fun _ _ _ _ _ => (pe_cmpR op_lt (pv 2) pe_int (nomark _)))) pa_nil)))
          (pss_one (ps_raise rfl tkE (pmk_own PySem.F.excBase_ValueError T.ex_NoDraw.1 T.gl_NoDraw T.ex_NoDraw.2.1 (raises_own T.ex_NoDraw.2.2.1 T.ex_NoDraw.2.2.2) (by rfl))))
          pss_nil)
        (pss_cons (ps_set (i := 3) sc_Purse_draws.nd rfl (Or.inl rfl) (pe_tup (pa_cons (pe_fld (pv 0) rfl) (pa_cons (pe_fld (pv 0) rfl) (pa_cons (pe_fld (pv 0) rfl) pa_nil)))))
        (pss_cons (ps_set (i := 4) sc_Purse_draws.nd rfl (Or.inl rfl) (pe_lst pa_nil))
        (pss_cons (ps_for powE rfl (pi_list (pv 1)) (pg_name (i := 2) sc_Purse_draws.nd rfl (Or.inl rfl))
          (pss_cons (ps_asg (pc_m (ok_Purse_drawn T) hr (by decide) (has_Purse_drawn T) tkE (pv 0) (pa_cons (pv 3) (pa_cons (pv 2) pa_nil))) (pg_tup (by rfl) (pgs_cons (pg_name (i := 5) sc_Purse_draws.nd rfl (Or.inl rfl)) (pgs_cons (pg_name (i := 3) sc_Purse_draws.nd rfl (Or.inl rfl)) pgs_nil))))
          (pss_one (ps_expr (pe_bm PySem.F.plainAttrs_list PySem.F.slot_list_append PySem.F.type_list_append mt_append (pv 4) (pa_cons (pv 5) pa_nil))))))
        (pss_cons (ps_asg (pv 3) (pg_tup (by rfl) (pgs_cons (pg_name (i := 6) sc_Purse_draws.nd rfl (Or.inl rfl)) (pgs_cons (pg_name (i := 7) sc_Purse_draws.nd rfl (Or.inl rfl)) (pgs_cons (pg_name (i := 8) sc_Purse_draws.nd rfl (Or.inl rfl)) pgs_nil)))))
        (pss_cons (ps_fld (pv 0) (pv 6) rfl)
        (pss_cons (ps_fld (pv 0) (pv 7) rfl)
        (pss_cons (ps_fld (pv 0) (pv 8) rfl)
        (pss_one (ps_ret (pv 4))))))))))), ?_⟩
    refine ⟨_, rfl, ms, rfl, ⟨_, h6⟩, fun D nD => lc_mapL (e := V.int) (f := fun m => .bl (decide (m < 1))) h6 nD h7 (fun x H1 hx s1 R S hR => ?_) fun H1 s1 hl1 => ?_⟩
    · exact ⟨rfl, _, rfl, _, _, rfl, rfl, hR _ (Same.refl _)⟩
    · refine ⟨D, mss.map fun m => decide (m < 1), rfl, SqL.of (by rw [hl1, List.map_map]; rfl), _, rfl, ?_⟩
      have hp1 := s1 _ _ hp
      have hl0 := s1 _ _ hl
      cases hb : (mss.map fun m => decide (m < 1)).any id with
      | true =>
        refine iteT ?_
        have hx : ∃ m ∈ mss, m < 1 := by
          obtain ⟨b, hb1, hb2⟩ := List.any_eq_true.mp hb
          obtain ⟨m, hm, rfl⟩ := List.mem_map.mp hb1
          exact ⟨m, hm, of_decide_eq_true hb2⟩
        exact kn hx _ s1
      | false =>
        refine iteF ?_
        have hm : ∀ m ∈ mss, Few m := by
          rcases hc with ⟨m, hm, h⟩ | hc
          · have z : (mss.map fun m => decide (m < 1)).any id = true := List.any_eq_true.mpr ⟨_, List.mem_map.mpr ⟨m, hm, rfl⟩, decide_eq_true h⟩
            rw [hb] at z
            cases z
          · exact hc
        obtain ⟨ks1, ks2⟩ := ks hm
        -- state = (self.used, self.size, self.number)
        refine ⟨_, rfl, T.r_Purse_used hp1 ⟨_, rfl, T.r_Purse_size hp1 ⟨_, rfl, T.r_Purse_number hp1 ⟨(by show 3 ≤ sizeLine; decide), fun st nst => ?_⟩⟩⟩⟩
        refine ⟨by show 0 ≤ sizeLine; decide, fun fo nfo => ?_⟩
        have s2 : Same H (upd (upd H1 st (.tup [.int used, .int q.size, .int q.num])) fo (.lst [])) := (s1.upd nst).upd nfo
        have fst_ : fo ≠ st := fun z => by rw [z, upd_same] at nfo; cases nfo
        have nfo1 : H1 fo = none := by rw [upd_ne fst_] at nfo; exact nfo
        have nfo0 : H fo = none := s1.free nfo1
        have lenq : (full.length : Int) - (used : Int) = (q.coins.length : Int) := by rw [← h2, List.length_drop]; omega
        -- for many in manys
        refine ⟨_, rfl, ms, rfl, ⟨_, s2.seq h6⟩, for_list (K := K) (a := ms) (xs := mss.map V.int) (fun i σ H2 => ∃ (sa : Addr) (u : Nat) (q2 : Pool) (as : List Int) (v1 v2 : Option V), σ = [some (.ref p), some (.ref ms), v1, some (.ref sa), some (.ref fo), v2, none, none, none] ∧ Same H H2 ∧ H2 fo = some (.lst (as.map .int)) ∧ as.length ≤ i ∧ H2 sa = some (.tup [.int u, .int q2.size, .int q2.num]) ∧ u ≤ full.length ∧ q2.coins = full.drop u ∧ q2.Ok ∧
          q.draws mss = (q2.draws (mss.drop i)).map fun y => (as ++ y.1, y.2))
          ⟨st, used, q, [], none, none, rfl, s2, upd_same, Nat.le_refl _, (by rw [upd_ne fst_.symm, upd_same]), h1, h2.symm, h4, ?_⟩ (fun i σ H2 _ ⟨_, _, _, _, _, _, _, s3, _⟩ => s3.seq h6) ?_ ?_⟩
        · rw [List.drop_zero]
          cases q.draws mss with
          | none => rfl
          | some z => rfl
        · rintro i y σ H2 hi ⟨sa, u, q2, as, v1, v2, rfl, s3, hfo, hal, hsa, hu, hq2, ok2, hd⟩
          have him : i < mss.length := by
            have z := (List.getElem?_eq_some_iff.mp hi).1
            rw [List.length_map] at z
            exact z
          rw [List.getElem?_map, List.getElem?_eq_getElem him] at hi
          cases hi
          have hm1 := hm _ (List.getElem_mem him)
          have hd0 := hd
          rw [List.drop_eq_getElem_cons him] at hd
          rw [draws_cons] at hd
          -- answer, state = self.drawn(state, many)
          refine ⟨_, rfl, p, _, dx, _, rfl, s3 _ _ hp, rfl, pf_no (by decide +kernel), _, rfl, _, rfl, p, dx, l, sa, full, used, u, q.size, q.num, q2.size, q2.num, mss[i], rfl, s3 _ _ hp, s3 _ _ hl, SqT.of hsa, hu, by omega, hm1, (by rw [← hq2]; exact ok2), fun z => ?_, fun a q3 z H3 r t s4 hr3 ht3 => ?_⟩
          · have z2 : q2.draw mss[i] = none := by unfold Pool.draw; rw [hq2]; exact z
            rw [z2] at hd
            have k1 := ks1 hd
            show Rz K _ _ _
            rw [lenq]
            exact k1.mono s3
          · have z2 : q2.draw mss[i] = some (a, q3) := by unfold Pool.draw; rw [hq2]; exact z
            rw [z2] at hd
            obtain ⟨g1, g2, g3, g4, g5⟩ := Pool.draw_ok hm1 ok2 z2
            rw [hq2, List.length_drop] at g4
            rw [hq2, List.length_drop, List.drop_drop] at g5
            refine ⟨r, _, rfl, SqT.of hr3, rfl, _, _, rfl, _, _, rfl, rfl, ?_⟩
            refine ⟨_, rfl, .inl ⟨rfl, _, .inl (.inl (s4 _ _ hfo))⟩, _, rfl, fo, _, _, rfl, rfl, s4 _ _ hfo, (by rw [List.length_map, sizeLine_eq]; omega), ?_⟩
            have tf : t ≠ fo := ne_of ht3 (s4 _ _ hfo) (by intro z; cases z)
            refine ⟨t, full.length - q3.coins.length, q3, as ++ [a], _, _, rfl, ?_, (by rw [upd_same, List.map_append]; rfl), (by rw [List.length_append]; show as.length + 1 ≤ i + 1; omega), (by rw [upd_ne tf]; exact ht3), by omega, ?_, g1, ?_⟩
            · intro b o e
              rw [upd_ne (ne_of_none e nfo0)]
              exact s4 _ _ (s3 _ _ e)
            · rw [show u + (full.length - u - q3.coins.length) = full.length - q3.coins.length by omega] at g5
              exact g5
            · rw [hd]
              show ((q3.draws (mss.drop (i + 1))).map fun y => (a :: y.1, y.2)).map (fun y => (as ++ y.1, y.2)) = (q3.draws (mss.drop (i + 1))).map fun y => ((as ++ [a]) ++ y.1, y.2)
              rw [Option.map_map]
              congr 1
              funext y
              show (as ++ a :: y.1, y.2) = ((as ++ [a]) ++ y.1, y.2)
              rw [List.append_assoc]
              rfl
        · rintro σ H2 ⟨sa, u, q2, as, v1, v2, rfl, s3, hfo, hal, hsa, hu, hq2, ok2, hd⟩
          rw [List.length_map, List.drop_of_length_le (Nat.le_refl _)] at hd
          have hd2 : q.draws mss = some (as, q2) := by
            rw [hd]
            show some (as ++ [], q2) = _
            rw [List.append_nil]
          have hp2 := s3 _ _ hp
          have pl : p ≠ l := ne_of hp hl (by intro z; cases z)
          have pfo : p ≠ fo := ne_of hp2 hfo (by intro z; cases z)
          refine ⟨_, rfl, sa, _, rfl, SqT.of hsa, rfl, _, _, rfl, _, _, rfl, _, _, rfl, rfl, ?_⟩
          refine ⟨_, rfl, _, rfl, T.w_Purse_used hp2 ?_⟩
          rw [pf_put_used]
          refine ⟨_, rfl, _, rfl, T.w_Purse_size upd_same ?_⟩
          rw [pf_put_size]
          refine ⟨_, rfl, _, rfl, T.w_Purse_number upd_same ?_⟩
          rw [pf_put_number]
          refine ⟨_, rfl, ?_⟩
          refine ks2 as q2 hd2 _ fo nfo0 ⟨dx, u, full, upd_same, ?_, hu, hq2.symm, h3, ok2⟩ ((((s3.fr (ch := fun b => b = p)).upd (.inl rfl)).upd (.inl rfl)).upd (.inl rfl)) ?_
          · rw [upd_ne pl.symm, upd_ne pl.symm, upd_ne pl.symm]
            exact s3 _ _ hl
          · rw [upd_ne pfo.symm, upd_ne pfo.symm, upd_ne pfo.symm]
            exact hfo
theorem draw_draws (q : Pool) (m : Int) : q.draws [m] = (q.draw m).map fun z => ([z.1], z.2) := by
  rw [draws_cons]
  cases q.draw m with
  | none => rfl
  | some z => rfl
abbrev N_Purse_draw : List Str := ["self", "many"]
abbrev P_Purse_draw : List Str := ["self", "many"]
theorem sc_Purse_draw : FnScope N_Purse_draw P_Purse_draw (defScope s_Purse_draw) := ⟨rfl, rfl, rfl, by decide +kernel, rfl, by decide +kernel, by decide +kernel⟩
theorem ok_Purse_draw (T : Tx w K mg h) : Cal P w K mg base 5 (ma K (ga K "Purse") "draw") (sp_Purse_draw K) := by
  obtain ⟨fd, F⟩ := T.fn_Purse_draw
  refine okOf F sc_Purse_draw (fun _ _ _ _ _ _ us hl => match us, hl with | [_, _], _ => rfl) (fun vs H Q E h => ?_) (fun cdv A outer s H vs Q E hr hsp => ?_)
  · repeat (first | (obtain ⟨h1, _⟩ := h; subst h1; rfl) | (obtain ⟨_, h⟩ := h))
  · obtain ⟨p, l, B, q, m, rfl, hP, h5, h6, kn, ks⟩ := hsp
    obtain ⟨dx, used, full, hp, hl, h1, h2, h3, h4⟩ := id hP
    refine ⟨_, (pss_one (ps_ret (pe_ix ix_list (pc_m (ok_Purse_draws T) hr (by decide) (has_Purse_draws T) tkE (pv 0) (pa_cons (pe_lst (pa_cons (pv 1) pa_nil)) pa_nil)) pe_int (fun _ _ => rfl)))), ?_⟩
    refine ⟨_, rfl, p, _, dx, _, rfl, hp, rfl, pf_no (by decide +kernel), _, rfl, by show 1 ≤ sizeLine; decide, fun ms nms => ?_⟩
    have s1 : Same H (upd H ms (.lst [.int m])) := (Same.refl H).upd nms
    refine ⟨p, l, ms, B, q, [m], rfl, ⟨dx, used, full, s1 _ _ hp, s1 _ _ hl, h1, h2, h3, h4⟩, h5, SqL.of upd_same, by show 1 ≤ 1000000; decide, fun ⟨x, hx, z⟩ => ?_, fun hm => ⟨fun z => ?_, fun as q' z H' r nr hP' f hr => ?_⟩, ?_⟩
    · rw [List.mem_singleton.mp hx] at z
      exact (kn z).mono s1
    · have m1 := (hm m List.mem_cons_self).1
      rw [draw_draws, Option.map_eq_none_iff] at z
      exact ((ks m1).1 z).mono s1
    · have m1 := (hm m List.mem_cons_self).1
      rw [draw_draws, Option.map_eq_some_iff] at z
      obtain ⟨y, hy, e⟩ := z
      cases e
      exact ⟨r, _, 0, _, rfl, rfl, SqL.of hr, rfl, (ks m1).2 y.1 y.2 hy H' hP' (s1.fr.trans f)⟩
    · by_cases z : m < 1
      · exact .inl ⟨m, List.mem_cons_self, z⟩
      · exact .inr fun x hx => by
          rw [List.mem_singleton.mp hx]
          exact ⟨by omega, h6⟩
abbrev N_Purse_init : List Str := ["self", "room"]
abbrev P_Purse_init : List Str := ["self", "room"]
theorem sc_Purse_init : FnScope N_Purse_init P_Purse_init (defScope s_Purse_init) := ⟨rfl, rfl, rfl, by decide +kernel, rfl, by decide +kernel, by decide +kernel⟩
theorem ok_Purse_init (T : Tx w K mg h) : CalD P w K mg base 1 (ma K (ga K "Purse") "__init__") [.int 1] (sp_Purse_init K) := by
  obtain ⟨fd, F⟩ := T.fn_Purse_init
  obtain ⟨ds, v, b⟩ := F.binds1 (ps := P_Purse_init) 1 0 (by intro z; cases z) rfl fun T kV doc pm an cdv ct us its hu hi => match us, its, hu, hi with | [_], [_], _, _ => ⟨_, rfl, rfl⟩
  refine ⟨fd, P_Purse_init, ds, F.ok sc_Purse_init (fun vs H Q E h => ?_) (fun cdv A outer s H vs Q E hr hsp => ?_), b, v⟩
  · obtain ⟨p, dx, rfl, _⟩ := h
    rfl
  · obtain ⟨p, dx, rfl, hp, k⟩ := hsp
    refine ⟨_, (pss_cons (ps_fld (pv 0) (pv 1) rfl)
        (pss_cons (ps_fld (pv 0) (pe_lst pa_nil) rfl)
        (pss_cons (ps_fld (pv 0) pe_int rfl)
        (pss_cons (ps_fld (pv 0) pe_int rfl)
        (pss_one (ps_fld (pv 0) pe_int rfl)))))), ?_⟩
    refine ⟨_, rfl, _, rfl, T.w_Purse_room hp ?_⟩
    refine ⟨by show 0 ≤ sizeLine; decide, fun l nl => ?_⟩
    have lp : p ≠ l := ne_of_none upd_same nl
    have nl0 : H l = none := by rw [upd_ne lp.symm] at nl; exact nl
    refine ⟨_, rfl, T.w_Purse_coins (by rw [upd_ne lp]; exact upd_same) ?_⟩
    rw [show putF "coins" (V.ref l) (putF "room" (V.int 1) []) = zf ["room", "coins"] [.int 1, .ref l] from zf_new (ks := ["room"]) (vs := [.int 1]) (by decide +kernel) rfl]
    refine ⟨_, rfl, T.w_Purse_used upd_same ?_⟩
    rw [show putF "used" (V.int 0) (zf ["room", "coins"] [.int 1, .ref l]) = zf ["room", "coins", "used"] [.int 1, .ref l, .int 0] from zf_new (by decide +kernel) rfl]
    refine ⟨_, rfl, T.w_Purse_size upd_same ?_⟩
    rw [show putF "size" (V.int 1) (zf ["room", "coins", "used"] [.int 1, .ref l, .int 0]) = zf ["room", "coins", "used", "size"] [.int 1, .ref l, .int 0, .int 1] from zf_new (by decide +kernel) rfl]
    refine ⟨_, rfl, T.w_Purse_number upd_same ?_⟩
    rw [show putF "number" (V.int 0) (zf ["room", "coins", "used", "size"] [.int 1, .ref l, .int 0, .int 1]) = pf l 0 1 0 from zf_new (by decide +kernel) rfl]
    refine k l _ nl0 ⟨dx, 0, [], upd_same, ?_, Nat.le_refl _, rfl, Nat.le_refl _, ⟨by decide, by decide, by decide, by decide, fun c h => by cases h⟩⟩ ?_
    · rw [upd_ne lp.symm, upd_ne lp.symm, upd_ne lp.symm, upd_ne lp.symm, upd_same]
      rfl
    · exact ((((((Fr.refl (ch := fun b => b = p)).upd (.inl rfl)).upd (.inr nl0)).upd (.inl rfl)).upd (.inl rfl)).upd (.inl rfl)).upd (.inl rfl)
end
end Ev
set_option Elab.async false
set_option linter.all false
set_option maxRecDepth 100000
set_option maxHeartbeats 2000000
/-! The keepers' methods. -/
namespace Ev
open PySem PySem.Spec PyProof.Rows L2 He
theorem ins_ne {C dx C' dx' : Addr} {fs fs' : List (Str × V)} (h : fs.map (·.1) ≠ fs'.map (·.1)) : HO.ins C dx fs ≠ HO.ins C' dx' fs' := fun z => by
  injection z with _ _ e
  exact h (by rw [e])
theorem df_pf {C dx C' dx' p t l : Addr} {c m u s n : Int} : HO.ins C dx (df p t c m) ≠ HO.ins C' dx' (pf l u s n) := ins_ne (by show dks ≠ pks; decide +kernel)
theorem wf_pf {C dx C' dx' p t l : Addr} {c m u s n : Int} : HO.ins C dx (wf p t c m) ≠ HO.ins C' dx' (pf l u s n) := ins_ne (by show wks ≠ pks; decide +kernel)
theorem df_wf {C dx C' dx' p t p' t' : Addr} {c m c' m' : Int} : HO.ins C dx (df p t c m) ≠ HO.ins C' dx' (wf p' t' c' m') := ins_ne (by show dks ≠ wks; decide +kernel)
theorem ef_pf {C dx C' dx' p t k l : Addr} {u s n : Int} : HO.ins C dx (ef p t k) ≠ HO.ins C' dx' (pf l u s n) := ins_ne (by show eks ≠ pks; decide +kernel)
theorem ef_df {C dx C' dx' p t k p' t' : Addr} {c m : Int} : HO.ins C dx (ef p t k) ≠ HO.ins C' dx' (df p' t' c m) := ins_ne (by show eks ≠ dks; decide +kernel)
theorem ef_wf {C dx C' dx' p t k p' t' : Addr} {c m : Int} : HO.ins C dx (ef p t k) ≠ HO.ins C' dx' (wf p' t' c m) := ins_ne (by show eks ≠ wks; decide +kernel)
theorem PurseAt.fr {K : PySem.W.Frag} {H H' : Hp} {p l : Addr} {B : Nat} {q : Pool} {ch : Addr → Prop} (P : PurseAt K H p l B q) (f : Fr ch H H') (hp : ¬ ch p) (hl : ¬ ch l) : PurseAt K H' p l B q := by
  obtain ⟨dx, used, full, h1, h2, h3⟩ := P
  exact ⟨dx, used, full, f _ _ h1 hp, f _ _ h2 hl, h3⟩
theorem PurseAt.same {K : PySem.W.Frag} {H H' : Hp} {p l : Addr} {B : Nat} {q : Pool} (P : PurseAt K H p l B q) (f : Same H H') : PurseAt K H' p l B q := P.fr (f.fr (ch := fun _ => False)) (fun z => z) fun z => z
def kks : List Str := ["purse", "things", "count"]
/-! ### one thing more -/
/-- a drawer of m things that has seen c and holds ths sees z -/
def seeD (q : Pool) (c m : Int) (ths : List Str) (z : Str) : Option (Pool × List Str) :=
  if c < m then some (q, ths ++ [z]) else (q.draw (c + 1)).map fun y => (y.2, if y.1 < m then ths.set y.1.toNat z else ths)
/-- a weigher with a total of s sees z, of weight wt -/
def seeW (q : Pool) (c s : Int) (ths : List Str) (z : Str) (wt : Int) : Option (Pool × List Str) :=
  if c = 0 then some (q, [z]) else (q.draw (s + wt)).map fun y => (y.2, if y.1 < wt then [z] else ths)
/-- things popped by places -/
def pops : List Str → List Int → List Str
  | ths, [] => ths
  | ths, i :: is => pops (ths.eraseIdx i.toNat) is
/-- i, i - 1, .. down to above j -/
def dn (i j : Int) : List Int := (List.range (i - j).toNat).map fun k => i - (k : Nat)
theorem dnV_map (i j : Int) : dnV i j = (dn i j).map V.int := by
  unfold dnV dn
  rw [List.map_map]
  rfl
def sp_Keeper_init (K : PySem.W.Frag) : Sp := fun vs H Q _ => ∃ (o p C dx : Addr), vs = [.ref o, .ref p] ∧ (C = ga K "Drawer" ∨ C = ga K "Weigher") ∧ H o = some (.ins C dx []) ∧
  ∀ (t : Addr) (H' : Hp), H t = none → H' o = some (.ins C dx (zf kks [.ref p, .ref t, .int 0])) → H' t = some (.lst []) → Fr (fun b => b = o) H H' → Q .non H'
def sp_Keeper_seen (K : PySem.W.Frag) : Sp := fun vs H Q _ => ∃ (o dx p t : Addr) (c m : Int), vs = [.ref o] ∧ (H o = some (.ins (ga K "Drawer") dx (df p t c m)) ∨ H o = some (.ins (ga K "Weigher") dx (wf p t c m))) ∧ Q (.int c) H
def sp_Keeper_held (K : PySem.W.Frag) : Sp := fun vs H Q _ => ∃ (o dx p t : Addr) (c m : Int) (xs : List V), vs = [.ref o] ∧ (H o = some (.ins (ga K "Drawer") dx (df p t c m)) ∨ H o = some (.ins (ga K "Weigher") dx (wf p t c m))) ∧ H t = some (.lst xs) ∧ ∀ r, H r = none → Q (.ref r) (upd H r (.lst xs))
def sp_Weigher_weight (K : PySem.W.Frag) : Sp := fun vs H Q _ => ∃ (o dx p t : Addr) (c m : Int), vs = [.ref o] ∧ H o = some (.ins (ga K "Weigher") dx (wf p t c m)) ∧ Q (.int m) H
def sp_Drawer_init (K : PySem.W.Frag) : Sp := fun vs H Q E => ∃ (o p dx : Addr) (m : Int), vs = [.ref o, .ref p, .int m] ∧ H o = some (.ins (ga K "Drawer") dx []) ∧ (m < 1 → ∀ H', Same H H' → E (.ref (ga K "NoDraw")) none H') ∧
  (1 ≤ m → ∀ (t : Addr) (H' : Hp), H t = none → H' o = some (.ins (ga K "Drawer") dx (df p t 0 m)) → H' t = some (.lst []) → Fr (fun b => b = o) H H' → Q .non H')
def sp_Weigher_init (K : PySem.W.Frag) : Sp := fun vs H Q E => ∃ (o p dx : Addr), vs = [.ref o, .ref p] ∧ H o = some (.ins (ga K "Weigher") dx []) ∧
  (∀ (t : Addr) (H' : Hp), H t = none → H' o = some (.ins (ga K "Weigher") dx (wf p t 0 0)) → H' t = some (.lst []) → Fr (fun b => b = o) H H' → Q .non H')
def sp_Drawer_see (K : PySem.W.Frag) : Sp := fun vs H Q E => ∃ (o dx p t l : Addr) (B : Nat) (q : Pool) (c m : Int) (ths : List Str) (z : Str), vs = [.ref o, .str z] ∧ H o = some (.ins (ga K "Drawer") dx (df p t c m)) ∧ H t = some (.lst (ths.map .str)) ∧ PurseAt K H p l B q ∧ B ≤ 100000 ∧ t ≠ l ∧
  0 ≤ c ∧ c < 2 ^ 63 ∧ 1 ≤ m ∧ (ths.length : Int) = min c m ∧ ths.length ≤ 100000 ∧ (seeD q c m ths z = none → Rz K (.short q.coins.length) E H) ∧
  ∀ q' ths', seeD q c m ths z = some (q', ths') → ∀ H', PurseAt K H' p l B q' → H' o = some (.ins (ga K "Drawer") dx (df p t (c + 1) m)) → H' t = some (.lst (ths'.map .str)) → Fr (fun b => b = o ∨ b = t ∨ b = p) H H' → Q .non H'
def sp_Weigher_see (K : PySem.W.Frag) : Sp := fun vs H Q E => ∃ (o dx p t l : Addr) (B : Nat) (q : Pool) (c s wt : Int) (ths : List Str) (z : Str), vs = [.ref o, .str z, .int wt] ∧ H o = some (.ins (ga K "Weigher") dx (wf p t c s)) ∧ H t = some (.lst (ths.map .str)) ∧ PurseAt K H p l B q ∧ B ≤ 100000 ∧
  0 ≤ c ∧ 0 ≤ s ∧ s + wt ≤ 2 ^ 63 ∧ (wt < 1 → Rz K .nodraw E H) ∧ (1 ≤ wt → (seeW q c s ths z wt = none → Rz K (.short q.coins.length) E H) ∧
  ∀ q' ths', seeW q c s ths z wt = some (q', ths') → ∀ H' t', (t' = t ∨ H t' = none) → PurseAt K H' p l B q' → H' o = some (.ins (ga K "Weigher") dx (wf p t' (c + 1) (s + wt))) → H' t' = some (.lst (ths'.map .str)) → Fr (fun b => b = o ∨ b = p) H H' → Q .non H')
def sp_Drawer_cut (K : PySem.W.Frag) : Sp := fun vs H Q E => ∃ (o dx p t l : Addr) (B : Nat) (q : Pool) (c m n : Int) (ths : List Str), vs = [.ref o, .int n] ∧ H o = some (.ins (ga K "Drawer") dx (df p t c m)) ∧ H t = some (.lst (ths.map .str)) ∧ PurseAt K H p l B q ∧ B ≤ 100000 ∧ t ≠ l ∧
  ths.length ≤ 100000 ∧ ((n < 1 ∨ n > m) → Rz K .nodraw E H) ∧ m < 2 ^ 62 ∧ (¬ (n < 1 ∨ n > m) → (q.draws (dn ths.length n) = none → Rz K (.short q.coins.length) E H) ∧
  ∀ as q', q.draws (dn ths.length n) = some (as, q') → ∀ H', PurseAt K H' p l B q' → H' o = some (.ins (ga K "Drawer") dx (df p t c n)) → H' t = some (.lst ((pops ths as).map .str)) → Fr (fun b => b = o ∨ b = t ∨ b = p) H H' → Q .non H')
section
variable {P : Program} {w : World} {K : PySem.W.Frag} {mg : Str → Option Value} {base h : Heap}
abbrev N_Keeper_init : List Str := ["self", "purse"]
abbrev P_Keeper_init : List Str := ["self", "purse"]
theorem sc_Keeper_init : FnScope N_Keeper_init P_Keeper_init (defScope s_Keeper_init) := ⟨rfl, rfl, rfl, by decide +kernel, rfl, by decide +kernel, by decide +kernel⟩
theorem ok_Keeper_init (T : Tx w K mg h) : Cal P w K mg base 1 (ma K (ga K "Keeper") "__init__") (sp_Keeper_init K) := by
  obtain ⟨fd, F⟩ := T.fn_Keeper_init
  refine okOf F sc_Keeper_init (fun _ _ _ _ _ _ us hl => match us, hl with | [_, _], _ => rfl) (fun vs H Q E h => ?_) (fun cdv A outer s H vs Q E hr hsp => ?_)
  · repeat (first | (obtain ⟨h1, _⟩ := h; subst h1; rfl) | (obtain ⟨_, h⟩ := h))
  · obtain ⟨o, p, C, dx, rfl, hC, ho, k⟩ := hsp
    refine ⟨_, (pss_cons (ps_fld (pv 0) (pv 1) rfl)
        (pss_cons (ps_fld (pv 0) (pe_lst pa_nil) rfl)
        (pss_one (ps_fld (pv 0) pe_int rfl)))), ?_⟩
    have fin : ∀ (l : Addr), upd H o (.ins C dx (putF "purse" (.ref p) [])) l = none → l ≠ o ∧ H l = none := fun l nl => by
      have ol : o ≠ l := ne_of_none upd_same nl
      exact ⟨ol.symm, by rw [upd_ne ol.symm] at nl; exact nl⟩
    have e1 : ∀ l : Addr, putF "things" (V.ref l) (putF "purse" (V.ref p) []) = zf ["purse", "things"] [.ref p, .ref l] := fun l => zf_new (ks := ["purse"]) (vs := [.ref p]) (by decide +kernel) rfl
    have e2 : ∀ l : Addr, putF "count" (V.int 0) (zf ["purse", "things"] [.ref p, .ref l]) = zf kks [.ref p, .ref l, .int 0] := fun l => zf_new (by decide +kernel) rfl
    rcases hC with rfl | rfl
    · refine ⟨_, rfl, _, rfl, T.w_Drawer_purse ho ?_⟩
      refine ⟨by show 0 ≤ sizeLine; decide, fun l nl => ?_⟩
      obtain ⟨lo, nl0⟩ := fin l nl
      refine ⟨_, rfl, T.w_Drawer_things (by rw [upd_ne lo.symm]; exact upd_same) ?_⟩
      rw [e1]
      refine ⟨_, rfl, T.w_Drawer_count upd_same ?_⟩
      rw [e2]
      exact k l _ nl0 upd_same (by rw [upd_ne lo, upd_ne lo, upd_same]) ((((Fr.refl (ch := fun b => b = o)).upd (.inl rfl)).upd (.inr nl0)).upd (.inl rfl) |>.upd (.inl rfl))
    · refine ⟨_, rfl, _, rfl, T.w_Weigher_purse ho ?_⟩
      refine ⟨by show 0 ≤ sizeLine; decide, fun l nl => ?_⟩
      obtain ⟨lo, nl0⟩ := fin l nl
      refine ⟨_, rfl, T.w_Weigher_things (by rw [upd_ne lo.symm]; exact upd_same) ?_⟩
      rw [e1]
      refine ⟨_, rfl, T.w_Weigher_count upd_same ?_⟩
      rw [e2]
      exact k l _ nl0 upd_same (by rw [upd_ne lo, upd_ne lo, upd_same]) ((((Fr.refl (ch := fun b => b = o)).upd (.inl rfl)).upd (.inr nl0)).upd (.inl rfl) |>.upd (.inl rfl))
abbrev N_Keeper_seen : List Str := ["self"]
abbrev P_Keeper_seen : List Str := ["self"]
theorem sc_Keeper_seen : FnScope N_Keeper_seen P_Keeper_seen (defScope s_Keeper_seen) := ⟨rfl, rfl, rfl, by decide +kernel, rfl, by decide +kernel, by decide +kernel⟩
theorem ok_Keeper_seen (T : Tx w K mg h) : Cal P w K mg base 1 (ma K (ga K "Keeper") "seen") (sp_Keeper_seen K) := by
  obtain ⟨fd, F⟩ := T.fn_Keeper_seen
  refine okOf F sc_Keeper_seen (fun _ _ _ _ _ _ us hl => match us, hl with | [_], _ => rfl) (fun vs H Q E h => ?_) (fun cdv A outer s H vs Q E hr hsp => ?_)
  · repeat (first | (obtain ⟨h1, _⟩ := h; subst h1; rfl) | (obtain ⟨_, h⟩ := h))
  · obtain ⟨o, dx, p, t, c, m, rfl, ho, k⟩ := hsp
    refine ⟨_, (pss_one (ps_ret (pe_fld (pv 0) rfl))), ?_⟩
    rcases ho with ho | ho
    · exact ⟨_, rfl, T.r_Drawer_count ho k⟩
    · exact ⟨_, rfl, T.r_Weigher_count ho k⟩
abbrev N_Keeper_held : List Str := ["self"]
abbrev P_Keeper_held : List Str := ["self"]
theorem sc_Keeper_held : FnScope N_Keeper_held P_Keeper_held (defScope s_Keeper_held) := ⟨rfl, rfl, rfl, by decide +kernel, rfl, by decide +kernel, by decide +kernel⟩
theorem ok_Keeper_held (T : Tx w K mg h) : Cal P w K mg base 1 (ma K (ga K "Keeper") "held") (sp_Keeper_held K) := by
  obtain ⟨fd, F⟩ := T.fn_Keeper_held
  refine okOf F sc_Keeper_held (fun _ _ _ _ _ _ us hl => match us, hl with | [_], _ => rfl) (fun vs H Q E h => ?_) (fun cdv A outer s H vs Q E hr hsp => ?_)
  · repeat (first | (obtain ⟨h1, _⟩ := h; subst h1; rfl) | (obtain ⟨_, h⟩ := h))
  · obtain ⟨o, dx, p, t, c, m, xs, rfl, ho, ht, k⟩ := hsp
    refine ⟨_, (pss_one (ps_ret (pe_callTy call_list_of (by rfl) T.fr_list boot_list (pa_cons (pe_fld (pv 0) rfl) pa_nil)))), ?_⟩
    rcases ho with ho | ho
    · exact ⟨_, rfl, T.r_Drawer_things ho ⟨_, _, rfl, .inl (SqL.of ht), k⟩⟩
    · exact ⟨_, rfl, T.r_Weigher_things ho ⟨_, _, rfl, .inl (SqL.of ht), k⟩⟩
abbrev N_Weigher_weight : List Str := ["self"]
abbrev P_Weigher_weight : List Str := ["self"]
theorem sc_Weigher_weight : FnScope N_Weigher_weight P_Weigher_weight (defScope s_Weigher_weight) := ⟨rfl, rfl, rfl, by decide +kernel, rfl, by decide +kernel, by decide +kernel⟩
theorem ok_Weigher_weight (T : Tx w K mg h) : Cal P w K mg base 1 (ma K (ga K "Weigher") "weight") (sp_Weigher_weight K) := by
  obtain ⟨fd, F⟩ := T.fn_Weigher_weight
  refine okOf F sc_Weigher_weight (fun _ _ _ _ _ _ us hl => match us, hl with | [_], _ => rfl) (fun vs H Q E h => ?_) (fun cdv A outer s H vs Q E hr hsp => ?_)
  · repeat (first | (obtain ⟨h1, _⟩ := h; subst h1; rfl) | (obtain ⟨_, h⟩ := h))
  · obtain ⟨o, dx, p, t, c, m, rfl, ho, k⟩ := hsp
    refine ⟨_, (pss_one (ps_ret (pe_fld (pv 0) rfl))), ?_⟩
    exact ⟨_, rfl, T.r_Weigher_total ho k⟩
abbrev N_Drawer_init : List Str := ["self", "purse", "many"]
abbrev P_Drawer_init : List Str := ["self", "purse", "many"]
theorem sc_Drawer_init : FnScope N_Drawer_init P_Drawer_init (defScope s_Drawer_init) := ⟨rfl, rfl, rfl, by decide +kernel, rfl, by decide +kernel, by decide +kernel⟩
theorem ok_Drawer_init (T : Tx w K mg h) : Cal P w K mg base 2 (ma K (ga K "Drawer") "__init__") (sp_Drawer_init K) := by
  obtain ⟨fd, F⟩ := T.fn_Drawer_init
  refine okOf F sc_Drawer_init (fun _ _ _ _ _ _ us hl => match us, hl with | [_, _, _], _ => rfl) (fun vs H Q E h => ?_) (fun cdv A outer s H vs Q E hr hsp => ?_)
  · repeat (first | (obtain ⟨h1, _⟩ := h; subst h1; rfl) | (obtain ⟨_, h⟩ := h))
  · obtain ⟨o, p, dx, m, rfl, ho, kn, k⟩ := hsp
    refine ⟨_, (pss_cons (ps_if (pt_cmpR op_lt (pv 2) pe_int (nomark _))
          (pss_one (ps_raise rfl tkE (pmk_own PySem.F.excBase_ValueError T.ex_NoDraw.1 T.gl_NoDraw T.ex_NoDraw.2.1 (raises_own T.ex_NoDraw.2.2.1 T.ex_NoDraw.2.2.2) (by rfl))))
          pss_nil)
        (pss_cons (ps_expr (pc_off (ok_Keeper_init T) hr (by decide) T.gl_Keeper T.off_Keeper tkE (pa_cons (pv 0) (pa_cons (pv 1) pa_nil))))
        (pss_one (ps_fld (pv 0) (pv 2) rfl)))), ?_⟩
    refine ⟨_, rfl, _, _, rfl, rfl, _, rfl, ?_⟩
    refine iteD (fun hm => ?_) (fun hm => ?_)
    · exact kn hm H (Same.refl H)
    · refine ⟨_, rfl, _, rfl, o, p, _, dx, rfl, .inl rfl, ho, fun t H1 nt h1 h2 f => ?_⟩
      refine ⟨_, rfl, _, rfl, T.w_Drawer_most h1 ?_⟩
      rw [show putF "most" (V.int m) (zf kks [.ref p, .ref t, .int 0]) = df p t 0 m from zf_new (by decide +kernel) rfl]
      have to : t ≠ o := ne_of h2 h1 (by intro z; cases z)
      exact k (by omega) t _ nt upd_same (by rw [upd_ne to]; exact h2) (f.upd (.inl rfl))
abbrev N_Weigher_init : List Str := ["self", "purse"]
abbrev P_Weigher_init : List Str := ["self", "purse"]
theorem sc_Weigher_init : FnScope N_Weigher_init P_Weigher_init (defScope s_Weigher_init) := ⟨rfl, rfl, rfl, by decide +kernel, rfl, by decide +kernel, by decide +kernel⟩
theorem ok_Weigher_init (T : Tx w K mg h) : Cal P w K mg base 2 (ma K (ga K "Weigher") "__init__") (sp_Weigher_init K) := by
  obtain ⟨fd, F⟩ := T.fn_Weigher_init
  refine okOf F sc_Weigher_init (fun _ _ _ _ _ _ us hl => match us, hl with | [_, _], _ => rfl) (fun vs H Q E h => ?_) (fun cdv A outer s H vs Q E hr hsp => ?_)
  · repeat (first | (obtain ⟨h1, _⟩ := h; subst h1; rfl) | (obtain ⟨_, h⟩ := h))
  · obtain ⟨o, p, dx, rfl, ho, k⟩ := hsp
    refine ⟨_, (pss_cons (ps_expr (pc_off (ok_Keeper_init T) hr (by decide) T.gl_Keeper T.off_Keeper tkE (pa_cons (pv 0) (pa_cons (pv 1) pa_nil))))
        (pss_one (ps_fld (pv 0) pe_int rfl))), ?_⟩
    refine ⟨_, rfl, _, rfl, o, p, _, dx, rfl, .inr rfl, ho, fun t H1 nt h1 h2 f => ?_⟩
    refine ⟨_, rfl, T.w_Weigher_total h1 ?_⟩
    rw [show putF "total" (V.int 0) (zf kks [.ref p, .ref t, .int 0]) = wf p t 0 0 from zf_new (by decide +kernel) rfl]
    have to : t ≠ o := ne_of h2 h1 (by intro z; cases z)
    exact k t _ nt upd_same (by rw [upd_ne to]; exact h2) (f.upd (.inl rfl))
end
end Ev

set_option Elab.async false
set_option linter.all false
set_option maxRecDepth 100000
set_option maxHeartbeats 2000000
/-! Keepers that see, a drawer cut. -/
namespace Ev
open PySem PySem.Spec PyProof.Rows L2 He
theorem ixN_nat {n : Nat} {i : Int} (h0 : 0 ≤ i) (h : i < n) : ixN n i = some i.toNat := by
  unfold ixN
  rw [if_pos h0, if_pos h]
theorem few_of {m : Int} (h1 : 1 ≤ m) (h2 : m ≤ 2 ^ 63) : Few m := ⟨h1, h2⟩
section
variable {P : Program} {w : World} {K : PySem.W.Frag} {mg : Str → Option Value} {base h : Heap}
abbrev N_Drawer_see : List Str := ["self", "thing", "place"]
abbrev P_Drawer_see : List Str := ["self", "thing"]
theorem sc_Drawer_see : FnScope N_Drawer_see P_Drawer_see (defScope s_Drawer_see) := ⟨rfl, rfl, rfl, by decide +kernel, rfl, by decide +kernel, by decide +kernel⟩
theorem ok_Drawer_see (T : Tx w K mg h) : Cal P w K mg base 6 (ma K (ga K "Drawer") "see") (sp_Drawer_see K) := by
  obtain ⟨fd, F⟩ := T.fn_Drawer_see
  refine okOf F sc_Drawer_see (fun _ _ _ _ _ _ us hl => match us, hl with | [_, _], _ => rfl) (fun vs H Q E h => ?_) (fun cdv A outer s H vs Q E hr hsp => ?_)
  · repeat (first | (obtain ⟨h1, _⟩ := h; subst h1; rfl) | (obtain ⟨_, h⟩ := h))
  · obtain ⟨o, dx, p, t, l, B, q, c, m, ths, z, rfl, ho, ht, hP, hB, tl, c0, c1, m1, hlen, hl5, kn, ks⟩ := hsp
    refine ⟨_, (pss_cons (ps_if (pt_cmpR op_lt (pe_fld (pv 0) rfl) (pe_fld (pv 0) rfl) (nomark _))
          (pss_one (ps_expr (pe_bm PySem.F.plainAttrs_list PySem.F.slot_list_append PySem.F.type_list_append mt_append (pe_fld (pv 0) rfl) (pa_cons (pv 1) pa_nil))))
          (pss_cons (ps_set (i := 2) sc_Drawer_see.nd rfl (Or.inl rfl) (pc_m (ok_Purse_draw T) hr (by decide) (has_Purse_draw T) tkE (pe_fld (pv 0) rfl) (pa_cons (pe_op op_add (pe_fld (pv 0) rfl) pe_int) pa_nil)))
          (pss_one (ps_if (pt_cmpR op_lt (pv 2) (pe_fld (pv 0) rfl) (nomark _))
            (pss_one (ps_asg (pv 1) (pg_sub (pe_fld (pv 0) rfl) (pv 2) set_list)))
            pss_nil))))
        (pss_one (ps_fldaug (pv 0) pe_int in_add))), ?_⟩
    obtain ⟨pdx, used, full, hp, hl, hP2⟩ := id hP
    have ot : o ≠ t := ne_of ho ht (by intro z; cases z)
    have op : o ≠ p := ne_of ho hp df_pf
    have pt : p ≠ t := ne_of hp ht (by intro z; cases z)
    have ol : o ≠ l := ne_of ho hl (by intro z; cases z)
    refine ⟨_, rfl, T.r_Drawer_count ho ⟨_, rfl, T.r_Drawer_most ho ⟨_, _, rfl, rfl, _, rfl, ?_⟩⟩⟩
    refine iteD (fun hc => ?_) (fun hc => ?_)
    · -- self.things.append(thing)
      refine ⟨_, rfl, T.r_Drawer_things ho ⟨.inl ⟨rfl, _, .inl (.inl ht)⟩, _, rfl, t, _, _, rfl, rfl, ht, (by rw [List.length_map, sizeLine_eq]; omega), ?_⟩⟩
      have ho1 : ∀ u, upd H t u o = some (.ins (ga K "Drawer") dx (df p t c m)) := fun u => by rw [upd_ne ot]; exact ho
      refine ⟨_, rfl, o, _, dx, _, _, rfl, ho1 _, T.cs_Drawer, T.na_Drawer_count, df_count, _, _, rfl, rfl, dx, _, ho1 _, (by show 4 < 1000; decide), ?_⟩
      rw [df_put_count]
      refine ks q (ths ++ [z]) (by unfold seeD; rw [if_pos hc]) _ ⟨pdx, used, full, ?_, ?_, hP2⟩ upd_same ?_ ?_
      · rw [upd_ne op.symm, upd_ne pt]
        exact hp
      · rw [upd_ne ol.symm, upd_ne tl.symm]
        exact hl
      · rw [upd_ne ot.symm, upd_same, List.map_append]
        rfl
      · exact ((Fr.refl (ch := fun b => b = o ∨ b = t ∨ b = p)).upd (.inl (.inr (.inl rfl)))).upd (.inl (.inl rfl))
    · -- place = self.purse.draw(self.count + 1)
      refine ⟨_, rfl, T.r_Drawer_purse ho ⟨p, _, pdx, _, rfl, hp, rfl, pf_no (by decide +kernel), _, rfl, T.r_Drawer_count ho ⟨_, _, rfl, rfl, p, l, B, q, c + 1, rfl, hP, hB, by omega, fun z => by omega, fun _ => ⟨fun hn => ?_, fun a q' hd H1 hP1 f1 => ?_⟩⟩⟩⟩
      · exact kn (by unfold seeD; rw [if_neg hc, hn]; rfl)
      · have fw : Few (c + 1) := ⟨by omega, by omega⟩
        obtain ⟨g1, g2, g3, _⟩ := Pool.draw_ok fw hP2.2.2.2 hd
        have ho1 := f1 _ _ ho op
        have ht1 := f1 _ _ ht pt.symm
        have sd : ∀ ths', (if a < m then ths.set a.toNat z else ths) = ths' → seeD q c m ths z = some (q', ths') := fun ths' e => by
          unfold seeD
          rw [if_neg hc, hd]
          show some (q', if a < m then ths.set a.toNat z else ths) = _
          rw [e]
        obtain ⟨pdx', used', full', hp', hl', hP3⟩ := id hP1
        refine ⟨_, rfl, _, rfl, T.r_Drawer_most ho1 ⟨_, _, rfl, rfl, _, rfl, ?_⟩⟩
        refine iteD (fun ha => ?_) (fun ha => ?_)
        · -- self.things[place] = thing
          refine ⟨_, rfl, _, rfl, T.r_Drawer_things ho1 ⟨_, rfl, t, _, _, a.toNat, rfl, rfl, ht1, ixN_nat g2 (by rw [List.length_map]; omega), ?_⟩⟩
          have ho2 : ∀ u, upd H1 t u o = some (.ins (ga K "Drawer") dx (df p t c m)) := fun u => by rw [upd_ne ot]; exact ho1
          refine ⟨_, rfl, o, _, dx, _, _, rfl, ho2 _, T.cs_Drawer, T.na_Drawer_count, df_count, _, _, rfl, rfl, dx, _, ho2 _, (by show 4 < 1000; decide), ?_⟩
          rw [df_put_count]
          refine ks q' _ (sd _ (if_pos ha)) _ ⟨pdx', used', full', ?_, ?_, hP3⟩ upd_same ?_ ?_
          · rw [upd_ne op.symm, upd_ne pt]
            exact hp'
          · rw [upd_ne ol.symm, upd_ne tl.symm]
            exact hl'
          · rw [upd_ne ot.symm, upd_same, List.map_set]
          · exact ((f1.mono (ch' := fun b => b = o ∨ b = t ∨ b = p) fun b e => .inr (.inr e)).upd (.inl (.inr (.inl rfl)))).upd (.inl (.inl rfl))
        · refine ⟨_, rfl, o, _, dx, _, _, rfl, ho1, T.cs_Drawer, T.na_Drawer_count, df_count, _, _, rfl, rfl, dx, _, ho1, (by show 4 < 1000; decide), ?_⟩
          rw [df_put_count]
          refine ks q' _ (sd _ (if_neg ha)) _ ⟨pdx', used', full', ?_, ?_, hP3⟩ upd_same ?_ ?_
          · rw [upd_ne op.symm]
            exact hp'
          · rw [upd_ne ol.symm]
            exact hl'
          · rw [upd_ne ot.symm]
            exact ht1
          · exact (f1.mono (ch' := fun b => b = o ∨ b = t ∨ b = p) fun b e => .inr (.inr e)).upd (.inl (.inl rfl))
abbrev N_Weigher_see : List Str := ["self", "thing", "weight"]
abbrev P_Weigher_see : List Str := ["self", "thing", "weight"]
theorem sc_Weigher_see : FnScope N_Weigher_see P_Weigher_see (defScope s_Weigher_see) := ⟨rfl, rfl, rfl, by decide +kernel, rfl, by decide +kernel, by decide +kernel⟩
theorem ok_Weigher_see (T : Tx w K mg h) : Cal P w K mg base 6 (ma K (ga K "Weigher") "see") (sp_Weigher_see K) := by
  obtain ⟨fd, F⟩ := T.fn_Weigher_see
  refine okOf F sc_Weigher_see (fun _ _ _ _ _ _ us hl => match us, hl with | [_, _, _], _ => rfl) (fun vs H Q E h => ?_) (fun cdv A outer s H vs Q E hr hsp => ?_)
  · repeat (first | (obtain ⟨h1, _⟩ := h; subst h1; rfl) | (obtain ⟨_, h⟩ := h))
  · obtain ⟨o, dx, p, t, l, B, q, c, s0, wt, ths, z, rfl, ho, ht, hP, hB, c0, s00, hsw, kn, ks⟩ := hsp
    refine ⟨_, (pss_cons (ps_if (pt_cmpR op_lt (pv 2) pe_int (nomark _))
          (pss_one (ps_raise rfl tkE (pmk_own PySem.F.excBase_ValueError T.ex_NoDraw.1 T.gl_NoDraw T.ex_NoDraw.2.1 (raises_own T.ex_NoDraw.2.2.1 T.ex_NoDraw.2.2.2) (by rfl))))
          pss_nil)
        (pss_cons (ps_if (PW.pt (pw_or (pt_cmpR op_eq (pe_fld (pv 0) rfl) pe_int (nomark _)) (pw_or1 (pt_cmpR op_lt (pc_m (ok_Purse_draw T) hr (by decide) (has_Purse_draw T) tkE (pe_fld (pv 0) rfl) (pa_cons (pe_op op_add (pe_fld (pv 0) rfl) (pv 2)) pa_nil)) (pv 2) (nomark _)))))
          (pss_one (ps_fld (pv 0) (pe_lst (pa_cons (pv 1) pa_nil)) rfl))
          pss_nil)
        (pss_cons (ps_fldaug (pv 0) (pv 2) in_add)
        (pss_one (ps_fldaug (pv 0) pe_int in_add))))), ?_⟩
    obtain ⟨pdx, used, full, hp, hl, hP2⟩ := id hP
    have op : o ≠ p := ne_of ho hp wf_pf
    have ol : o ≠ l := ne_of ho hl (by intro z; cases z)
    have ot : o ≠ t := ne_of ho ht (by intro z; cases z)
    refine ⟨_, rfl, _, _, rfl, rfl, _, rfl, ?_⟩
    refine iteD (fun hw => ?_) (fun hw => ?_)
    · exact kn hw H (Same.refl H)
    obtain ⟨k1, k2⟩ := ks (by omega)
    -- the end: self.total += weight; self.count += 1
    have fin : ∀ (H1 : Hp) (t' : Addr) (q' : Pool) (ths' : List Str), seeW q c s0 ths z wt = some (q', ths') → (t' = t ∨ H t' = none) → H1 o = some (.ins (ga K "Weigher") dx (wf p t' c s0)) → H1 t' = some (.lst (ths'.map .str)) → PurseAt K H1 p l B q' → Fr (fun b => b = o ∨ b = p) H H1 →
      ∀ H3, H3 = upd (upd H1 o (.ins (ga K "Weigher") dx (wf p t' c (s0 + wt)))) o (.ins (ga K "Weigher") dx (wf p t' (c + 1) (s0 + wt))) → Q .non H3 := by
      intro H1 t' q' ths' e ht' ho1 ht1 hP1 f1 H3 e3
      subst e3
      obtain ⟨pdx', used', full', hp', hl', hP3⟩ := hP1
      have ot' : o ≠ t' := ne_of ho1 ht1 (by intro z; cases z)
      refine k2 q' ths' e _ t' ht' ⟨pdx', used', full', ?_, ?_, hP3⟩ upd_same ?_ ((f1.upd (.inl (.inl rfl))).upd (.inl (.inl rfl)))
      · rw [upd_ne op.symm, upd_ne op.symm]
        exact hp'
      · rw [upd_ne ol.symm, upd_ne ol.symm]
        exact hl'
      · rw [upd_ne ot'.symm, upd_ne ot'.symm]
        exact ht1
    have app : ∀ (H1 : Hp) (t' : Addr) (q' : Pool) (ths' : List Str), seeW q c s0 ths z wt = some (q', ths') → (t' = t ∨ H t' = none) → H1 o = some (.ins (ga K "Weigher") dx (wf p t' c s0)) → H1 t' = some (.lst (ths'.map .str)) → PurseAt K H1 p l B q' → Fr (fun b => b = o ∨ b = p) H H1 →
      tSeq (sFldAug K (tVar 0) (tVar 2) rAdd "total") (sFldAug K (tVar 0) (tC (.int 1)) rAdd "count") { nx := fun _ H' => Q .non H', rt := Q } (start N_Weigher_see [.ref o, .str z, .int wt]) H1 := by
      intro H1 t' q' ths' e ht' ho1 ht1 hP1 f1
      refine ⟨_, rfl, o, _, dx, _, _, rfl, ho1, T.cs_Weigher, T.na_Weigher_total, wf_total, _, rfl, _, _, rfl, rfl, dx, _, ho1, (by show 4 < 1000; decide), ?_⟩
      rw [wf_put_total]
      refine ⟨_, rfl, o, _, dx, _, _, rfl, upd_same, T.cs_Weigher, T.na_Weigher_count, wf_count, _, _, rfl, rfl, dx, _, upd_same, (by show 4 < 1000; decide), ?_⟩
      rw [wf_put_count]
      exact fin H1 t' q' ths' e ht' ho1 ht1 hP1 f1 _ rfl
    -- self.things = [thing]
    have one : ∀ (H1 : Hp) (q' : Pool), seeW q c s0 ths z wt = some (q', [z]) → H1 o = some (.ins (ga K "Weigher") dx (wf p t c s0)) → PurseAt K H1 p l B q' → Fr (fun b => b = o ∨ b = p) H H1 → ∀ r, H1 r = none →
      tSeq (sFldAug K (tVar 0) (tVar 2) rAdd "total") (sFldAug K (tVar 0) (tC (.int 1)) rAdd "count") { nx := fun _ H' => Q .non H', rt := Q } (start N_Weigher_see [.ref o, .str z, .int wt]) (upd (upd H1 r (.lst [.str z])) o (.ins (ga K "Weigher") dx (wf p r c s0))) := by
      intro H1 q' e ho1 hP1 f1 r nr
      have ro : r ≠ o := (ne_of_none ho1 nr).symm
      obtain ⟨pdx', used', full', hp', hl', hP3⟩ := hP1
      have nr0 : H r = none := by
        cases e : H r with
        | none => rfl
        | some u =>
          by_cases rp : r = p
          · rw [rp, hp'] at nr; cases nr
          · have z2 := f1 _ _ e (by intro z; rcases z with z | z; exact ro z; exact rp z)
            rw [z2] at nr; cases nr
      refine app _ r q' [z] e (.inr nr0) upd_same (by rw [upd_ne ro, upd_same]; rfl) ⟨pdx', used', full', ?_, ?_, hP3⟩ ((f1.upd (.inr nr0)).upd (.inl (.inl rfl)))
      · rw [upd_ne op.symm, upd_ne (ne_of_none hp' nr)]
        exact hp'
      · rw [upd_ne ol.symm, upd_ne (ne_of_none hl' nr)]
        exact hl'
    refine ⟨_, rfl, T.r_Weigher_count ho ⟨rfl, _, rfl, ?_⟩⟩
    refine iteVi (fun hc => ?_) (fun hc => ?_)
    · refine iteT ⟨_, rfl, by show 1 ≤ sizeLine; decide, fun r nr => ⟨_, rfl, T.w_Weigher_things (by rw [upd_ne (ne_of_none ho nr)]; exact ho) ?_⟩⟩
      rw [wf_put_things]
      exact one H q (by unfold seeW; rw [if_pos hc]) ho hP Fr.refl r nr
    · refine ⟨_, rfl, T.r_Weigher_purse ho ⟨p, _, pdx, _, rfl, hp, rfl, pf_no (by decide +kernel), _, rfl, T.r_Weigher_total ho ⟨_, rfl, _, _, rfl, rfl, p, l, B, q, s0 + wt, rfl, hP, hB, hsw, fun z => by omega, fun _ => ⟨fun hn => ?_, fun a q' hd H1 hP1 f1 => ?_⟩⟩⟩⟩
      · exact k1 (by unfold seeW; rw [if_neg hc, hn]; rfl)
      · have ho1 := f1 _ _ ho op
        have pt : t ≠ p := (ne_of hp ht (by intro z; cases z)).symm
        have ht1 := f1 _ _ ht pt
        have f2 : Fr (fun b => b = o ∨ b = p) H H1 := f1.mono fun b e => .inr e
        refine ⟨_, rfl, _, _, rfl, rfl, _, rfl, ?_⟩
        refine iteD (fun ha => ?_) (fun ha => ?_)
        · refine ⟨_, rfl, by show 1 ≤ sizeLine; decide, fun r nr => ⟨_, rfl, T.w_Weigher_things (by rw [upd_ne (ne_of_none ho1 nr)]; exact ho1) ?_⟩⟩
          rw [wf_put_things]
          exact one H1 q' (by unfold seeW; rw [if_neg hc, hd]; show some (q', if a < wt then [z] else ths) = _; rw [if_pos ha]) ho1 hP1 f2 r nr
        · exact app H1 t q' ths (by unfold seeW; rw [if_neg hc, hd]; show some (q', if a < wt then [z] else ths) = _; rw [if_neg ha]) (.inl rfl) ho1 ht1 hP1 f2
end
end Ev

set_option Elab.async false
set_option linter.all false
set_option maxRecDepth 100000
set_option maxHeartbeats 2000000
/-! A drawer cut. -/
namespace Ev
open PySem PySem.Spec PyProof.Rows L2 He
theorem map_erase {α β : Type} (f : α → β) : ∀ (xs : List α) (i : Nat), (xs.map f).eraseIdx i = (xs.eraseIdx i).map f
  | [], i => rfl
  | x :: xs, 0 => rfl
  | x :: xs, i + 1 => by
    show f x :: (xs.map f).eraseIdx i = f x :: (xs.eraseIdx i).map f
    rw [map_erase f xs i]
theorem pops_append : ∀ (ths : List Str) (as : List Int) (a : Int), pops ths (as ++ [a]) = (pops ths as).eraseIdx a.toNat
  | ths, [], a => rfl
  | ths, i :: is, a => pops_append (ths.eraseIdx i.toNat) is a
theorem take_more {α : Type} {as : List α} {i : Nat} {a : α} (h : as[i]? = some a) : as.take (i + 1) = as.take i ++ [a] := by
  rw [List.take_add_one, h]
  rfl
theorem dn_get {i j : Int} {k : Nat} (h : (k : Int) < i - j) : (dn i j)[k]? = some (i - k) := by
  unfold dn
  rw [List.getElem?_map, List.getElem?_range (by omega)]
  rfl
theorem dn_length (i j : Int) : (dn i j).length = (i - j).toNat := by
  unfold dn
  rw [List.length_map, List.length_range]
theorem dn_mem {i j m : Int} (h : m ∈ dn i j) : j < m ∧ m ≤ i := by
  unfold dn at h
  obtain ⟨k, hk, rfl⟩ := List.mem_map.mp h
  have := List.mem_range.mp hk
  omega
theorem seq_nat {n : Nat} {i : Int} (h0 : 0 ≤ i) (h : i < n) : seqIndex? i n = some i.toNat := (ixN_seq (ixN_nat h0 h)).1
section
variable {P : Program} {w : World} {K : PySem.W.Frag} {mg : Str → Option Value} {base h : Heap}
abbrev N_Drawer_cut : List Str := ["self", "many", "place"]
abbrev P_Drawer_cut : List Str := ["self", "many"]
theorem sc_Drawer_cut : FnScope N_Drawer_cut P_Drawer_cut (defScope s_Drawer_cut) := ⟨rfl, rfl, rfl, by decide +kernel, rfl, by decide +kernel, by decide +kernel⟩
theorem ok_Drawer_cut (T : Tx w K mg h) : Cal P w K mg base 6 (ma K (ga K "Drawer") "cut") (sp_Drawer_cut K) := by
  obtain ⟨fd, F⟩ := T.fn_Drawer_cut
  refine okOf F sc_Drawer_cut (fun _ _ _ _ _ _ us hl => match us, hl with | [_, _], _ => rfl) (fun vs H Q E h => ?_) (fun cdv A outer s H vs Q E hr hsp => ?_)
  · repeat (first | (obtain ⟨h1, _⟩ := h; subst h1; rfl) | (obtain ⟨_, h⟩ := h))
  · obtain ⟨o, dx, p, t, l, B, q, c, m, n, ths, rfl, ho, ht, hP, hB, tl, hl5, kn, m62, ks⟩ := hsp
    refine ⟨_, (pss_cons (ps_if (PW.pt (pw_or (pt_cmpR op_lt (pv 1) pe_int (nomark _)) (pw_or1 (pt_cmpR op_gt (pv 1) (pe_fld (pv 0) rfl) (nomark _)))))
          (pss_one (ps_raise rfl tkE (pmk_own PySem.F.excBase_ValueError T.ex_NoDraw.1 T.gl_NoDraw T.ex_NoDraw.2.1 (raises_own T.ex_NoDraw.2.2.1 T.ex_NoDraw.2.2.2) (by rfl))))
          pss_nil)
        (pss_cons (ps_for powE rfl (pi_list (pc_m (ok_Purse_draws T) hr (by decide) (has_Purse_draws T) tkE (pe_fld (pv 0) rfl) (pa_cons (pe_lrg rfl (by rfl) T.fr_list (by rfl) T.fr_range (pa_cons (pe_callB call_len_seq (by rfl) T.fr_len boot_len (pa_cons (pe_fld (pv 0) rfl) pa_nil)) (pa_cons (pv 1) (pa_cons (pe_un un_neg pe_int) pa_nil)))) pa_nil))) (pg_name (i := 2) sc_Drawer_cut.nd rfl (Or.inl rfl))
          (pss_one (ps_expr (pe_bm PySem.F.plainAttrs_list PySem.F.slot_list_pop PySem.F.type_list_pop mt_popAt (pe_fld (pv 0) rfl) (pa_cons (pv 2) pa_nil)))))
        (pss_one (ps_fld (pv 0) (pv 1) rfl)))), ?_⟩
    obtain ⟨pdx, used, full, hp, hl, hP2⟩ := id hP
    have ot : o ≠ t := ne_of ho ht (by intro z; cases z)
    have op : o ≠ p := ne_of ho hp df_pf
    have pt : p ≠ t := ne_of hp ht (by intro z; cases z)
    have ol : o ≠ l := ne_of ho hl (by intro z; cases z)
    refine ⟨_, rfl, _, _, rfl, rfl, _, rfl, ?_⟩
    refine iteD (fun h1 => ?_) (fun h1 => ?_)
    · exact iteT (kn (.inl h1) H (Same.refl H))
    refine ⟨_, rfl, _, rfl, T.r_Drawer_most ho ⟨_, _, rfl, rfl, _, rfl, ?_⟩⟩
    refine iteD (fun h2 => ?_) (fun h2 => ?_)
    · exact kn (.inr h2) H (Same.refl H)
    obtain ⟨k1, k2⟩ := ks (by omega)
    have few : ∀ m' ∈ dn ths.length n, Few m' := fun m' hm => by
      have z := dn_mem hm
      exact ⟨by omega, by omega⟩
    refine ⟨_, rfl, T.r_Drawer_purse ho ⟨p, _, pdx, _, rfl, hp, rfl, pf_no (by decide +kernel), _, rfl, T.r_Drawer_things ho ⟨_, _, rfl, .inl (SqL.of ht), _, rfl, _, rfl, _, _, rfl, ⟨by omega, by rw [List.length_map]; omega, by omega, by omega⟩, fun ms nms => ?_⟩⟩⟩
    have s1 : Same H (upd H ms (.lst (dnV (ths.map V.str).length n))) := (Same.refl H).upd nms
    refine ⟨p, l, ms, B, q, dn ths.length n, rfl, hP.same s1, hB, SqL.of (by rw [upd_same, List.length_map, dnV_map]), (by rw [dn_length]; omega), fun ⟨x, hx, z⟩ => ?_, fun _ => ⟨fun z => (k1 z).mono s1, fun as q' hd H1 r nr hP1 f1 hr1 => ?_⟩, .inr few⟩
    · have := dn_mem hx
      omega
    · obtain ⟨g1, g2, g3, g4⟩ := Pool.draws_ok few hP2.2.2.2 hd
      rw [dn_length] at g2
      have ho1 := f1 _ _ (s1 _ _ ho) op
      have ht1 := f1 _ _ (s1 _ _ ht) pt.symm
      have rt : r ≠ t := fun z => by rw [z, s1 _ _ ht] at nr; cases nr
      refine ⟨r, rfl, ⟨_, SqL.of hr1⟩, for_list (K := K) (a := r) (xs := as.map V.int) (fun i σ H2 => ∃ v, σ = [some (.ref o), some (.int n), v] ∧ H2 t = some (.lst ((pops ths (as.take i)).map .str)) ∧ (pops ths (as.take i)).length = ths.length - i ∧ Fr (fun b => b = t) H1 H2)
        ⟨none, rfl, ht1, rfl, Fr.refl⟩ (fun i σ H2 _ ⟨_, _, _, _, f2⟩ => SqL.of (f2 _ _ hr1 rt)) ?_ ?_⟩
      · rintro i y σ H2 hi ⟨v, rfl, ht2, hlen, f2⟩
        have him : i < as.length := by
          have z := (List.getElem?_eq_some_iff.mp hi).1
          rw [List.length_map] at z
          exact z
        rw [List.getElem?_map, List.getElem?_eq_getElem him] at hi
        cases hi
        obtain ⟨a, e1, a0, a1⟩ := g4 i _ (dn_get (i := (ths.length : Int)) (j := n) (k := i) (by omega))
        rw [List.getElem?_eq_getElem him] at e1
        have e1 := Option.some.inj e1
        subst e1
        have hlt : as[i].toNat < (pops ths (as.take i)).length := by omega
        refine ⟨_, rfl, T.r_Drawer_things (f2 _ _ ho1 ot) ⟨.inl ⟨rfl, _, .inl (.inl ht2)⟩, _, rfl, t, _, _, as[i].toNat, _, rfl, rfl, ht2, by omega, by omega, seq_nat a0 (by rw [List.length_map]; omega), (by rw [List.getElem?_map, List.getElem?_eq_getElem hlt]; rfl), ?_⟩⟩
        have et : pops ths (as.take (i + 1)) = (pops ths (as.take i)).eraseIdx as[i].toNat := by rw [take_more (List.getElem?_eq_getElem him), pops_append]
        refine ⟨_, rfl, ?_, ?_, f2.upd (.inl rfl)⟩
        · rw [upd_same, et, map_erase]
        · rw [et, List.length_eraseIdx_of_lt hlt]
          omega
      · rintro σ H2 ⟨v, rfl, ht2, hlen, f2⟩
        rw [List.length_map, List.take_length] at ht2
        obtain ⟨pdx', used', full', hp', hl', hP3⟩ := id hP1
        refine ⟨_, rfl, _, rfl, T.w_Drawer_most (f2 _ _ ho1 ot) ?_⟩
        rw [df_put_most]
        refine k2 as q' hd _ ⟨pdx', used', full', ?_, ?_, hP3⟩ upd_same ?_ ?_
        · rw [upd_ne op.symm]
          exact f2 _ _ hp' pt
        · rw [upd_ne ol.symm]
          exact f2 _ _ hl' tl.symm
        · rw [upd_ne ot.symm]
          exact ht2
        · exact (((s1.fr.trans (f1.mono (ch' := fun b => b = o ∨ b = t ∨ b = p) fun b e => .inr (.inr e))).trans (f2.mono fun b e => .inr (.inl e))).upd (.inl (.inl rfl)))
end
end Ev

set_option Elab.async false
set_option linter.all false
set_option maxRecDepth 100000
set_option maxHeartbeats 2000000
/-! Things shuffled by answers: the desk's and the law's. -/
namespace Ev
open PySem PySem.Spec PyProof.Rows L2 He
/-- the things at i and j change places -/
def sw (xs : List Str) (i j : Nat) : List Str := (xs.set i (xs.getD j "")).set j (xs.getD i "")
def shufP : List Str → Nat → List Int → List Str
  | xs, _, [] => xs
  | xs, k, a :: as => shufP (sw xs a.toNat (xs.length - 1 - k)) (k + 1) as
def shuf (xs : List Str) (as : List Int) : List Str := shufP xs 0 as
theorem sw_length (xs : List Str) (i j : Nat) : (sw xs i j).length = xs.length := by
  unfold sw
  rw [List.length_set, List.length_set]
theorem sw_comm {xs : List Str} {i j : Nat} : (xs.set j (xs.getD i "")).set i (xs.getD j "") = sw xs i j := by
  unfold sw
  by_cases e : i = j
  · subst e
    rfl
  · exact List.set_comm _ _ (fun z => e z.symm)
theorem shufP_length : ∀ (as : List Int) (xs : List Str) (k : Nat), (shufP xs k as).length = xs.length
  | [], xs, k => rfl
  | a :: as, xs, k => by
    show (shufP (sw xs a.toNat (xs.length - 1 - k)) (k + 1) as).length = _
    rw [shufP_length as, sw_length]
theorem shufP_append (a : Int) : ∀ (as : List Int) (xs : List Str) (k : Nat), shufP xs k (as ++ [a]) = sw (shufP xs k as) a.toNat (xs.length - 1 - (k + as.length))
  | [], xs, k => rfl
  | b :: as, xs, k => by
    show shufP (sw xs b.toNat (xs.length - 1 - k)) (k + 1) (as ++ [a]) = sw (shufP (sw xs b.toNat (xs.length - 1 - k)) (k + 1) as) a.toNat _
    rw [shufP_append a as, sw_length, List.length_cons, show k + 1 + as.length = k + (as.length + 1) by omega]
theorem shuf_length (xs : List Str) (as : List Int) : (shuf xs as).length = xs.length := shufP_length as xs 0
theorem shuf_more {xs : List Str} {as : List Int} {i : Nat} {a : Int} (h : as[i]? = some a) : shuf xs (as.take (i + 1)) = sw (shuf xs (as.take i)) a.toNat (xs.length - 1 - i) := by
  have hl : i < as.length := (List.getElem?_eq_some_iff.mp h).1
  unfold shuf
  rw [take_more h, shufP_append, List.length_take, Nat.zero_add, Nat.min_eq_left (by omega)]
theorem getD_at {xs : List Str} {i : Nat} (h : i < xs.length) : (xs.map V.str)[i]? = some (.str (xs.getD i "")) := by
  rw [List.getElem?_map, List.getElem?_eq_getElem h, List.getD_eq_getElem?_getD, List.getElem?_eq_getElem h]
  rfl
/-- answers that shuffle may take -/
def ShOk (n : Nat) (as : List Int) : Prop := as.length ≤ n ∧ ∀ k a, as[k]? = some a → 0 ≤ a ∧ a < (n : Int) - (k : Nat)
def sp_shuffled (K : PySem.W.Frag) : Sp := fun vs H Q _ => ∃ (t r : Addr) (ths : List Str) (as : List Int), vs = [.ref t, .ref r] ∧ H t = some (.lst (ths.map .str)) ∧ SqL K H r (as.map .int) ∧ ths.length ≤ 100000 ∧ ShOk ths.length as ∧
  ∀ (H' : Hp) (f : Addr), Same H H' → H f = none → H' f = some (.lst ((shuf ths as).map .str)) → Q (.ref f) H'
section
variable {P : Program} {w : World} {K : PySem.W.Frag} {mg : Str → Option Value} {base h : Heap}
abbrev N_shuffled : List Str := ["things", "places", "found", "last", "place", "thing"]
abbrev P_shuffled : List Str := ["things", "places"]
theorem sc_shuffled : FnScope N_shuffled P_shuffled (defScope s_shuffled) := ⟨rfl, rfl, rfl, by decide +kernel, rfl, by decide +kernel, by decide +kernel⟩
theorem ok_shuffled (T : Tx w K mg h) : Cal P w K mg base 1 (ga K "shuffled") (sp_shuffled K) := by
  obtain ⟨fd, F⟩ := T.fn_shuffled
  refine okOf F sc_shuffled (fun _ _ _ _ _ _ us hl => match us, hl with | [_, _], _ => rfl) (fun vs H Q E h => ?_) (fun cdv A outer s H vs Q E hr hsp => ?_)
  · repeat (first | (obtain ⟨h1, _⟩ := h; subst h1; rfl) | (obtain ⟨_, h⟩ := h))
  · obtain ⟨t, r, ths, as, rfl, ht, hr0, hl5, ⟨ha, hok⟩, k⟩ := hsp
    refine ⟨_, (pss_cons (ps_set (i := 2) sc_shuffled.nd rfl (Or.inl rfl) (pe_callTy call_list_of (by rfl) T.fr_list boot_list (pa_cons (pv 0) pa_nil)))
        (pss_cons (ps_set (i := 3) sc_shuffled.nd rfl (Or.inl rfl) (pe_op op_sub (pe_callB call_len_seq (by rfl) T.fr_len boot_len (pa_cons (pv 2) pa_nil)) pe_int))
        (pss_cons (ps_for powE rfl (pi_list (pv 1)) (pg_name (i := 4) sc_shuffled.nd rfl (Or.inl rfl))
          (pss_cons (ps_set (i := 5) sc_shuffled.nd rfl (Or.inl rfl) (pe_ix ix_list (pv 2) (pv 4) (fun _ _ => rfl)))
          (pss_cons (ps_asg (pe_ix ix_list (pv 2) (pv 3) (fun _ _ => rfl)) (pg_sub (pv 2) (pv 4) set_list))
          (pss_cons (ps_asg (pv 5) (pg_sub (pv 2) (pv 3) set_list))
          (pss_one (ps_aug (i := 3) sc_shuffled.nd rfl (.inl rfl) pe_int ip_sub))))))
        (pss_one (ps_ret (pv 2)))))), ?_⟩
    refine ⟨_, rfl, _, _, rfl, .inl (SqL.of ht), fun f nf => ?_⟩
    have s1 : Same H (upd H f (.lst (ths.map .str))) := (Same.refl H).upd nf
    refine ⟨_, rfl, _, _, rfl, .inl (SqL.of upd_same), _, _, rfl, rfl, ?_⟩
    refine ⟨_, rfl, r, rfl, ⟨_, s1.seq hr0⟩, for_list (K := K) (a := r) (xs := as.map V.int) (fun i σ H2 => ∃ v1 v2, σ = [some (.ref t), some (.ref r), some (.ref f), some (.int ((ths.length : Int) - 1 - i)), v1, v2] ∧ Same H H2 ∧ H2 f = some (.lst ((shuf ths (as.take i)).map .str)))
      ⟨none, none, ?_, s1, upd_same⟩ (fun i σ H2 _ ⟨_, _, _, s2, _⟩ => s2.seq hr0) ?_ ?_⟩
    · rw [List.length_map]
      show _ = [some (V.ref t), some (V.ref r), some (V.ref f), some (V.int ((ths.length : Int) - 1 - (0 : Nat))), none, none]
      rw [show (ths.length : Int) - 1 - ((0 : Nat) : Int) = (ths.length : Int) - 1 by omega]
      rfl
    · rintro i y σ H2 hi ⟨v1, v2, rfl, s2, hf⟩
      have him : i < as.length := by
        have z := (List.getElem?_eq_some_iff.mp hi).1
        rw [List.length_map] at z
        exact z
      have hai := List.getElem?_eq_getElem him
      rw [List.getElem?_map, hai] at hi
      cases hi
      obtain ⟨a0, a1⟩ := hok i _ hai
      have hln : (shuf ths (as.take i)).length = ths.length := shuf_length _ _
      have e1 : ((ths.length : Int) - 1 - (i : Nat)) = ((ths.length - 1 - i : Nat) : Int) := by omega
      have e2 : as[i] = ((as[i].toNat : Nat) : Int) := by omega
      have g1 := getD_at (xs := shuf ths (as.take i)) (i := as[i].toNat) (by omega)
      have g2 := getD_at (xs := shuf ths (as.take i)) (i := ths.length - 1 - i) (by omega)
      refine ⟨_, rfl, _, rfl, f, _, _, _, rfl, rfl, SqL.of hf, (by rw [e2]; exact atI_nat g1), ?_⟩
      refine ⟨_, rfl, _, rfl, f, _, _, _, rfl, rfl, SqL.of hf, (by rw [e1]; exact atI_nat g2), _, rfl, _, rfl, f, _, _, as[i].toNat, rfl, rfl, hf, ixN_nat a0 (by rw [List.length_map]; omega), ?_⟩
      refine ⟨_, rfl, _, rfl, _, rfl, f, _, _, ths.length - 1 - i, rfl, rfl, upd_same, (by rw [e1]; exact ixN_nat (by omega) (by rw [List.length_set, List.length_map]; omega)), ?_⟩
      have e3 : ((ths.length : Int) - 1 - (i : Nat)) - 1 = (ths.length : Int) - 1 - ((i + 1 : Nat) : Int) := by omega
      refine ⟨_, rfl, _, _, rfl, rfl, some (.int as[i]), some (.str ((shuf ths (as.take i)).getD as[i].toNat "")), (by rw [← e3]; rfl), (fun b o e => ?_), ?_⟩
      · have bf : b ≠ f := ne_of_none e nf
        rw [upd_ne bf, upd_ne bf]
        exact s2 _ _ e
      · rw [upd_same, shuf_more hai, ← List.map_set, ← List.map_set]
        rfl
    · rintro σ H2 ⟨v1, v2, rfl, s2, hf⟩
      rw [List.length_map, List.take_length] at hf
      exact ⟨_, rfl, k H2 f s2 nf hf⟩
abbrev N__law_shuffled : List Str := ["_law_things", "_law_answers", "_law_found", "_law_k", "_law_last", "_law_kept_here"]
abbrev P__law_shuffled : List Str := ["_law_things", "_law_answers"]
theorem sc__law_shuffled : FnScope N__law_shuffled P__law_shuffled (defScope s__law_shuffled) := ⟨rfl, rfl, rfl, by decide +kernel, rfl, by decide +kernel, by decide +kernel⟩
theorem ok__law_shuffled (T : Tx w K mg h) : Cal P w K mg base 1 (ga K "_law_shuffled") (sp_shuffled K) := by
  obtain ⟨fd, F⟩ := T.fn__law_shuffled
  refine okOf F sc__law_shuffled (fun _ _ _ _ _ _ us hl => match us, hl with | [_, _], _ => rfl) (fun vs H Q E h => ?_) (fun cdv A outer s H vs Q E hr hsp => ?_)
  · repeat (first | (obtain ⟨h1, _⟩ := h; subst h1; rfl) | (obtain ⟨_, h⟩ := h))
  · obtain ⟨t, r, ths, as, rfl, ht, hr0, hl5, ⟨ha, hok⟩, k⟩ := hsp
    refine ⟨_, (pss_cons (ps_set (i := 2) sc__law_shuffled.nd rfl (Or.inl rfl) (pe_callTy call_list_of (by rfl) T.fr_list boot_list (pa_cons (pv 0) pa_nil)))
        (pss_cons (ps_for powE rfl (pi_range1 (by rfl) T.fr_range (pa_cons (pe_callB call_len_seq (by rfl) T.fr_len boot_len (pa_cons (pv 1) pa_nil)) pa_nil)) (pg_name (i := 3) sc__law_shuffled.nd rfl (Or.inl rfl))
          (pss_cons (ps_set (i := 4) sc__law_shuffled.nd rfl (Or.inl rfl) (pe_op op_sub (pe_op op_sub (pe_callB call_len_seq (by rfl) T.fr_len boot_len (pa_cons (pv 2) pa_nil)) pe_int) (pv 3)))
          (pss_cons (ps_set (i := 5) sc__law_shuffled.nd rfl (Or.inl rfl) (pe_ix ix_list (pv 2) (pv 4) (fun _ _ => rfl)))
          (pss_cons (ps_asg (pe_ix ix_list (pv 2) (pe_ix ix_list (pv 1) (pv 3) (fun _ _ => rfl)) (fun _ _ => rfl)) (pg_sub (pv 2) (pv 4) set_list))
          (pss_one (ps_asg (pv 5) (pg_sub (pv 2) (pe_ix ix_list (pv 1) (pv 3) (fun _ _ => rfl)) set_list)))))))
        (pss_one (ps_ret (pv 2))))), ?_⟩
    refine ⟨_, rfl, _, _, rfl, .inl (SqL.of ht), fun f nf => ?_⟩
    have s1 : Same H (upd H f (.lst (ths.map .str))) := (Same.refl H).upd nf
    refine ⟨_, rfl, _, _, rfl, .inl (s1.seq hr0), as.length, (by rw [List.length_map]), (by omega), (by omega), for_range (n := as.length) (fun i σ H2 => ∃ v1 v2 v3, σ = [some (.ref t), some (.ref r), some (.ref f), v1, v2, v3] ∧ Same H H2 ∧ H2 f = some (.lst ((shuf ths (as.take i)).map .str)))
      ⟨none, none, none, rfl, s1, upd_same⟩ ?_ ?_⟩
    · rintro i σ H2 him ⟨v1, v2, v3, rfl, s2, hf⟩
      have hai := List.getElem?_eq_getElem him
      obtain ⟨a0, a1⟩ := hok i _ hai
      have hln : (shuf ths (as.take i)).length = ths.length := shuf_length _ _
      have e1 : ((ths.length : Int) - 1 - (0 + (i : Nat))) = ((ths.length - 1 - i : Nat) : Int) := by omega
      have e2 : as[i] = ((as[i].toNat : Nat) : Int) := by omega
      have g0 : atI (as.map V.int) (0 + (i : Nat)) = some (.int as[i]) := by
        rw [Int.zero_add]
        exact atI_nat (by rw [List.getElem?_map, hai]; rfl)
      have g1 := getD_at (xs := shuf ths (as.take i)) (i := as[i].toNat) (by omega)
      have g2 := getD_at (xs := shuf ths (as.take i)) (i := ths.length - 1 - i) (by omega)
      refine ⟨_, rfl, _, _, rfl, .inl (SqL.of hf), _, _, rfl, rfl, _, rfl, _, _, rfl, rfl, ?_⟩
      rw [List.length_map, hln]
      refine ⟨_, rfl, _, rfl, f, _, _, _, rfl, rfl, SqL.of hf, (by rw [e1]; exact atI_nat g2), ?_⟩
      refine ⟨_, rfl, _, rfl, _, rfl, r, _, _, _, rfl, rfl, s2.seq hr0, g0, f, _, _, _, rfl, rfl, SqL.of hf, (by rw [e2]; exact atI_nat g1), _, rfl, _, rfl, f, _, _, ths.length - 1 - i, rfl, rfl, hf, (by rw [e1]; exact ixN_nat (by omega) (by rw [List.length_map]; omega)), ?_⟩
      have rf : ∀ u, SqL K (upd H2 f u) r (as.map V.int) := fun u => Same.seq (H := H) (fun b o e => by rw [upd_ne (ne_of_none e nf)]; exact s2 _ _ e) hr0
      refine ⟨_, rfl, _, rfl, _, rfl, _, rfl, r, _, _, _, rfl, rfl, rf _, g0, f, _, _, as[i].toNat, rfl, rfl, upd_same, ixN_nat a0 (by rw [List.length_set, List.length_map]; omega), ?_⟩
      refine ⟨_, _, _, rfl, (fun b o e => ?_), ?_⟩
      · have bf : b ≠ f := ne_of_none e nf
        rw [upd_ne bf, upd_ne bf]
        exact s2 _ _ e
      · rw [upd_same, shuf_more hai, ← List.map_set, ← List.map_set, sw_comm]
    · rintro σ H2 ⟨v1, v2, v3, rfl, s2, hf⟩
      rw [List.take_length] at hf
      exact ⟨_, rfl, k H2 f s2 nf hf⟩
end
end Ev

set_option Elab.async false
set_option linter.all false
set_option maxRecDepth 100000
set_option maxHeartbeats 2000000
/-! Two drawers poured together: the plain model. -/
namespace Ev
open PySem PySem.Spec PyProof.Rows L2 He
theorem cut_to (xs : List V) (n : Nat) : cutV xs none (some (n : Int)) = xs.take n := by
  unfold cutV
  rw [HT.sIx_nat, HT.sIx_none, List.drop_zero, Nat.sub_zero]
  by_cases h : n ≤ xs.length
  · rw [Nat.min_eq_left h]
  · rw [Nat.min_eq_right (by omega), List.take_of_length_le (Nat.le_refl _), List.take_of_length_le (by omega)]
theorem cut_mid {xs : List V} {i j : Nat} (h : j ≤ xs.length) (hi : i ≤ xs.length) : cutV xs (some (i : Int)) (some (j : Int)) = (xs.drop i).take (j - i) := by
  unfold cutV
  rw [HT.sIx_nat, HT.sIx_nat, Nat.min_eq_left h, Nat.min_eq_left hi]
/-- the numbers asked for two drawers of a and b things, of m each at most, that saw tog -/
def manysD (a b : Nat) (m tog : Int) : List Int := dn a 1 ++ dn b 1 ++ (List.range (min m tog).toNat).map fun k => tog - (k : Nat)
theorem dn1_length (a : Nat) : (dn a 1).length = a - 1 := by
  rw [dn_length]
  omega
theorem manysD_length (a b : Nat) (m tog : Int) : (manysD a b m tog).length = (a - 1) + (b - 1) + (min m tog).toNat := by
  unfold manysD
  rw [List.length_append, List.length_append, dn1_length, dn1_length, List.length_map, List.length_range]
theorem manysD_1 {a b : Nat} {m tog : Int} {k : Nat} (h : k < a - 1) : (manysD a b m tog)[k]? = some ((a : Int) - (k : Nat)) := by
  unfold manysD
  rw [List.append_assoc, List.getElem?_append_left (by rw [dn1_length]; exact h)]
  exact dn_get (by omega)
theorem manysD_2 {a b : Nat} {m tog : Int} {k : Nat} (h : k < b - 1) : (manysD a b m tog)[(a - 1) + k]? = some ((b : Int) - (k : Nat)) := by
  unfold manysD
  rw [List.append_assoc, List.getElem?_append_right (by rw [dn1_length]; omega), dn1_length, show a - 1 + k - (a - 1) = k by omega, List.getElem?_append_left (by rw [dn1_length]; exact h)]
  exact dn_get (by omega)
theorem manysD_3 {a b : Nat} {m tog : Int} {k : Nat} (h : k < (min m tog).toNat) : (manysD a b m tog)[(a - 1) + (b - 1) + k]? = some (tog - (k : Nat)) := by
  unfold manysD
  rw [List.getElem?_append_right (by rw [List.length_append, dn1_length, dn1_length]; omega), List.length_append, dn1_length, dn1_length, show a - 1 + (b - 1) + k - (a - 1 + (b - 1)) = k by omega, List.getElem?_map, List.getElem?_range h]
  rfl
theorem manysD_mem {a b : Nat} {m tog x : Int} (h : x ∈ manysD a b m tog) : 1 ≤ x ∧ (x ≤ a ∨ x ≤ b ∨ x ≤ tog) := by
  unfold manysD at h
  rcases List.mem_append.mp h with h | h
  · rcases List.mem_append.mp h with h | h
    · have := dn_mem h
      omega
    · have := dn_mem h
      omega
  · obtain ⟨k, hk, rfl⟩ := List.mem_map.mp h
    have := List.mem_range.mp hk
    omega
/-- how many of both are taken, and what is taken -/
def mg1 (c1 : Int) (xs ys : List Str) (s : Nat × Nat × List Str) (n : Int) : Nat × Nat × List Str :=
  if n < c1 - s.1 then (s.1 + 1, s.2.1, s.2.2 ++ [xs.getD s.1 ""]) else (s.1, s.2.1 + 1, s.2.2 ++ [ys.getD s.2.1 ""])
def mrg (c1 : Int) (xs ys : List Str) (ns : List Int) : Nat × Nat × List Str := ns.foldl (mg1 c1 xs ys) (0, 0, [])
theorem mrg_step {c1 : Int} {xs ys : List Str} {ns : List Int} {i : Nat} {n : Int} (h : ns[i]? = some n) : mrg c1 xs ys (ns.take (i + 1)) = mg1 c1 xs ys (mrg c1 xs ys (ns.take i)) n := by
  unfold mrg
  rw [take_more h, List.foldl_append]
  rfl
theorem mg1_ok {c1 c2 : Int} {xs ys : List Str} {s : Nat × Nat × List Str} {n : Int} {i : Nat} (n0 : 0 ≤ n) (n1 : n < c1 + c2 - (i : Nat)) (q1 : s.1 + s.2.1 = i) (q2 : s.2.2.length = i) (q3 : (s.1 : Int) ≤ c1) (q4 : (s.2.1 : Int) ≤ c2) :
    (mg1 c1 xs ys s n).1 + (mg1 c1 xs ys s n).2.1 = i + 1 ∧ (mg1 c1 xs ys s n).2.2.length = i + 1 ∧ ((mg1 c1 xs ys s n).1 : Int) ≤ c1 ∧ ((mg1 c1 xs ys s n).2.1 : Int) ≤ c2 := by
  unfold mg1
  by_cases hl : n < c1 - s.1
  · rw [if_pos hl]
    refine ⟨show s.1 + 1 + s.2.1 = i + 1 by omega, ?_, show ((s.1 + 1 : Nat) : Int) ≤ c1 by omega, q4⟩
    show (s.2.2 ++ [_]).length = i + 1
    rw [List.length_append, q2]
    rfl
  · rw [if_neg hl]
    refine ⟨show s.1 + (s.2.1 + 1) = i + 1 by omega, ?_, q3, show ((s.2.1 + 1 : Nat) : Int) ≤ c2 by omega⟩
    show (s.2.2 ++ [_]).length = i + 1
    rw [List.length_append, q2]
    rfl
theorem mrg_inv {c1 c2 : Int} {xs ys : List Str} {ns : List Int} (h1 : 0 ≤ c1) (h2 : 0 ≤ c2) (hn : ∀ k n, ns[k]? = some n → 0 ≤ n ∧ n < c1 + c2 - (k : Nat)) : ∀ i, i ≤ ns.length →
    (mrg c1 xs ys (ns.take i)).1 + (mrg c1 xs ys (ns.take i)).2.1 = i ∧ (mrg c1 xs ys (ns.take i)).2.2.length = i ∧ ((mrg c1 xs ys (ns.take i)).1 : Int) ≤ c1 ∧ ((mrg c1 xs ys (ns.take i)).2.1 : Int) ≤ c2
  | 0, _ => ⟨rfl, rfl, h1, h2⟩
  | i + 1, hi => by
    obtain ⟨q1, q2, q3, q4⟩ := mrg_inv (xs := xs) (ys := ys) h1 h2 hn i (by omega)
    have hg : ns[i]? = some (ns[i]'(by omega)) := List.getElem?_eq_getElem (by omega)
    obtain ⟨n0, n1⟩ := hn i _ hg
    rw [mrg_step hg]
    exact mg1_ok n0 n1 q1 q2 q3 q4
/-- what the two drawers hold poured together -/
def pourTh (ths1 ths2 : List Str) (c1 : Int) (as : List Int) : List Str :=
  (mrg c1 (shuf ths1 (as.take (ths1.length - 1))) (shuf ths2 ((as.drop (ths1.length - 1)).take (ths2.length - 1))) (as.drop ((ths1.length - 1) + (ths2.length - 1)))).2.2
/-- the answers that are drawn for it -/
structure AnsOk (a b : Nat) (m tog : Int) (as : List Int) : Prop where
  len : as.length = (a - 1) + (b - 1) + (min m tog).toNat
  s1 : ShOk a (as.take (a - 1))
  s2 : ShOk b ((as.drop (a - 1)).take (b - 1))
  s3 : ∀ k n, (as.drop ((a - 1) + (b - 1)))[k]? = some n → 0 ≤ n ∧ n < tog - (k : Nat)
theorem ansOk {a b : Nat} {m tog : Int} {as : List Int} {q q' : Pool} (ha : (a : Int) ≤ 2 ^ 63) (hb : (b : Int) ≤ 2 ^ 63) (ht : tog ≤ 2 ^ 63) (ok : q.Ok) (h : q.draws (manysD a b m tog) = some (as, q')) : AnsOk a b m tog as := by
  obtain ⟨g1, g2, g3, g4⟩ := Pool.draws_ok (fun x hx => by have := manysD_mem hx; exact ⟨by omega, by omega⟩) ok h
  rw [manysD_length] at g2
  refine ⟨g2, ⟨by rw [List.length_take]; omega, fun k x e => ?_⟩, ⟨by rw [List.length_take]; omega, fun k x e => ?_⟩, fun k x e => ?_⟩
  · rw [List.getElem?_take] at e
    split at e
    · rename_i hk
      obtain ⟨y, e1, e2⟩ := g4 k _ (manysD_1 hk)
      rw [e1] at e
      cases e
      exact e2
    · cases e
  · rw [List.getElem?_take] at e
    split at e
    · rename_i hk
      rw [List.getElem?_drop] at e
      obtain ⟨y, e1, e2⟩ := g4 _ _ (manysD_2 (a := a) hk)
      rw [e1] at e
      cases e
      exact e2
    · cases e
  · rw [List.getElem?_drop] at e
    have hk := (List.getElem?_eq_some_iff.mp e).1
    obtain ⟨y, e1, e2⟩ := g4 _ _ (manysD_3 (a := a) (b := b) (m := m) (tog := tog) (k := k) (by omega))
    rw [e1] at e
    cases e
    exact e2
end Ev

set_option Elab.async false
set_option linter.all false
set_option maxRecDepth 100000
set_option maxHeartbeats 2000000
/-! pour_drawers. -/
namespace Ev
open PySem PySem.Spec PyProof.Rows L2 He
theorem Fr.freeP {H H' : Hp} {p x : Addr} (f : Fr (fun b => b = p) H H') (hp : H' p ≠ none) (n : H' x = none) : H x = none := by
  cases e : H x with
  | none => rfl
  | some u =>
    by_cases z : x = p
    · subst z
      exact absurd n hp
    · rw [f _ _ e z] at n
      cases n
theorem head_map {xs : List Str} {i : Nat} (h : i < xs.length) : ((xs.drop i).map V.str)[0]? = some (.str (xs.getD i "")) := by
  rw [List.getElem?_map, List.getElem?_drop, Nat.add_zero, List.getElem?_eq_getElem h, List.getD_eq_getElem?_getD, List.getElem?_eq_getElem h]
  rfl
theorem erase_head (xs : List Str) (i : Nat) : ((xs.drop i).map V.str).eraseIdx 0 = (xs.drop (i + 1)).map V.str := by
  rw [map_erase, List.eraseIdx_zero, List.tail_drop]
def sp_pour_drawers (K : PySem.W.Frag) : Sp := fun vs H Q E => ∃ (o1 o2 dx1 dx2 p p1 p2 t1 t2 l : Addr) (B : Nat) (q : Pool) (c1 c2 m1 m2 : Int) (ths1 ths2 : List Str), vs = [.ref o1, .ref o2, .ref p] ∧
  H o1 = some (.ins (ga K "Drawer") dx1 (df p1 t1 c1 m1)) ∧ H t1 = some (.lst (ths1.map .str)) ∧ H o2 = some (.ins (ga K "Drawer") dx2 (df p2 t2 c2 m2)) ∧ H t2 = some (.lst (ths2.map .str)) ∧ PurseAt K H p l B q ∧ B ≤ 100000 ∧ 0 ≤ c1 ∧ 0 ≤ c2 ∧ c1 + c2 ≤ 2 ^ 63 ∧ 1 ≤ m1 ∧ 1 ≤ m2 ∧
  (ths1.length : Int) = min c1 m1 ∧ (ths2.length : Int) = min c2 m2 ∧ ths1.length ≤ 100000 ∧ ths2.length ≤ 100000 ∧ (m1 ≠ m2 → Rz K .nodraw E H) ∧ (m1 = m2 → (q.draws (manysD ths1.length ths2.length m1 (c1 + c2)) = none → Rz K (.short q.coins.length) E H) ∧
  ∀ as q', q.draws (manysD ths1.length ths2.length m1 (c1 + c2)) = some (as, q') → ∀ H' o dx t, H o = none → H t = none → PurseAt K H' p l B q' → H' o = some (.ins (ga K "Drawer") dx (df p t (c1 + c2) m1)) → H' t = some (.lst ((pourTh ths1 ths2 c1 as).map .str)) → Fr (fun b => b = p) H H' → Q (.ref o) H')
section
variable {P : Program} {w : World} {K : PySem.W.Frag} {mg : Str → Option Value} {base h : Heap}
abbrev N_pour_drawers : List Str := ["one", "other", "purse", "left", "together", "first", "second", "manys", "turns", "answers", "ones", "others", "found", "number", "k"]
abbrev P_pour_drawers : List Str := ["one", "other", "purse"]
theorem sc_pour_drawers : FnScope N_pour_drawers P_pour_drawers (defScope s_pour_drawers) := ⟨rfl, rfl, rfl, by decide +kernel, rfl, by decide +kernel, by decide +kernel⟩
theorem ok_pour_drawers (T : Tx w K mg h) : Cal P w K mg base 5 (ga K "pour_drawers") (sp_pour_drawers K) := by
  obtain ⟨fd, F⟩ := T.fn_pour_drawers
  refine okOf F sc_pour_drawers (fun _ _ _ _ _ _ us hl => match us, hl with | [_, _, _], _ => rfl) (fun vs H Q E h => ?_) (fun cdv A outer s H vs Q E hr hsp => ?_)
  · repeat (first | (obtain ⟨h1, _⟩ := h; subst h1; rfl) | (obtain ⟨_, h⟩ := h))
  · obtain ⟨o1, o2, dx1, dx2, p, p1, p2, t1, t2, l, B, q, c1, c2, m1, m2, ths1, ths2, rfl, ho1, ht1, ho2, ht2, hP, hB, c10, c20, hc, m11, m21, hn1, hn2, hl1, hl2, kn, ks⟩ := hsp
    refine ⟨_, (pss_cons (ps_if (pt_cmpR op_ne (pe_fld (pv 0) rfl) (pe_fld (pv 1) rfl) (nomark _))
          (pss_one (ps_raise rfl tkE (pmk_own PySem.F.excBase_ValueError T.ex_NoDraw.1 T.gl_NoDraw T.ex_NoDraw.2.1 (raises_own T.ex_NoDraw.2.2.1 T.ex_NoDraw.2.2.2) (by rfl))))
          pss_nil)
        (pss_cons (ps_set (i := 3) sc_pour_drawers.nd rfl (Or.inl rfl) (pc_m0 (ok_Keeper_seen T) hr (by decide) (has_seen T) tkE (pv 0)))
        (pss_cons (ps_set (i := 4) sc_pour_drawers.nd rfl (Or.inr rfl) (pe_op op_add (pv 3) (pc_m0 (ok_Keeper_seen T) hr (by decide) (has_seen T) tkE (pv 1))))
        (pss_cons (ps_set (i := 5) sc_pour_drawers.nd rfl (Or.inl rfl) (pe_callB call_len_seq (by rfl) T.fr_len boot_len (pa_cons (pc_m0 (ok_Keeper_held T) hr (by decide) (has_held T) tkE (pv 0)) pa_nil)))
        (pss_cons (ps_set (i := 6) sc_pour_drawers.nd rfl (Or.inl rfl) (pe_callB call_len_seq (by rfl) T.fr_len boot_len (pa_cons (pc_m0 (ok_Keeper_held T) hr (by decide) (has_held T) tkE (pv 1)) pa_nil)))
        (pss_cons (ps_set (i := 7) sc_pour_drawers.nd rfl (Or.inl rfl) (pe_op op_cat (pe_lrg rfl (by rfl) T.fr_list (by rfl) T.fr_range (pa_cons (pv 5) (pa_cons pe_int (pa_cons (pe_un un_neg pe_int) pa_nil)))) (pe_lrg rfl (by rfl) T.fr_list (by rfl) T.fr_range (pa_cons (pv 6) (pa_cons pe_int (pa_cons (pe_un un_neg pe_int) pa_nil))))))
        (pss_cons (ps_set (i := 8) sc_pour_drawers.nd rfl (Or.inl rfl) (pe_callB call_len_seq (by rfl) T.fr_len boot_len (pa_cons (pv 7) pa_nil)))
        (pss_cons (ps_set (i := 7) sc_pour_drawers.nd rfl (Or.inl rfl) (pe_op op_cat (pv 7) (pe_lc (own := [("k", 14)]) rfl sc_pour_drawers.nd (pi_range1 (by rfl) T.fr_range (pa_cons (pe_callB (call_min2 rfl) (by rfl) T.fr_min boot_min (pa_cons (pe_fld (pv 0) rfl) (pa_cons (pv 4) pa_nil))) pa_nil)) (blkOk_by (own := [("k", 14)]) (N := N_pour_drawers) (sc := defScope s_pour_drawers) (by decide +kernel)) (fun _ _ _ _ _ => (pg_name (i := 14) sc_pour_drawers.nd rfl (Or.inl rfl))) (fun _ _ _ _ _ => pts_nil) (fun _ _ _ _ _ => (pe_op op_sub (pv 4) (pv 14))))))
        (pss_cons (ps_set (i := 9) sc_pour_drawers.nd rfl (Or.inl rfl) (pc_m (ok_Purse_draws T) hr (by decide) (has_Purse_draws T) tkE (pv 2) (pa_cons (pv 7) pa_nil)))
        (pss_cons (ps_set (i := 10) sc_pour_drawers.nd rfl (Or.inl rfl) (pc_f (ok_shuffled T) hr (by decide) T.gl_shuffled tkE (pa_cons (pc_m0 (ok_Keeper_held T) hr (by decide) (has_held T) tkE (pv 0)) (pa_cons (pe_slice sl_list (pv 9) po_none (po_some (pe_callB (call_max2 rfl) (by rfl) T.fr_max boot_max (pa_cons pe_int (pa_cons (pe_op op_sub (pv 5) pe_int) pa_nil))))) pa_nil))))
        (pss_cons (ps_set (i := 11) sc_pour_drawers.nd rfl (Or.inl rfl) (pc_f (ok_shuffled T) hr (by decide) T.gl_shuffled tkE (pa_cons (pc_m0 (ok_Keeper_held T) hr (by decide) (has_held T) tkE (pv 1)) (pa_cons (pe_slice sl_list (pv 9) (po_some (pe_callB (call_max2 rfl) (by rfl) T.fr_max boot_max (pa_cons pe_int (pa_cons (pe_op op_sub (pv 5) pe_int) pa_nil)))) (po_some (pv 8))) pa_nil))))
        (pss_cons (ps_set (i := 12) sc_pour_drawers.nd rfl (Or.inl rfl) (pc_mk (ok_Drawer_init T).d T.mk_Drawer hr (by decide) T.gl_Drawer pcE (pa_cons (pv 2) (pa_cons (pe_fld (pv 0) rfl) pa_nil))))
        (pss_cons (ps_for powE rfl (pi_list (pe_slice sl_list (pv 9) (po_some (pv 8)) po_none)) (pg_name (i := 13) sc_pour_drawers.nd rfl (Or.inl rfl))
          (pss_one (ps_if (pt_cmpR op_lt (pv 13) (pv 3) (nomark _))
            (pss_cons (ps_expr (pe_bm PySem.F.plainAttrs_list PySem.F.slot_list_append PySem.F.type_list_append mt_append (pe_fld (pv 12) rfl) (pa_cons (pe_bm PySem.F.plainAttrs_list PySem.F.slot_list_pop PySem.F.type_list_pop mt_popAt (pv 10) (pa_cons pe_int pa_nil)) pa_nil)))
            (pss_one (ps_aug (i := 3) sc_pour_drawers.nd rfl (.inl rfl) pe_int ip_sub)))
            (pss_one (ps_expr (pe_bm PySem.F.plainAttrs_list PySem.F.slot_list_append PySem.F.type_list_append mt_append (pe_fld (pv 12) rfl) (pa_cons (pe_bm PySem.F.plainAttrs_list PySem.F.slot_list_pop PySem.F.type_list_pop mt_popAt (pv 11) (pa_cons pe_int pa_nil)) pa_nil)))))))
        (pss_cons (ps_fld (pv 12) (pv 4) rfl)
        (pss_one (ps_ret (pv 12))))))))))))))))), ?_⟩
    refine ⟨_, rfl, T.r_Drawer_most ho1 ⟨_, rfl, T.r_Drawer_most ho2 ⟨rfl, _, rfl, ?_⟩⟩⟩
    refine iteNi (fun em => ?_) (fun em => ?_)
    rotate_left
    · exact kn em H (Same.refl H)
    subst em
    obtain ⟨k1, k2⟩ := ks rfl
    obtain ⟨pdx, used, full, hp, hl, hP2⟩ := id hP
    have no1 : (df p1 t1 c1 m1).lookup ("seen" : Str) = none := df_no (by decide +kernel)
    have no2 : (df p2 t2 c2 m1).lookup ("seen" : Str) = none := df_no (by decide +kernel)
    have nh1 : (df p1 t1 c1 m1).lookup ("held" : Str) = none := df_no (by decide +kernel)
    have nh2 : (df p2 t2 c2 m1).lookup ("held" : Str) = none := df_no (by decide +kernel)
    -- left, together
    refine ⟨_, rfl, o1, _, dx1, _, rfl, ho1, .inl rfl, no1, o1, dx1, p1, t1, c1, m1, rfl, .inl ho1, ?_⟩
    refine ⟨_, rfl, _, rfl, o2, _, dx2, _, rfl, ho2, .inl rfl, no2, o2, dx2, p2, t2, c2, m1, rfl, .inl ho2, _, _, rfl, rfl, ?_⟩
    -- first, second
    refine ⟨_, rfl, o1, _, dx1, _, rfl, ho1, .inl rfl, nh1, o1, dx1, p1, t1, c1, m1, _, rfl, .inl ho1, ht1, fun r1 nr1 => ⟨r1, _, rfl, .inl (SqL.of upd_same), ?_⟩⟩
    have s1 : Same H (upd H r1 (.lst (ths1.map .str))) := (Same.refl H).upd nr1
    refine ⟨_, rfl, o2, _, dx2, _, rfl, s1 _ _ ho2, .inl rfl, nh2, o2, dx2, p2, t2, c2, m1, _, rfl, .inl (s1 _ _ ho2), s1 _ _ ht2, fun r2 nr2 => ⟨r2, _, rfl, .inl (SqL.of upd_same), ?_⟩⟩
    have s2 := s1.upd (o := .lst (ths2.map .str)) nr2
    rw [List.length_map, List.length_map]
    generalize upd (upd H r1 (.lst (ths1.map .str))) r2 (.lst (ths2.map .str)) = H2 at s2 ⊢
    -- manys
    refine ⟨_, rfl, _, rfl, _, _, rfl, ⟨by omega, by omega, by omega, by omega⟩, fun a1 na1 => ⟨_, rfl, _, rfl, _, _, rfl, ⟨by omega, by omega, by omega, by omega⟩, fun a2 na2 => ?_⟩⟩
    have a12 : a1 ≠ a2 := ne_of_none upd_same na2
    refine ⟨_, _, _, _, rfl, rfl, (by rw [upd_ne a12]; exact upd_same), upd_same, (by rw [dnV_length, dnV_length, sizeLine_eq]; omega), fun a3 na3 => ?_⟩
    have s3 := ((s2.upd (o := .lst (dnV ths1.length 1)) na1).upd (o := .lst (dnV ths2.length 1)) na2).upd (o := .lst (dnV ths1.length 1 ++ dnV ths2.length 1)) na3
    have ha3 : upd (upd (upd H2 a1 (.lst (dnV ths1.length 1))) a2 (.lst (dnV ths2.length 1))) a3 (.lst (dnV ths1.length 1 ++ dnV ths2.length 1)) a3 = some (.lst (dnV ths1.length 1 ++ dnV ths2.length 1)) := upd_same
    generalize upd (upd (upd H2 a1 (.lst (dnV ths1.length 1))) a2 (.lst (dnV ths2.length 1))) a3 (.lst (dnV ths1.length 1 ++ dnV ths2.length 1)) = H3 at s3 ha3 ⊢
    -- turns
    refine ⟨_, rfl, _, _, rfl, .inl (SqL.of ha3), ?_⟩
    rw [List.length_append, dnV_length, dnV_length, show ((ths1.length : Int) - 1).toNat = ths1.length - 1 by omega, show ((ths2.length : Int) - 1).toNat = ths2.length - 1 by omega]
    -- manys + [together - k ..]
    refine ⟨_, rfl, ?_⟩
    have emm : (if c1 + c2 < m1 then c1 + c2 else m1) = min m1 (c1 + c2) := by
      by_cases z : c1 + c2 < m1
      · rw [if_pos z]; omega
      · rw [if_neg z]; omega
    refine ⟨_, rfl, T.r_Drawer_most (s3 _ _ ho1) ⟨_, rfl, _, _, rfl, _, rfl, (by rw [emm]; omega), (by rw [emm]; omega), fun D nD => lc_mapR (f := fun k => .int (c1 + c2 - (0 + (k : Nat)))) nD (by rw [emm]; omega) (fun i H9 hi s9 R S hR => ⟨rfl, _, rfl, _, rfl, _, _, rfl, rfl, hR _ (Same.refl _)⟩) fun H4 s4 hl4 => ?_⟩⟩
    rw [emm] at hl4
    have ml : dnV ths1.length 1 ++ dnV ths2.length 1 ++ ((List.range (min m1 (c1 + c2)).toNat).map fun k => V.int (c1 + c2 - (0 + (k : Nat)))) = (manysD ths1.length ths2.length m1 (c1 + c2)).map V.int := by
      unfold manysD
      rw [List.map_append, List.map_append, dnV_map, dnV_map, List.map_map]
      congr 1
      exact List.map_congr_left fun k _ => by
        show V.int _ = V.int _
        rw [Int.zero_add]
    refine ⟨_, _, _, _, rfl, rfl, s4 _ _ ha3, hl4, (by rw [List.length_append, dnV_length, dnV_length, List.length_map, List.length_range, sizeLine_eq]; omega), fun a4 na4 => ?_⟩
    rw [ml]
    have s5 := (s3.trans s4).upd (o := .lst ((manysD ths1.length ths2.length m1 (c1 + c2)).map V.int)) na4
    have ha4 : upd H4 a4 (.lst ((manysD ths1.length ths2.length m1 (c1 + c2)).map V.int)) a4 = some (.lst ((manysD ths1.length ths2.length m1 (c1 + c2)).map V.int)) := upd_same
    generalize upd H4 a4 (.lst ((manysD ths1.length ths2.length m1 (c1 + c2)).map V.int)) = H5 at s5 ha4 ⊢
    -- answers
    have few : ∀ x ∈ manysD ths1.length ths2.length m1 (c1 + c2), Few x := fun x hx => by
      have := manysD_mem hx
      exact ⟨by omega, by omega⟩
    have hP5 := hP.same s5
    refine ⟨_, rfl, p, _, pdx, _, rfl, s5 _ _ hp, rfl, pf_no (by decide +kernel), _, rfl, p, l, a4, B, q, _, rfl, hP5, hB, SqL.of ha4, (by rw [manysD_length]; omega), fun ⟨x, hx, z⟩ => by have := manysD_mem hx; omega, fun _ => ⟨fun z => (k1 z).mono s5, fun as q' hd H6 ra nra hP6 f6 hra => ?_⟩, .inr few⟩
    have an := ansOk (by omega) (by omega) hc hP2.2.2.2 hd
    have fr6 : Fr (fun b => b = p) H H6 := s5.fr.trans f6
    have hpn : H6 p ≠ none := by
      obtain ⟨_, _, _, z, _⟩ := hP6
      rw [z]
      exact fun z => nomatch z
    have o1p : o1 ≠ p := ne_of ho1 hp df_pf
    have o2p : o2 ≠ p := ne_of ho2 hp df_pf
    have t1p : t1 ≠ p := ne_of ht1 hp (by intro z; cases z)
    have t2p : t2 ≠ p := ne_of ht2 hp (by intro z; cases z)
    have lp : l ≠ p := ne_of hl hp (by intro z; cases z)
    have ho16 := fr6 _ _ ho1 o1p
    have ho26 := fr6 _ _ ho2 o2p
    have ht16 := fr6 _ _ ht1 t1p
    have ht26 := fr6 _ _ ht2 t2p
    have nra0 : H ra = none := s5.free nra
    have emx : (if (ths1.length : Int) - 1 > 0 then (ths1.length : Int) - 1 else 0) = ((ths1.length - 1 : Nat) : Int) := by
      by_cases z : (ths1.length : Int) - 1 > 0
      · rw [if_pos z]; omega
      · rw [if_neg z]; omega
    have len1 := an.len
    -- ones
    refine ⟨_, rfl, o1, _, dx1, _, rfl, ho16, .inl rfl, nh1, o1, dx1, p1, t1, c1, m1, _, rfl, .inl ho16, ht16, fun r3 nr3 => ?_⟩
    have s7 : Same H6 (upd H6 r3 (.lst (ths1.map .str))) := (Same.refl H6).upd nr3
    refine ⟨_, rfl, _, rfl, _, _, rfl, rfl, _, _, rfl, _, rfl, ra, _, rfl, SqL.of (s7 _ _ hra), fun r4 nr4 => ?_⟩
    have r34 : r3 ≠ r4 := ne_of_none upd_same nr4
    refine ⟨r3, r4, ths1, as.take (ths1.length - 1), rfl, (by rw [upd_ne r34]; exact upd_same), SqL.of (by rw [upd_same]; show some (HO.lst (cutV (as.map V.int) none (some (if (ths1.length : Int) - 1 > 0 then (ths1.length : Int) - 1 else 0)))) = _; rw [emx, cut_to, List.map_take]), hl1, an.s1, fun H8 f8 s8 nf8 hf8 => ?_⟩
    have s68 : Same H6 H8 := (s7.upd nr4).trans s8
    have nf80 : H6 f8 = none := (s7.upd nr4).free nf8
    -- others
    refine ⟨_, rfl, o2, _, dx2, _, rfl, s68 _ _ ho26, .inl rfl, nh2, o2, dx2, p2, t2, c2, m1, _, rfl, .inl (s68 _ _ ho26), s68 _ _ ht26, fun r5 nr5 => ?_⟩
    have s9 : Same H8 (upd H8 r5 (.lst (ths2.map .str))) := (Same.refl H8).upd nr5
    refine ⟨_, rfl, _, rfl, _, _, rfl, rfl, _, _, rfl, _, rfl, _, rfl, _, rfl, ra, _, rfl, SqL.of (s9 _ _ (s68 _ _ hra)), fun r6 nr6 => ?_⟩
    have r56 : r5 ≠ r6 := ne_of_none upd_same nr6
    refine ⟨r5, r6, ths2, (as.drop (ths1.length - 1)).take (ths2.length - 1), rfl, (by rw [upd_ne r56]; exact upd_same), SqL.of ?_, hl2, an.s2, fun H10 f10 s10 nf10 hf10 => ?_⟩
    · rw [upd_same]
      show some (HO.lst (cutV (as.map V.int) (some (if (ths1.length : Int) - 1 > 0 then (ths1.length : Int) - 1 else 0)) (some (((ths1.length - 1 + (ths2.length - 1) : Nat) : Int))))) = _
      rw [emx, cut_mid (by rw [List.length_map]; omega) (by rw [List.length_map]; omega), List.map_take, List.map_drop, show ths1.length - 1 + (ths2.length - 1) - (ths1.length - 1) = ths2.length - 1 by omega]
    have s810 : Same H8 H10 := (s9.upd nr6).trans s10
    have nf100 : H8 f10 = none := (s9.upd nr6).free nf10
    have hf8' := s810 _ _ hf8
    have s610 := s68.trans s810
    have f810 : f8 ≠ f10 := ne_of_none hf8 nf100
    -- found
    refine ⟨_, rfl, _, rfl, T.r_Drawer_most (s610 _ _ ho16) ?_⟩
    intro x xd nx nxd xdx
    refine ⟨x, p, xd, m1, rfl, upd_same, fun z => by omega, fun _ t H11 nt hx11 ht11 f11 => ⟨rfl, ?_⟩⟩
    have kH : Same H10 H11 := fun b o e => f11 _ _ (by rw [upd_ne (ne_of_none e nx), upd_ne (ne_of_none e nxd)]; exact e) (ne_of_none e nx)
    have tx : t ≠ x := fun z => by rw [z, upd_same] at nt; cases nt
    have txd : t ≠ xd := fun z => by rw [z, upd_ne xdx, upd_same] at nt; cases nt
    have nt10 : H10 t = none := by
      rw [upd_ne tx, upd_ne txd] at nt
      exact nt
    generalize hxs : shuf ths1 (as.take (ths1.length - 1)) = xs at *
    generalize hys : shuf ths2 ((as.drop (ths1.length - 1)).take (ths2.length - 1)) = ys at *
    generalize hns : as.drop ((ths1.length - 1) + (ths2.length - 1)) = ns at *
    have lxs : xs.length = ths1.length := by rw [← hxs, shuf_length]
    have lys : ys.length = ths2.length := by rw [← hys, shuf_length]
    have lns : ns.length = (min m1 (c1 + c2)).toNat := by rw [← hns, List.length_drop]; omega
    have hinv : ∀ i, i ≤ ns.length → _ := mrg_inv (xs := xs) (ys := ys) c10 c20 (by rw [← hns]; exact an.s3)
    refine ⟨_, rfl, _, rfl, _, rfl, ra, _, rfl, SqL.of (kH _ _ (s610 _ _ hra)), fun r7 nr7 => ?_⟩
    have s12 : Same H10 (upd H11 r7 (.lst (ns.map .int))) := fun b o e => by rw [upd_ne (ne_of_none (kH _ _ e) nr7)]; exact kH _ _ e
    have e7 : cutV (as.map V.int) (some (((ths1.length - 1 + (ths2.length - 1) : Nat) : Int))) none = ns.map V.int := by
      rw [cut_from (by rw [List.length_map]; omega), ← List.map_drop, hns]
    rw [e7]
    have h7 : upd H11 r7 (.lst (ns.map .int)) r7 = some (.lst (ns.map .int)) := upd_same
    have hx12 : upd H11 r7 (.lst (ns.map .int)) x = some (.ins (ga K "Drawer") xd (df p t 0 m1)) := by rw [upd_ne (ne_of_none hx11 nr7)]; exact hx11
    have ht12 : upd H11 r7 (.lst (ns.map .int)) t = some (.lst []) := by rw [upd_ne (ne_of_none ht11 nr7)]; exact ht11
    have n7 : H10 r7 = none := kH.free nr7
    have tf8 : t ≠ f8 := (ne_of_none hf8' nt10).symm
    have tf10 : t ≠ f10 := (ne_of_none hf10 nt10).symm
    have tr7 : t ≠ r7 := ne_of_none ht11 nr7
    have r7f8 : r7 ≠ f8 := (ne_of_none hf8' n7).symm
    have r7f10 : r7 ≠ f10 := (ne_of_none hf10 n7).symm
    have hf12 := s12 _ _ hf8'
    have hf12' := s12 _ _ hf10
    generalize upd H11 r7 (.lst (ns.map .int)) = H12 at s12 h7 hx12 ht12 hf12 hf12' ⊢
    have xf8 : x ≠ f8 := ne_of hx12 hf12 (by intro z; cases z)
    have xf10 : x ≠ f10 := ne_of hx12 hf12' (by intro z; cases z)
    have xt : x ≠ t := tx.symm
    refine ⟨r7, rfl, ⟨_, SqL.of h7⟩, for_list (K := K) (a := r7) (xs := ns.map V.int) (fun i σ H2 => ∃ v, σ = [some (.ref o1), some (.ref o2), some (.ref p), some (.int (c1 - (mrg c1 xs ys (ns.take i)).1)), some (.int (c1 + c2)), some (.int ths1.length), some (.int ths2.length), some (.ref a4), some (.int ((ths1.length - 1 + (ths2.length - 1) : Nat) : Int)), some (.ref ra), some (.ref f8), some (.ref f10), some (.ref x), v, none] ∧
        H2 f8 = some (.lst ((xs.drop (mrg c1 xs ys (ns.take i)).1).map .str)) ∧ H2 f10 = some (.lst ((ys.drop (mrg c1 xs ys (ns.take i)).2.1).map .str)) ∧ H2 t = some (.lst ((mrg c1 xs ys (ns.take i)).2.2.map .str)) ∧ Fr (fun b => b = f8 ∨ b = f10 ∨ b = t) H12 H2)
        ⟨none, ?_, hf12, hf12', ht12, Fr.refl⟩ (fun i σ H2 _ ⟨_, _, _, _, _, f2⟩ => SqL.of (f2 _ _ h7 (by intro z; rcases z with z | z | z; exact r7f8 z; exact r7f10 z; exact tr7 z.symm))) ?_ ?_⟩
    · show _ = [some (V.ref o1), some (V.ref o2), some (V.ref p), some (V.int (c1 - ((0 : Nat) : Int))), some (V.int (c1 + c2)), some (V.int ths1.length), some (V.int ths2.length), some (V.ref a4), some (V.int ((ths1.length - 1 + (ths2.length - 1) : Nat) : Int)), some (V.ref ra), some (V.ref f8), some (V.ref f10), some (V.ref x), none, none]
      rw [show c1 - ((0 : Nat) : Int) = c1 by omega]
      rfl
    · rintro i y σ H2 hi ⟨v, rfl, hf2, hf2', ht2, f2⟩
      have him : i < ns.length := by
        have z := (List.getElem?_eq_some_iff.mp hi).1
        rw [List.length_map] at z
        exact z
      have hni := List.getElem?_eq_getElem him
      rw [List.getElem?_map, hni] at hi
      cases hi
      obtain ⟨n0, n1⟩ := an.s3 i _ (by rw [hns]; exact hni)
      obtain ⟨q1, q2, q3, q4⟩ := hinv i (by omega)
      have hx2 := f2 _ _ hx12 (by intro z; rcases z with z | z | z; exact xf8 z; exact xf10 z; exact xt z)
      rw [mrg_step hni]
      generalize mrg c1 xs ys (ns.take i) = st at *
      refine ⟨_, rfl, _, rfl, _, _, rfl, rfl, _, rfl, ?_⟩
      refine iteD (fun hlt => ?_) (fun hlt => ?_)
      · have hs1 : st.1 < xs.length := by omega
        refine ⟨_, rfl, T.r_Drawer_things hx2 ⟨.inl ⟨rfl, _, .inl (.inl ht2)⟩, _, rfl, .inl ⟨rfl, _, .inl (.inl hf2)⟩, f8, _, 0, 0, _, rfl, rfl, hf2, by decide, by decide, seq_nat (Int.le_refl _) (by rw [List.length_map, List.length_drop]; omega), head_map hs1, t, _, _, rfl, rfl, (by rw [upd_ne tf8]; exact ht2), (by rw [List.length_map, sizeLine_eq]; omega), ?_⟩⟩
        rw [erase_head]
        refine ⟨_, rfl, _, _, rfl, rfl, ?_⟩
        have em : mg1 c1 xs ys st ns[i] = (st.1 + 1, st.2.1, st.2.2 ++ [xs.getD st.1 ""]) := if_pos hlt
        rw [em]
        refine ⟨some (.int ns[i]), ?_, ?_, ?_, ?_, (f2.upd (.inl (.inl rfl))).upd (.inl (.inr (.inr rfl)))⟩
        · rw [show c1 - ((st.1 + 1 : Nat) : Int) = c1 - (st.1 : Int) - 1 by omega]
          rfl
        · rw [upd_ne tf8.symm, upd_same]
        · rw [upd_ne tf10.symm, upd_ne f810.symm]
          exact hf2'
        · rw [upd_same, List.map_append]
          rfl
      · have hs2 : st.2.1 < ys.length := by omega
        refine ⟨_, rfl, T.r_Drawer_things hx2 ⟨.inl ⟨rfl, _, .inl (.inl ht2)⟩, _, rfl, .inl ⟨rfl, _, .inl (.inl hf2')⟩, f10, _, 0, 0, _, rfl, rfl, hf2', by decide, by decide, seq_nat (Int.le_refl _) (by rw [List.length_map, List.length_drop]; omega), head_map hs2, t, _, _, rfl, rfl, (by rw [upd_ne tf10]; exact ht2), (by rw [List.length_map, sizeLine_eq]; omega), ?_⟩⟩
        rw [erase_head]
        have em : mg1 c1 xs ys st ns[i] = (st.1, st.2.1 + 1, st.2.2 ++ [ys.getD st.2.1 ""]) := if_neg hlt
        rw [em]
        refine ⟨some (.int ns[i]), rfl, ?_, ?_, ?_, (f2.upd (.inl (.inr (.inl rfl)))).upd (.inl (.inr (.inr rfl)))⟩
        · rw [upd_ne tf8.symm, upd_ne f810]
          exact hf2
        · rw [upd_ne tf10.symm, upd_same]
        · rw [upd_same, List.map_append]
          rfl
    · rintro σ H2 ⟨v, rfl, hf2, hf2', ht2, f2⟩
      have hx2 := f2 _ _ hx12 (by intro z; rcases z with z | z | z; exact xf8 z; exact xf10 z; exact xt z)
      refine ⟨_, rfl, _, rfl, T.w_Drawer_count hx2 ?_⟩
      rw [df_put_count]
      refine ⟨_, rfl, ?_⟩
      rw [List.length_map, List.take_length] at ht2
      have n0 : ∀ b, H10 b = none → H b = none := fun b n => fr6.freeP hpn (s610.free n)
      have keep : ∀ b o, H6 b = some o → b ≠ x → upd H2 x (.ins (ga K "Drawer") xd (df p t (c1 + c2) m1)) b = some o := fun b o e bx => by
        rw [upd_ne bx]
        have e10 := s610 _ _ e
        refine f2 _ _ (s12 _ _ e10) ?_
        intro z
        rcases z with z | z | z
        · rw [z, nf80] at e
          cases e
        · rw [z, s68.free nf100] at e
          cases e
        · rw [z, nt10] at e10
          cases e10
      have nx6 : H6 x = none := s610.free nx
      refine k2 as q' hd _ x xd t (n0 x nx) (n0 t nt10) ?_ upd_same ?_ ?_
      · obtain ⟨pdx', used', full', hp', hl', hP3⟩ := hP6
        exact ⟨pdx', used', full', keep _ _ hp' (ne_of_none hp' nx6), keep _ _ hl' (ne_of_none hl' nx6), hP3⟩
      · rw [upd_ne tx]
        unfold pourTh
        rw [hxs, hys, hns]
        exact ht2
      · intro b o e bp
        have e6 := fr6 _ _ e bp
        exact keep _ _ e6 (ne_of_none e6 nx6)
end
end Ev

set_option Elab.async false
set_option linter.all false
set_option maxRecDepth 100000
set_option maxHeartbeats 2000000
/-! pour_weighers. -/
namespace Ev
open PySem PySem.Spec PyProof.Rows L2 He
/-- two statements, then the rest, by a word that holds behind the two -/
theorem seq_named {A B R : TS} {D : Ends} {σ : L2.St} {H : Hp} (C : L2.St → Hp → Prop) (hrest : ∀ σ' H', C σ' H' → R D σ' H') (h : ∀ M : L2.St → Hp → Prop, (∀ σ' H', C σ' H' → M σ' H') → tSeq A (fun D' => B { D' with nx := M }) D σ H) : tSeq A (tSeq B R) D σ H := h (R D) hrest
/-- three statements, then the rest -/
theorem seq_named3 {A B C R : TS} {D : Ends} {σ : L2.St} {H : Hp} (Cd : L2.St → Hp → Prop) (hrest : ∀ σ' H', Cd σ' H' → R D σ' H') (h : ∀ M : L2.St → Hp → Prop, (∀ σ' H', Cd σ' H' → M σ' H') → tSeq A (tSeq B (fun D' => C { D' with nx := M })) D σ H) : tSeq A (tSeq B (tSeq C R)) D σ H := h (R D) hrest
/-- one statement, then the rest -/
theorem seq_named1 {A R : TS} {D : Ends} {σ : L2.St} {H : Hp} (C : L2.St → Hp → Prop) (hrest : ∀ σ' H', C σ' H' → R D σ' H') (h : ∀ M : L2.St → Hp → Prop, (∀ σ' H', C σ' H' → M σ' H') → A { D with nx := M } σ H) : tSeq A R D σ H := h (R D) hrest
/-- the things of two weighers poured together -/
def pourW (q : Pool) (c1 c2 s1 s2 : Int) (ths1 ths2 : List Str) : Option (Pool × List Str) :=
  if 0 < c1 ∧ 0 < c2 then (q.draw (s1 + s2)).map fun y => (y.2, if s1 ≤ y.1 then ths2 else ths1) else some (q, if c1 = 0 then ths2 else ths1)
def sp_pour_weighers (K : PySem.W.Frag) : Sp := fun vs H Q E => ∃ (o1 o2 dx1 dx2 p p1 p2 t1 t2 l : Addr) (B : Nat) (q : Pool) (c1 c2 s1 s2 : Int) (ths1 ths2 : List Str), vs = [.ref o1, .ref o2, .ref p] ∧
  H o1 = some (.ins (ga K "Weigher") dx1 (wf p1 t1 c1 s1)) ∧ H t1 = some (.lst (ths1.map .str)) ∧ H o2 = some (.ins (ga K "Weigher") dx2 (wf p2 t2 c2 s2)) ∧ H t2 = some (.lst (ths2.map .str)) ∧ PurseAt K H p l B q ∧ B ≤ 100000 ∧ 0 ≤ c1 ∧ 0 ≤ c2 ∧ s1 + s2 ≤ 2 ^ 63 ∧ (0 < c1 → 0 < c2 → 1 ≤ s1 + s2) ∧
  (pourW q c1 c2 s1 s2 ths1 ths2 = none → Rz K (.short q.coins.length) E H) ∧
  ∀ q' ths', pourW q c1 c2 s1 s2 ths1 ths2 = some (q', ths') → ∀ H' o dx t, H o = none → H t = none → PurseAt K H' p l B q' → H' o = some (.ins (ga K "Weigher") dx (wf p t (c1 + c2) (s1 + s2))) → H' t = some (.lst (ths'.map .str)) → Fr (fun b => b = p) H H' → Q (.ref o) H'
section
variable {P : Program} {w : World} {K : PySem.W.Frag} {mg : Str → Option Value} {base h : Heap}
abbrev N_pour_weighers : List Str := ["one", "other", "purse", "kept", "found"]
abbrev P_pour_weighers : List Str := ["one", "other", "purse"]
theorem sc_pour_weighers : FnScope N_pour_weighers P_pour_weighers (defScope s_pour_weighers) := ⟨rfl, rfl, rfl, by decide +kernel, rfl, by decide +kernel, by decide +kernel⟩
theorem ok_pour_weighers (T : Tx w K mg h) : Cal P w K mg base 6 (ga K "pour_weighers") (sp_pour_weighers K) := by
  obtain ⟨fd, F⟩ := T.fn_pour_weighers
  refine okOf F sc_pour_weighers (fun _ _ _ _ _ _ us hl => match us, hl with | [_, _, _], _ => rfl) (fun vs H Q E h => ?_) (fun cdv A outer s H vs Q E hr hsp => ?_)
  · repeat (first | (obtain ⟨h1, _⟩ := h; subst h1; rfl) | (obtain ⟨_, h⟩ := h))
  · obtain ⟨o1, o2, dx1, dx2, p, p1, p2, t1, t2, l, B, q, c1, c2, s1, s2, ths1, ths2, rfl, ho1, ht1, ho2, ht2, hP, hB, c10, c20, hs, hs1, k1, k2⟩ := hsp
    refine ⟨_, (pss_cons (ps_set (i := 3) sc_pour_weighers.nd rfl (Or.inl rfl) (pv 0))
        (pss_cons (ps_if (pt_cmpR op_eq (pc_m0 (ok_Keeper_seen T) hr (by decide) (has_seen T) tkE (pv 0)) pe_int (nomark _))
          (pss_one (ps_set (i := 3) sc_pour_weighers.nd rfl (Or.inl rfl) (pv 1)))
          pss_nil)
        (pss_cons (ps_if (PW.pt (pw_and (pt_cmpR op_gt (pc_m0 (ok_Keeper_seen T) hr (by decide) (has_seen T) tkE (pv 0)) pe_int (nomark _)) (pw_and1 (pt_cmpR op_gt (pc_m0 (ok_Keeper_seen T) hr (by decide) (has_seen T) tkE (pv 1)) pe_int (nomark _)))))
          (pss_one (ps_if (pt_cmpR op_ge (pc_m (ok_Purse_draw T) hr (by decide) (has_Purse_draw T) tkE (pv 2) (pa_cons (pe_op op_add (pc_m0 (ok_Weigher_weight T) hr (by decide) (has_Weigher_weight T) tkE (pv 0)) (pc_m0 (ok_Weigher_weight T) hr (by decide) (has_Weigher_weight T) tkE (pv 1))) pa_nil)) (pc_m0 (ok_Weigher_weight T) hr (by decide) (has_Weigher_weight T) tkE (pv 0)) (nomark _))
            (pss_one (ps_set (i := 3) sc_pour_weighers.nd rfl (Or.inl rfl) (pv 1)))
            pss_nil))
          pss_nil)
        (pss_cons (ps_set (i := 4) sc_pour_weighers.nd rfl (Or.inl rfl) (pc_mk (ok_Weigher_init T).d T.mk_Weigher hr (by decide) T.gl_Weigher pcE (pa_cons (pv 2) pa_nil)))
        (pss_cons (ps_fld (pv 4) (pc_m0 (ok_Keeper_held T) hr (by decide) (has_held T) tkE (pv 3)) rfl)
        (pss_cons (ps_fld (pv 4) (pe_op op_add (pc_m0 (ok_Weigher_weight T) hr (by decide) (has_Weigher_weight T) tkE (pv 0)) (pc_m0 (ok_Weigher_weight T) hr (by decide) (has_Weigher_weight T) tkE (pv 1))) rfl)
        (pss_cons (ps_fld (pv 4) (pe_op op_add (pc_m0 (ok_Keeper_seen T) hr (by decide) (has_seen T) tkE (pv 0)) (pc_m0 (ok_Keeper_seen T) hr (by decide) (has_seen T) tkE (pv 1))) rfl)
        (pss_one (ps_ret (pv 4)))))))))), ?_⟩
    obtain ⟨pdx, used, full, hp, hl, hP2⟩ := id hP
    have ns1 : (wf p1 t1 c1 s1).lookup ("seen" : Str) = none := wf_no (by decide +kernel)
    have ns2 : (wf p2 t2 c2 s2).lookup ("seen" : Str) = none := wf_no (by decide +kernel)
    have nh1 : (wf p1 t1 c1 s1).lookup ("held" : Str) = none := wf_no (by decide +kernel)
    have nh2 : (wf p2 t2 c2 s2).lookup ("held" : Str) = none := wf_no (by decide +kernel)
    have nw1 : (wf p1 t1 c1 s1).lookup ("weight" : Str) = none := wf_no (by decide +kernel)
    have nw2 : (wf p2 t2 c2 s2).lookup ("weight" : Str) = none := wf_no (by decide +kernel)
    have o1p : o1 ≠ p := ne_of ho1 hp wf_pf
    have o2p : o2 ≠ p := ne_of ho2 hp wf_pf
    have t1p : t1 ≠ p := ne_of ht1 hp (by intro z; cases z)
    have t2p : t2 ≠ p := ne_of ht2 hp (by intro z; cases z)
    refine seq_named3 (fun σ' H1 => ∃ (ko : Addr) (q' : Pool) (ths' : List Str), σ' = [some (.ref o1), some (.ref o2), some (.ref p), some (.ref ko), none] ∧ (ko = o1 ∧ ths' = ths1 ∨ ko = o2 ∧ ths' = ths2) ∧ pourW q c1 c2 s1 s2 ths1 ths2 = some (q', ths') ∧ PurseAt K H1 p l B q' ∧ Fr (fun b => b = p) H H1) (fun σ' H1 ⟨ko, q', ths', e, hk, hw, hP1, f1⟩ => ?_) (fun M hM => ?_)
    · subst e
      have ho1' := f1 _ _ ho1 o1p
      have ho2' := f1 _ _ ho2 o2p
      have ht1' := f1 _ _ ht1 t1p
      have ht2' := f1 _ _ ht2 t2p
      -- found = Weigher(purse)
      refine ⟨_, rfl, fun x xd nx nxd xdx => ?_⟩
      refine ⟨x, p, xd, rfl, upd_same, fun t H11 nt hx11 ht11 f11 => ⟨rfl, ?_⟩⟩
      have kH : Same H1 H11 := fun b o e => f11 _ _ (by rw [upd_ne (ne_of_none e nx), upd_ne (ne_of_none e nxd)]; exact e) (ne_of_none e nx)
      have tx : t ≠ x := fun z => by rw [z, upd_same] at nt; cases nt
      have txd : t ≠ xd := fun z => by rw [z, upd_ne xdx, upd_same] at nt; cases nt
      have nt1 : H1 t = none := by
        rw [upd_ne tx, upd_ne txd] at nt
        exact nt
      have hpn : H1 p ≠ none := by
        obtain ⟨_, _, _, z, _⟩ := hP1
        rw [z]
        exact fun z => nomatch z
      have n0 : ∀ b, H1 b = none → H b = none := fun b n => f1.freeP hpn n
      have xo1 : o1 ≠ x := ne_of_none ho1' nx
      have xo2 : o2 ≠ x := ne_of_none ho2' nx
      -- found.things = kept.held()
      obtain ⟨kC, kdx, kfs, kh1, kh2, kh3, kh4⟩ : ∃ C dx fs, H11 ko = some (.ins C dx fs) ∧ (C = ga K "Drawer" ∨ C = ga K "Weigher") ∧ fs.lookup ("held" : Str) = none ∧ ∀ R : VK, (∀ r, H11 r = none → R (.ref r) (upd H11 r (.lst (ths'.map .str)))) → sp_Keeper_held K [.ref ko] H11 R E := by
        rcases hk with ⟨rfl, rfl⟩ | ⟨rfl, rfl⟩
        · exact ⟨_, dx1, _, kH _ _ ho1', .inr rfl, nh1, fun R hR => ⟨_, dx1, p1, t1, c1, s1, _, rfl, .inr (kH _ _ ho1'), kH _ _ ht1', hR⟩⟩
        · exact ⟨_, dx2, _, kH _ _ ho2', .inr rfl, nh2, fun R hR => ⟨_, dx2, p2, t2, c2, s2, _, rfl, .inr (kH _ _ ho2'), kH _ _ ht2', hR⟩⟩
      refine ⟨_, rfl, ko, kC, kdx, kfs, rfl, kh1, kh2, kh3, ?_⟩
      unfold tNil
      refine kh4 _ fun r nr => ?_
      have rx : r ≠ x := fun z => by rw [z, hx11] at nr; cases nr
      have nr1 : H1 r = none := kH.free nr
      refine ⟨_, rfl, T.w_Weigher_things (by rw [upd_ne rx.symm]; exact hx11) ?_⟩
      rw [wf_put_things]
      have s2' : ∀ b o, H1 b = some o → b ≠ x → upd (upd H11 r (.lst (ths'.map .str))) x (.ins (ga K "Weigher") xd (wf p r 0 0)) b = some o := fun b o e bx => by
        rw [upd_ne bx, upd_ne (ne_of_none e nr1)]
        exact kH _ _ e
      have hr2 : upd (upd H11 r (.lst (ths'.map .str))) x (.ins (ga K "Weigher") xd (wf p r 0 0)) r = some (.lst (ths'.map .str)) := by rw [upd_ne rx, upd_same]
      have hx2 : upd (upd H11 r (.lst (ths'.map .str))) x (.ins (ga K "Weigher") xd (wf p r 0 0)) x = some (.ins (ga K "Weigher") xd (wf p r 0 0)) := upd_same
      generalize upd (upd H11 r (.lst (ths'.map .str))) x (.ins (ga K "Weigher") xd (wf p r 0 0)) = H2 at s2' hr2 hx2 ⊢
      have g1 := s2' _ _ ho1' xo1
      have g2 := s2' _ _ ho2' xo2
      refine ⟨_, rfl, o1, _, dx1, _, rfl, g1, rfl, nw1, o1, dx1, p1, t1, c1, s1, rfl, g1, _, rfl, o2, _, dx2, _, rfl, g2, rfl, nw2, o2, dx2, p2, t2, c2, s2, rfl, g2, _, _, rfl, rfl, _, rfl, T.w_Weigher_total hx2 ?_⟩
      rw [wf_put_total]
      have g1' : ∀ u, upd H2 x u o1 = some (.ins (ga K "Weigher") dx1 (wf p1 t1 c1 s1)) := fun u => by rw [upd_ne xo1]; exact g1
      have g2' : ∀ u, upd H2 x u o2 = some (.ins (ga K "Weigher") dx2 (wf p2 t2 c2 s2)) := fun u => by rw [upd_ne xo2]; exact g2
      refine ⟨_, rfl, o1, _, dx1, _, rfl, g1' _, .inr rfl, ns1, ⟨o1, dx1, p1, t1, c1, s1, rfl, .inr (g1' _), _, rfl, o2, _, dx2, _, rfl, g2' _, .inr rfl, ns2, ⟨o2, dx2, p2, t2, c2, s2, rfl, .inr (g2' _), _, _, rfl, rfl, _, rfl, T.w_Weigher_count upd_same ?_⟩⟩⟩
      rw [wf_put_count]
      refine ⟨_, rfl, ?_⟩
      have keep : ∀ b o, H1 b = some o → upd (upd H2 x (.ins (ga K "Weigher") xd (wf p r 0 (s1 + s2)))) x (.ins (ga K "Weigher") xd (wf p r (c1 + c2) (s1 + s2))) b = some o := fun b o e => by
        have bx := ne_of_none e nx
        rw [upd_ne bx, upd_ne bx]
        exact s2' _ _ e bx
      refine k2 q' ths' hw _ x xd r (n0 x nx) (n0 r nr1) (hP1.same keep) upd_same (by rw [upd_ne rx, upd_ne rx]; exact hr2) fun b o e bp => keep _ _ (f1 _ _ e bp)
    · refine ⟨_, rfl, ?_⟩
      refine ⟨_, rfl, o1, _, dx1, _, rfl, ho1, .inr rfl, ns1, ⟨o1, dx1, p1, t1, c1, s1, rfl, .inr ho1, rfl, _, rfl, ?_⟩⟩
      refine iteVi (fun e => ?_) (fun e => ?_)
      · refine ⟨_, rfl, ?_⟩
        refine ⟨_, rfl, o1, _, dx1, _, rfl, ho1, .inr rfl, ns1, ⟨o1, dx1, p1, t1, c1, s1, rfl, .inr ho1, _, _, rfl, rfl, _, rfl, ?_⟩⟩
        rw [show decide (c1 > 0) = false from decide_eq_false (by omega)]
        refine iteF ?_
        exact hM _ _ ⟨o2, q, ths2, rfl, .inr ⟨rfl, rfl⟩, by unfold pourW; rw [if_neg (by omega), if_pos e], hP, Fr.refl⟩
      · refine ⟨_, rfl, o1, _, dx1, _, rfl, ho1, .inr rfl, ns1, ⟨o1, dx1, p1, t1, c1, s1, rfl, .inr ho1, _, _, rfl, rfl, _, rfl, ?_⟩⟩
        rw [show decide (c1 > 0) = true from decide_eq_true (by omega)]
        refine iteT ⟨_, rfl, o2, _, dx2, _, rfl, ho2, .inr rfl, ns2, ⟨o2, dx2, p2, t2, c2, s2, rfl, .inr ho2, _, _, rfl, rfl, _, rfl, ?_⟩⟩
        refine iteD (fun h2 => ?_) (fun h2 => ?_)
        · have c1p : 0 < c1 := by omega
          have pw : pourW q c1 c2 s1 s2 ths1 ths2 = (q.draw (s1 + s2)).map fun y => (y.2, if s1 ≤ y.1 then ths2 else ths1) := by unfold pourW; rw [if_pos ⟨c1p, h2⟩]
          refine ⟨_, rfl, p, _, pdx, _, rfl, hp, rfl, pf_no (by decide +kernel), _, rfl, o1, _, dx1, _, rfl, ho1, rfl, nw1, o1, dx1, p1, t1, c1, s1, rfl, ho1, _, rfl, o2, _, dx2, _, rfl, ho2, rfl, nw2, o2, dx2, p2, t2, c2, s2, rfl, ho2, _, _, rfl, rfl, p, l, B, q, s1 + s2, rfl, hP, hB, hs, fun z => ?_, fun _ => ⟨fun hn => ?_, fun a q' hd H1 hP1 f1 => ?_⟩⟩
          · have := hs1 c1p h2
            omega
          · exact k1 (by rw [pw, hn]; rfl)
          · have pw2 : pourW q c1 c2 s1 s2 ths1 ths2 = some (q', if s1 ≤ a then ths2 else ths1) := by rw [pw, hd]; rfl
            refine ⟨_, rfl, o1, _, dx1, _, rfl, f1 _ _ ho1 o1p, rfl, nw1, o1, dx1, p1, t1, c1, s1, rfl, f1 _ _ ho1 o1p, _, _, rfl, rfl, _, rfl, ?_⟩
            refine iteD (fun ha => ?_) (fun ha => ?_)
            · refine ⟨_, rfl, ?_⟩
              exact hM _ _ ⟨o2, q', ths2, rfl, .inr ⟨rfl, rfl⟩, by rw [pw2, if_pos ha], hP1, f1⟩
            · exact hM _ _ ⟨o1, q', ths1, rfl, .inl ⟨rfl, rfl⟩, by rw [pw2, if_neg ha], hP1, f1⟩
        · exact hM _ _ ⟨o1, q, ths1, rfl, .inl ⟨rfl, rfl⟩, by unfold pourW; rw [if_neg (by omega), if_neg e], hP, Fr.refl⟩
end
end Ev

set_option Elab.async false
set_option linter.all false
set_option maxRecDepth 100000
set_option maxHeartbeats 2000000
/-! The four programs: their nodes, and what looks at them. -/
namespace Ev
open PySem PySem.Spec PyProof.Rows L2 He
inductive Nd where
  | coin (a b : Nat)
  | give (x : Nat)
def prg : Nat → List Nd
  | 0 => [.coin 1 0, .give 7]
  | 1 => [.coin 1 2, .give 3, .coin 0 3, .give 4]
  | 2 => [.give 5]
  | _ => [.coin 1 1, .coin 2 0, .give 9]
def Nd.vs : Nd → List V
  | .coin a b => [.str "coin", .int a, .int b]
  | .give x => [.str "give", .int x]
/-- a program's nodes stand at a -/
def ProgAt (H : Hp) (a : Addr) (p : List Nd) : Prop := ∃ as : List Addr, H a = some (.tup (as.map .ref)) ∧ as.length = p.length ∧ ∀ (i : Nat) (nd : Nd), p[i]? = some nd → ∃ b, as[i]? = some b ∧ H b = some (.tup nd.vs)
theorem ProgAt.fr {H H' : Hp} {a : Addr} {p : List Nd} {ch : Addr → Prop} (P : ProgAt H a p) (f : Fr ch H H') (hc : ∀ b xs, ch b → H b ≠ some (.tup xs)) : ProgAt H' a p := by
  obtain ⟨as, h1, h2, h3⟩ := P
  refine ⟨as, f _ _ h1 (fun z => hc _ _ z h1), h2, fun i nd e => ?_⟩
  obtain ⟨b, e1, e2⟩ := h3 i nd e
  exact ⟨b, e1, f _ _ e2 fun z => hc _ _ z e2⟩
theorem ProgAt.same {H H' : Hp} {a : Addr} {p : List Nd} (P : ProgAt H a p) (f : Same H H') : ProgAt H' a p := P.fr (f.fr (ch := fun _ => False)) fun _ _ z => z.elim
theorem ProgAt.node {H : Hp} {a : Addr} {p : List Nd} (P : ProgAt H a p) {i : Nat} {nd : Nd} (e : p[i]? = some nd) : ∃ (xs : List V) (b : Addr), H a = some (.tup xs) ∧ xs.length = p.length ∧ xs[i]? = some (.ref b) ∧ H b = some (.tup nd.vs) := by
  obtain ⟨as, h1, h2, h3⟩ := P
  obtain ⟨b, e1, e2⟩ := h3 i nd e
  exact ⟨_, b, h1, by rw [List.length_map, h2], by rw [List.getElem?_map, e1]; rfl, e2⟩
/-- a node's numbers may be -/
def Nd.Ok (n : Nat) : Nd → Prop
  | .coin a b => a < n ∧ b < n
  | .give x => x < 100
/-- whether it leads on -/
def leads (f : List (Option Int)) : Nd → Bool
  | .coin a b => (f.getD a none).isSome || (f.getD b none).isSome
  | .give _ => false
def oiV : Option Int → V
  | none => .non
  | some i => .int i
def ledB (p : List Nd) (f : List (Option Int)) (k : Nat) : Bool := (f.getD k none).isNone && leads f (p.getD k (.give 0))
def ledOn (p : List Nd) (f : List (Option Int)) : List Nat := (List.range p.length).filter (ledB p f)
theorem led_step (p : List Nd) (f : List (Option Int)) (i : Nat) : (List.range (i + 1)).filter (ledB p f) = (List.range i).filter (ledB p f) ++ (if ledB p f i = true then [i] else []) := by
  rw [List.range_succ, List.filter_append, List.filter_cons, List.filter_nil]
def sp_is_below (_K : PySem.W.Frag) : Sp := fun vs H Q _ => ∃ (t m : Int), vs = [.int t, .int m] ∧ 0 ≤ t ∧ Q (.bl (decide (t < m))) H
def sp_is_node (_K : PySem.W.Frag) : Sp := fun vs H Q _ => ∃ (b : Addr) (m : Nat) (nd : Nd), vs = [.ref b, .int m] ∧ H b = some (.tup nd.vs) ∧ nd.Ok m ∧ Q (.bl true) H
def sp_led_on (K : PySem.W.Frag) : Sp := fun vs H Q _ => ∃ (a r : Addr) (p : List Nd) (f : List (Option Int)), vs = [.ref a, .ref r] ∧ ProgAt H a p ∧ H r = some (.lst (f.map oiV)) ∧ f.length = p.length ∧ p.length ≤ 100 ∧ (∀ nd ∈ p, nd.Ok p.length) ∧ (∀ (i x : Nat), p[i]? = some (.give x) → (f.getD i none).isSome = true) ∧
  ∀ (m : Addr) H', Same H H' → H m = none → H' m = some (.lst ((ledOn p f).map fun k => V.int (k : Nat))) → Q (.ref m) H'
section
variable {P : Program} {w : World} {K : PySem.W.Frag} {mg : Str → Option Value} {base h : Heap}
abbrev N_is_below : List Str := ["thing", "many"]
abbrev P_is_below : List Str := ["thing", "many"]
theorem sc_is_below : FnScope N_is_below P_is_below (defScope s_is_below) := ⟨rfl, rfl, rfl, by decide +kernel, rfl, by decide +kernel, by decide +kernel⟩
theorem ok_is_below (T : Tx w K mg h) : Cal P w K mg base 1 (ga K "is_below") (sp_is_below K) := by
  obtain ⟨fd, F⟩ := T.fn_is_below
  refine okOf F sc_is_below (fun _ _ _ _ _ _ us hl => match us, hl with | [_, _], _ => rfl) (fun vs H Q E h => ?_) (fun cdv A outer s H vs Q E hr hsp => ?_)
  · repeat (first | (obtain ⟨h1, _⟩ := h; subst h1; rfl) | (obtain ⟨_, h⟩ := h))
  · obtain ⟨t, m, rfl, h0, k⟩ := hsp
    refine ⟨_, (pss_one (ps_ret (pe_and (pe_callB call_isi (by rfl) T.fr_isinstance boot_isinstance (pa_cons (pv 0) (pa_cons (pe_bltn (v := .ty "int") (by rfl) T.fr_int (by decide +kernel) rfl) pa_nil))) (pe_and (pe_not (pe_callB call_isi (by rfl) T.fr_isinstance boot_isinstance (pa_cons (pv 0) (pa_cons (pe_bltn (v := .ty "bool") (by rfl) T.fr_bool (by decide +kernel) rfl) pa_nil)))) (pe_one (pe_chain op_le op_lt pe_int (pv 0) (pv 1))))))), ?_⟩
    refine ⟨_, rfl, _, _, _, _, _, rfl, .ty _, .base (.int _), kit_ty (b := "int") (r := true) (by decide +kernel), true, rfl, ?_⟩
    refine ⟨_, rfl, _, _, _, _, _, rfl, .ty _, .base (.int _), kit_ty (b := "bool") (r := false) (by decide +kernel), false, rfl, true, rfl, ?_⟩
    refine ⟨_, rfl, _, _, rfl, rfl, true, ?_, ?_⟩
    · show V.bl (decide (0 ≤ t)) = _
      rw [decide_eq_true h0]
    · exact iteT ⟨_, rfl, _, _, rfl, rfl, k⟩
abbrev N_is_node : List Str := ["node", "many"]
abbrev P_is_node : List Str := ["node", "many"]
theorem sc_is_node : FnScope N_is_node P_is_node (defScope s_is_node) := ⟨rfl, rfl, rfl, by decide +kernel, rfl, by decide +kernel, by decide +kernel⟩
theorem ok_is_node (T : Tx w K mg h) : Cal P w K mg base 2 (ga K "is_node") (sp_is_node K) := by
  obtain ⟨fd, F⟩ := T.fn_is_node
  refine okOf F sc_is_node (fun _ _ _ _ _ _ us hl => match us, hl with | [_, _], _ => rfl) (fun vs H Q E h => ?_) (fun cdv A outer s H vs Q E hr hsp => ?_)
  · repeat (first | (obtain ⟨h1, _⟩ := h; subst h1; rfl) | (obtain ⟨_, h⟩ := h))
  · obtain ⟨b, m, nd, rfl, hb, ok, k⟩ := hsp
    refine ⟨_, (pss_cons (ps_if (pt_cmpR op_eq (pe_ix ix_tup (pv 0) pe_int (fun _ _ => rfl)) pe_str (nomark _))
          (pss_one (ps_ret (pc_f (ok_is_below T) hr (by decide) T.gl_is_below tkE (pa_cons (pe_ix ix_tup (pv 0) pe_int (fun _ _ => rfl)) (pa_cons (C8.pe_gc (by rfl) T.in_THINGS) pa_nil)))))
          pss_nil)
        (pss_one (ps_ret (pe_and (pc_f (ok_is_below T) hr (by decide) T.gl_is_below tkE (pa_cons (pe_ix ix_tup (pv 0) pe_int (fun _ _ => rfl)) (pa_cons (pv 1) pa_nil))) (pe_one (pc_f (ok_is_below T) hr (by decide) T.gl_is_below tkE (pa_cons (pe_ix ix_tup (pv 0) pe_int (fun _ _ => rfl)) (pa_cons (pv 1) pa_nil)))))))), ?_⟩
    cases nd with
    | coin i j =>
      have i0 : atI [V.str "coin", V.int (i : Nat), V.int (j : Nat)] (0 : Int) = some (.str "coin") := rfl
      refine ⟨_, rfl, b, _, _, _, rfl, rfl, SqT.of hb, i0, rfl, _, rfl, ?_⟩
      rw [show decide (V.str "coin" = V.str "give") = false by decide +kernel]
      refine iteF ?_
      refine ⟨_, rfl, b, _, _, .int i, rfl, rfl, SqT.of hb, rfl, _, rfl, i, m, rfl, by omega, ?_⟩
      have o1 : i < m := ok.1
      have o2 : j < m := ok.2
      rw [show decide ((i : Int) < (m : Int)) = true from decide_eq_true (by omega)]
      refine ⟨true, rfl, ?_⟩
      refine ⟨_, rfl, b, _, _, .int j, rfl, rfl, SqT.of hb, rfl, _, rfl, j, m, rfl, by omega, ?_⟩
      rw [show decide ((j : Int) < (m : Int)) = true from decide_eq_true (by omega)]
      exact k
    | give x =>
      refine ⟨_, rfl, b, _, _, .str "give", rfl, rfl, SqT.of hb, rfl, rfl, _, rfl, ?_⟩
      rw [show decide (V.str "give" = V.str "give") = true by decide +kernel]
      refine iteT ?_
      have o1 : x < 100 := ok
      refine ⟨_, rfl, b, _, _, .int x, rfl, rfl, SqT.of hb, rfl, x, 100, rfl, by omega, ?_⟩
      rw [show decide ((x : Int) < 100) = true from decide_eq_true (by omega)]
      exact k
abbrev N_led_on : List Str := ["program", "found", "more", "k"]
abbrev P_led_on : List Str := ["program", "found"]
theorem sc_led_on : FnScope N_led_on P_led_on (defScope s_led_on) := ⟨rfl, rfl, rfl, by decide +kernel, rfl, by decide +kernel, by decide +kernel⟩
theorem ok_led_on (T : Tx w K mg h) : Cal P w K mg base 1 (ga K "led_on") (sp_led_on K) := by
  obtain ⟨fd, F⟩ := T.fn_led_on
  refine okOf F sc_led_on (fun _ _ _ _ _ _ us hl => match us, hl with | [_, _], _ => rfl) (fun vs H Q E h => ?_) (fun cdv A outer s H vs Q E hr hsp => ?_)
  · repeat (first | (obtain ⟨h1, _⟩ := h; subst h1; rfl) | (obtain ⟨_, h⟩ := h))
  · obtain ⟨a, r, p, f, rfl, hp, hr0, hf, hl, ok, hg, k⟩ := hsp
    refine ⟨_, (pss_cons (ps_set (i := 2) sc_led_on.nd rfl (Or.inl rfl) (pe_lst pa_nil))
        (pss_cons (ps_for powE rfl (pi_range1 (by rfl) T.fr_range (pa_cons (pe_callB call_len_seq (by rfl) T.fr_len boot_len (pa_cons (pv 0) pa_nil)) pa_nil)) (pg_name (i := 3) sc_led_on.nd rfl (Or.inl rfl))
          (pss_one (ps_if (PW.pt (pw_and (pt_cmpR op_isN (pe_ix ix_list (pv 1) (pv 3) (fun _ _ => rfl)) pe_non (nomark _)) (pw_and1 (PW.pt (pw_or (pt_cmpR op_notN (pe_ix ix_list (pv 1) (pe_ix ix_tup (pe_ix ix_tup (pv 0) (pv 3) (fun _ _ => rfl)) pe_int (fun _ _ => rfl)) (fun _ _ => rfl)) pe_non (nomark _)) (pw_or1 (pt_cmpR op_notN (pe_ix ix_list (pv 1) (pe_ix ix_tup (pe_ix ix_tup (pv 0) (pv 3) (fun _ _ => rfl)) pe_int (fun _ _ => rfl)) (fun _ _ => rfl)) pe_non (nomark _))))))))
            (pss_one (ps_expr (pe_bm PySem.F.plainAttrs_list PySem.F.slot_list_append PySem.F.type_list_append mt_append (pv 2) (pa_cons (pv 3) pa_nil))))
            pss_nil)))
        (pss_one (ps_ret (pv 2))))), ?_⟩
    refine ⟨by show 0 ≤ sizeLine; decide, fun D nD => ?_⟩
    have s1 : Same H (upd H D (.lst [])) := (Same.refl H).upd nD
    obtain ⟨as, q1, q2, q3⟩ := hp
    refine ⟨_, rfl, _, _, rfl, .inr (SqT.of (s1 _ _ q1)), p.length, (by rw [List.length_map, q2]), by omega, by omega, for_range (n := p.length) (fun i σ H2 => ∃ v, σ = [some (.ref a), some (.ref r), some (.ref D), v] ∧ Same H H2 ∧ H2 D = some (.lst (((List.range i).filter (ledB p f)).map fun k => V.int (k : Nat)))) ⟨none, rfl, s1, upd_same⟩ ?_ ?_⟩
    · rintro i σ H2 hi ⟨v, rfl, s2, hD⟩
      have e0 : (0 : Int) + (i : Nat) = ((i : Nat) : Int) := by omega
      have fr2 := s2 _ _ hr0
      have fget : ∀ {j : Nat}, j < p.length → atI (f.map oiV) (j : Int) = some (oiV (f.getD j none)) := fun {j} hj => by
        rw [atI_nat (v := oiV (f.getD j none))]
        rw [List.getElem?_map, List.getElem?_eq_getElem (by omega), List.getD_eq_getElem?_getD, List.getElem?_eq_getElem (by omega)]
        rfl
      have oi_non : ∀ o : Option Int, decide (oiV o = .non) = o.isNone := fun o => by cases o <;> rfl
      rw [e0]
      have hpi : p[i]? = some (p.getD i (.give 0)) := by rw [List.getD_eq_getElem?_getD, List.getElem?_eq_getElem hi]; rfl
      have skip : ledB p f i = false → ∃ v, [some (V.ref a), some (V.ref r), some (V.ref D), some (V.int (i : Nat))] = [some (V.ref a), some (V.ref r), some (V.ref D), v] ∧ Same H H2 ∧ H2 D = some (.lst (((List.range (i + 1)).filter (ledB p f)).map fun k => V.int (k : Nat))) := fun e => by
        rw [led_step, if_neg (by rw [e]; decide), List.append_nil]
        exact ⟨_, rfl, s2, hD⟩
      refine ⟨_, rfl, _, rfl, r, _, _, _, rfl, rfl, SqL.of fr2, fget hi, rfl, _, rfl, ?_⟩
      rw [oi_non]
      cases hfi : f.getD i none with
      | some x =>
        refine iteF (iteF ?_)
        exact skip (by unfold ledB; rw [hfi]; rfl)
      | none =>
        refine iteT ?_
        cases hnd : p.getD i (.give 0) with
        | give x =>
          have z := hg i x (by rw [hpi, hnd])
          rw [hfi] at z
          cases z
        | coin ca cb =>
          rw [hnd] at hpi
          obtain ⟨nb, nb1, nb2⟩ := q3 i _ hpi
          obtain ⟨oa, ob⟩ : ca < p.length ∧ cb < p.length := ok _ (List.mem_of_getElem? hpi)
          have hn1 : atI (as.map V.ref) ((i : Nat) : Int) = some (.ref nb) := atI_nat (by rw [List.getElem?_map, nb1]; rfl)
          have lD : ((List.range i).filter (ledB p f)).length ≤ i := Nat.le_trans (List.length_filter_le _ _) (by rw [List.length_range]; exact Nat.le_refl _)
          have lb : ∀ x, ((f.getD ca none).isSome || (f.getD cb none).isSome) = x → ledB p f i = x := fun x e => by
            unfold ledB
            rw [hfi, hnd, ← e]
            rfl
          have sa : SqT K H2 a (as.map V.ref) := SqT.of (s2 _ _ q1)
          have sb : SqT K H2 nb [.str "coin", .int ca, .int cb] := SqT.of (s2 _ _ nb2)
          have oi_some : ∀ o : Option Int, (!decide (oiV o = .non)) = o.isSome := fun o => by cases o <;> rfl
          refine ⟨_, rfl, _, rfl, _, rfl, a, _, _, _, rfl, rfl, sa, hn1, nb, _, _, .int ca, rfl, rfl, sb, rfl, r, _, _, _, rfl, rfl, SqL.of fr2, fget oa, rfl, _, rfl, ?_⟩
          rw [oi_some]
          have app : ledB p f i = true → ∃ v, [some (V.ref a), some (V.ref r), some (V.ref D), some (V.int (i : Nat))] = [some (V.ref a), some (V.ref r), some (V.ref D), v] ∧ Same H (upd H2 D (.lst ((((List.range i).filter (ledB p f)).map fun k => V.int (k : Nat)) ++ [.int (i : Nat)]))) ∧ upd H2 D (.lst ((((List.range i).filter (ledB p f)).map fun k => V.int (k : Nat)) ++ [.int (i : Nat)])) D = some (.lst (((List.range (i + 1)).filter (ledB p f)).map fun k => V.int (k : Nat))) := fun e => by
            refine ⟨_, rfl, fun b o e => ?_, ?_⟩
            · rw [upd_ne (ne_of_none e nD)]
              exact s2 _ _ e
            · rw [upd_same, led_step, if_pos e, List.map_append]
              rfl
          cases h1 : (f.getD ca none).isSome with
          | true =>
            refine iteT (iteT ?_)
            exact ⟨_, rfl, .inl ⟨rfl, _, .inl (.inl hD)⟩, _, rfl, D, _, _, rfl, rfl, hD, (by rw [List.length_map, sizeLine_eq]; omega), app (lb _ (by rw [h1]; rfl))⟩
          | false =>
            refine iteF ?_
            refine ⟨_, rfl, _, rfl, _, rfl, a, _, _, _, rfl, rfl, sa, hn1, nb, _, _, .int cb, rfl, rfl, sb, rfl, r, _, _, _, rfl, rfl, SqL.of fr2, fget ob, rfl, _, rfl, ?_⟩
            rw [oi_some]
            cases h2 : (f.getD cb none).isSome with
            | true =>
              refine iteT ?_
              exact ⟨_, rfl, .inl ⟨rfl, _, .inl (.inl hD)⟩, _, rfl, D, _, _, rfl, rfl, hD, (by rw [List.length_map, sizeLine_eq]; omega), app (lb _ (by rw [h1, h2]; rfl))⟩
            | false =>
              refine iteF ?_
              exact skip (lb _ (by rw [h1, h2]; rfl))
    · rintro σ H2 ⟨v, rfl, s2, hD⟩
      exact ⟨_, rfl, k D H2 s2 nD hD⟩
end
end Ev

set_option Elab.async false
set_option linter.all false
set_option maxRecDepth 100000
set_option maxHeartbeats 2000000
/-! coins_to_gives, checked, walked. -/
namespace Ev
open PySem PySem.Spec PyProof.Rows L2 He
def setAll (f : List (Option Int)) (ks : List Nat) (c : Int) : List (Option Int) := ks.foldl (fun f k => f.set k (some c)) f
theorem setAll_length (c : Int) : ∀ (ks : List Nat) (f : List (Option Int)), (setAll f ks c).length = f.length
  | [], f => rfl
  | k :: ks, f => by
    show (setAll (f.set k (some c)) ks c).length = _
    rw [setAll_length c ks, List.length_set]
theorem setAll_keeps (c : Int) (i : Nat) : ∀ (ks : List Nat) (f : List (Option Int)), (f.getD i none).isSome = true → ((setAll f ks c).getD i none).isSome = true
  | [], f, h => h
  | k :: ks, f, h => by
    show ((setAll (f.set k (some c)) ks c).getD i none).isSome = true
    refine setAll_keeps c i ks _ ?_
    rw [List.getD_eq_getElem?_getD] at h ⊢
    rw [List.getElem?_set]
    by_cases e : k = i
    · subst e
      rw [if_pos rfl]
      by_cases l : k < f.length
      · rw [if_pos l]
        rfl
      · rw [List.getElem?_eq_none (by omega)] at h
        cases h
    · rw [if_neg e]
      exact h
theorem setAll_more {f : List (Option Int)} {ks : List Nat} {c : Int} {i k : Nat} (h : ks[i]? = some k) : setAll f (ks.take (i + 1)) c = (setAll f (ks.take i) c).set k (some c) := by
  unfold setAll
  rw [take_more h, List.foldl_append]
  rfl
def ini : Nd → Option Int
  | .coin _ _ => none
  | .give _ => some 0
def ctg (p : List Nd) : Nat → Int → List (Option Int) → Option (List (Option Int))
  | 0, _, _ => none
  | n + 1, c, f => if (ledOn p f).isEmpty = true then some f else ctg p n (c + 1) (setAll f (ledOn p f) (c + 1))
structure PgOk (p : List Nd) (F : List (Option Int)) : Prop where
  few : p.length ≤ 100
  one : p ≠ []
  ok : ∀ nd ∈ p, nd.Ok p.length
  ct : ctg p 10 0 (p.map ini) = some F
  all : ∀ x ∈ F, x.isSome = true
  len : F.length ≤ 100
theorem oiV_get {f : List (Option Int)} {j : Nat} (hj : j < f.length) : (f.map oiV)[j]? = some (oiV (f.getD j none)) := by
  rw [List.getElem?_map, List.getElem?_eq_getElem hj, List.getD_eq_getElem?_getD, List.getElem?_eq_getElem hj]
  rfl
def sp_coins_to_gives (K : PySem.W.Frag) : Sp := fun vs H Q _ => ∃ (a : Addr) (p : List Nd) (F : List (Option Int)), vs = [.ref a] ∧ ProgAt H a p ∧ PgOk p F ∧ ∀ (m : Addr) H', Same H H' → H' m = some (.lst (F.map oiV)) → Q (.ref m) H'
section
variable {P : Program} {w : World} {K : PySem.W.Frag} {mg : Str → Option Value} {base h : Heap}
abbrev N_coins_to_gives : List Str := ["program", "found", "coins", "more", "k", "node"]
abbrev P_coins_to_gives : List Str := ["program"]
theorem sc_coins_to_gives : FnScope N_coins_to_gives P_coins_to_gives (defScope s_coins_to_gives) := ⟨rfl, rfl, rfl, by decide +kernel, rfl, by decide +kernel, by decide +kernel⟩
theorem ok_coins_to_gives (T : Tx w K mg h) : Cal P w K mg base 2 (ga K "coins_to_gives") (sp_coins_to_gives K) := by
  obtain ⟨fd, F⟩ := T.fn_coins_to_gives
  refine okOf F sc_coins_to_gives (fun _ _ _ _ _ _ us hl => match us, hl with | [_], _ => rfl) (fun vs H Q E h => ?_) (fun cdv A outer s H vs Q E hr hsp => ?_)
  · repeat (first | (obtain ⟨h1, _⟩ := h; subst h1; rfl) | (obtain ⟨_, h⟩ := h))
  · obtain ⟨a, p, F, rfl, hp, pk, k⟩ := hsp
    refine ⟨_, (pss_cons (ps_setLc (i := 1) (g := _) (own := [("node", 5)]) rfl sc_coins_to_gives.nd rfl rfl (sw_true rfl rfl rfl (by decide +kernel)) (pi_tup (pv 0)) (blkOk_by (own := [("node", 5)]) (N := N_coins_to_gives) (sc := defScope s_coins_to_gives) (by decide +kernel)) (fun _ _ _ _ _ => (pg_name (i := 5) sc_coins_to_gives.nd rfl (Or.inl rfl))) (fun _ _ _ _ _ => pts_nil) (fun _ _ _ _ _ => (pe_ifExp (pt_cmpR op_eq (pe_ix (show IxR _ (rIxT K) from ix_tup) (pv 5) pe_int (fun _ _ => rfl)) pe_str (nomark _)) pe_int pe_non)))
        (pss_cons (ps_set (i := 2) sc_coins_to_gives.nd rfl (Or.inl rfl) pe_int)
        (pss_cons (ps_while powE (pt_val pe_bl)
          (pss_cons (ps_aug (i := 2) sc_coins_to_gives.nd rfl (.inl rfl) pe_int ip_add)
          (pss_cons (ps_set (i := 3) sc_coins_to_gives.nd rfl (Or.inl rfl) (pc_f (ok_led_on T) hr (by decide) T.gl_led_on tkE (pa_cons (pv 0) (pa_cons (pv 1) pa_nil))))
          (pss_cons (ps_if (pt_cmpR op_eq (pe_callB call_len_seq (by rfl) T.fr_len boot_len (pa_cons (pv 3) pa_nil)) pe_int (nomark _))
            (pss_one ps_break)
            pss_nil)
          (pss_one (ps_for powE rfl (pi_list (pv 3)) (pg_name (i := 4) sc_coins_to_gives.nd rfl (Or.inl rfl))
            (pss_one (ps_asg (pv 2) (pg_sub (pv 1) (pv 4) set_list)))))))))
        (pss_one (ps_ret (pv 1)))))), ?_⟩
    obtain ⟨as, q1, q2, q3⟩ := id hp
    refine ⟨_, rfl, a, rfl, ⟨_, SqT.of q1⟩, fun D nD => lc_same (walk_tup (xs := as.map V.ref)) (fun i => oiV ((p.map ini).getD i none)) nD (by rw [List.length_map, q2]; exact Nat.le_trans pk.few (by decide)) (fun H' s => SqT.of (s _ _ q1)) (fun i H x H' y => by rw [y.1]; exact Same.refl H) (fun i x H1 H2 hi s y R S hR => ?_) fun H1 s1 hl1 => ?_⟩
    · obtain ⟨rfl, y⟩ := y
      rw [List.length_map, q2] at hi
      obtain ⟨b, b1, b2⟩ := q3 i _ (List.getElem?_eq_getElem hi)
      rw [List.getElem?_map, b1] at y
      cases y
      have e0 : (p.map ini).getD i none = ini p[i] := by
        rw [List.getD_eq_getElem?_getD, List.getElem?_map, List.getElem?_eq_getElem hi]
        rfl
      rw [e0] at hR
      have bt := s _ _ b2
      cases hnd : p[i] with
      | coin ca cb =>
        rw [hnd] at bt hR
        refine ⟨rfl, _, rfl, b, _, _, .str "coin", rfl, rfl, SqT.of bt, rfl, rfl, _, rfl, ?_⟩
        rw [show decide (V.str "coin" = V.str "give") = false by decide +kernel]
        exact iteF (hR _ (Same.refl _))
      | give x =>
        rw [hnd] at bt hR
        refine ⟨rfl, _, rfl, b, _, _, .str "give", rfl, rfl, SqT.of bt, rfl, rfl, _, rfl, ?_⟩
        rw [show decide (V.str "give" = V.str "give") = true by decide +kernel]
        exact iteT (hR _ (Same.refl _))
    · have el : (List.range (as.map V.ref).length).map (fun i => oiV ((p.map ini).getD i none)) = (p.map ini).map oiV := by
        rw [List.length_map, q2, ← List.length_map (f := ini) (as := p)]
        refine range_map (f := oiV) fun i x e => ?_
        rw [List.getD_eq_getElem?_getD, e]
        rfl
      rw [el] at hl1
      -- coins = 0; while True
      refine ⟨fun n σ H2 => ∃ (c : Int) (f : List (Option Int)) (v1 v2 : Option V), σ = [some (.ref a), some (.ref D), some (.int c), v1, v2, none] ∧ Same H H2 ∧ H2 D = some (.lst (f.map oiV)) ∧ f.length = p.length ∧ (∀ (i x : Nat), p[i]? = some (.give x) → (f.getD i none).isSome = true) ∧ ctg p n c f = some F, ⟨10, 0, p.map ini, none, none, rfl, s1, hl1, by rw [List.length_map], fun i x e => ?_, pk.ct⟩, fun n σ H2 hW => ?_⟩
      · rw [List.getD_eq_getElem?_getD, List.getElem?_map, e]
        rfl
      obtain ⟨c, f, v1, v2, rfl, s2, hD, lf, hg, hct⟩ := hW
      refine ⟨true, rfl, iteT ⟨_, fun _ _ z => z, ?_⟩⟩
      refine ⟨_, rfl, _, _, rfl, rfl, ?_⟩
      refine ⟨_, rfl, _, rfl, a, D, p, f, rfl, hp.same s2, hD, lf, pk.few, pk.ok, hg, fun m H3 s3 nm hm => ?_⟩
      refine ⟨_, rfl, _, _, rfl, .inl (SqL.of hm), rfl, _, rfl, ?_⟩
      rw [List.length_map]
      cases n with
      | zero => cases hct
      | succ n =>
        have hct0 := hct
        unfold ctg at hct
        refine iteVi (fun e => ?_) (fun e => ?_)
        · -- break; return found
          have z : (ledOn p f).isEmpty = true := by
            cases hl : ledOn p f with
            | nil => rfl
            | cons x xs => rw [hl, List.length_cons] at e; omega
          rw [if_pos z] at hct
          cases hct
          exact ⟨_, rfl, k D H3 (s2.trans s3) (s3 _ _ hD)⟩
        · have z : ¬ (ledOn p f).isEmpty = true := by
            intro z
            rw [List.isEmpty_iff.mp z] at e
            exact e rfl
          rw [if_neg z] at hct
          have mD : m ≠ D := (ne_of_none hD nm).symm
          refine ⟨_, rfl, m, rfl, ⟨_, SqL.of hm⟩, for_list (K := K) (a := m) (xs := (ledOn p f).map fun k => V.int (k : Nat)) (fun i σ H4 => ∃ v, σ = [some (.ref a), some (.ref D), some (.int (c + 1)), some (.ref m), v, none] ∧ Same H H4 ∧ H4 m = some (.lst ((ledOn p f).map fun k => V.int (k : Nat))) ∧ H4 D = some (.lst ((setAll f ((ledOn p f).take i) (c + 1)).map oiV)))
            ⟨v2, rfl, s2.trans s3, hm, s3 _ _ hD⟩ (fun i σ H4 _ ⟨_, _, _, hm4, _⟩ => SqL.of hm4) ?_ ?_⟩
          · rintro i y σ H4 hi ⟨v, rfl, s4, hm4, hD4⟩
            have him : i < (ledOn p f).length := by
              have z := (List.getElem?_eq_some_iff.mp hi).1
              rw [List.length_map] at z
              exact z
            rw [List.getElem?_map, List.getElem?_eq_getElem him] at hi
            cases hi
            have hlt : (ledOn p f)[i] < p.length := by
              have q := (List.mem_filter.mp (List.getElem_mem him)).1
              exact List.mem_range.mp q
            refine ⟨_, rfl, _, rfl, _, rfl, D, _, _, (ledOn p f)[i], rfl, rfl, hD4, ixN_nat (i := (((ledOn p f)[i] : Nat) : Int)) (by omega) (by rw [List.length_map, setAll_length]; omega), ?_⟩
            refine ⟨_, rfl, fun b o e => ?_, by rw [upd_ne mD]; exact hm4, ?_⟩
            · rw [upd_ne (ne_of_none e nD)]
              exact s4 _ _ e
            · rw [upd_same, setAll_more (List.getElem?_eq_getElem him), List.map_set]
              rfl
          · rintro σ H4 ⟨v, rfl, s4, hm4, hD4⟩
            rw [List.length_map, List.take_length] at hD4
            exact ⟨n, Nat.lt_succ_self n, c + 1, _, _, _, rfl, s4, hD4, by rw [setAll_length, lf], fun i x e => setAll_keeps _ _ _ _ (hg i x e), hct⟩
end
end Ev

set_option Elab.async false
set_option linter.all false
set_option maxRecDepth 100000
set_option maxHeartbeats 2000000
/-! checked, walked. -/
namespace Ev
open PySem PySem.Spec PyProof.Rows L2 He
/-- what coins lead to from a node on, and how many are taken -/
def wk (p : List Nd) : Nat → List Int → Option (Nat × Nat)
  | i, [] => match p.getD i (.give 0) with
    | .give x => some (x, 0)
    | .coin _ _ => none
  | i, c :: t => match p.getD i (.give 0) with
    | .give x => some (x, 0)
    | .coin a b => (wk p (if c = 0 then a else b) t).map fun z => (z.1, z.2 + 1)
theorem wk_give {p : List Nd} {i x : Nat} {cs : List Int} (h : p.getD i (.give 0) = .give x) : wk p i cs = some (x, 0) := by
  cases cs with
  | nil => unfold wk; rw [h]
  | cons c t => unfold wk; rw [h]
theorem wk_coin {p : List Nd} {i a b : Nat} {c : Int} {t : List Int} (h : p.getD i (.give 0) = .coin a b) : wk p i (c :: t) = (wk p (if c = 0 then a else b) t).map fun z => (z.1, z.2 + 1) := by
  conv => lhs; unfold wk
  rw [h]
theorem wk_none {p : List Nd} {i a b : Nat} (h : p.getD i (.give 0) = .coin a b) : wk p i [] = none := by
  unfold wk
  rw [h]
theorem wk_le (p : List Nd) : ∀ (cs : List Int) (i x n : Nat), wk p i cs = some (x, n) → n ≤ cs.length
  | [], i, x, n, h => by
    cases e : p.getD i (.give 0) with
    | give y =>
      rw [wk_give e] at h
      cases h
      exact Nat.le_refl _
    | coin a b =>
      rw [wk_none e] at h
      cases h
  | c :: t, i, x, n, h => by
    cases e : p.getD i (.give 0) with
    | give y =>
      rw [wk_give e] at h
      cases h
      exact Nat.zero_le _
    | coin a b =>
      rw [wk_coin e, Option.map_eq_some_iff] at h
      obtain ⟨z, h1, h2⟩ := h
      cases h2
      have := wk_le p t _ _ _ h1
      rw [List.length_cons]
      omega
def sp_checked (K : PySem.W.Frag) : Sp := fun vs H Q _ => ∃ (a : Addr) (p : List Nd) (F : List (Option Int)), vs = [.ref a] ∧ ProgAt H a p ∧ PgOk p F ∧ ∀ H', Same H H' → Q (.ref a) H'
def sp_walked (K : PySem.W.Frag) : Sp := fun vs H Q E => ∃ (a c : Addr) (p : List Nd) (cs : List Int), vs = [.ref a, .ref c] ∧ ProgAt H a p ∧ p ≠ [] ∧ (∀ nd ∈ p, nd.Ok p.length) ∧ SqL K H c (cs.map .int) ∧ cs.length ≤ 100000 ∧ (∀ z ∈ cs, z = 0 ∨ z = 1) ∧
  (wk p 0 cs = none → Rz K (.short cs.length) E H) ∧ (∀ x n, wk p 0 cs = some (x, n) → ∀ H' r, Same H H' → H' r = some (.tup [.int (x : Nat), .int (n : Nat)]) → Q (.ref r) H')
section
variable {P : Program} {w : World} {K : PySem.W.Frag} {mg : Str → Option Value} {base h : Heap}
abbrev N_checked : List Str := ["program", "k", "found"]
abbrev P_checked : List Str := ["program"]
theorem sc_checked : FnScope N_checked P_checked (defScope s_checked) := ⟨rfl, rfl, rfl, by decide +kernel, rfl, by decide +kernel, by decide +kernel⟩
theorem ok_checked (T : Tx w K mg h) : Cal P w K mg base 3 (ga K "checked") (sp_checked K) := by
  obtain ⟨fd, F⟩ := T.fn_checked
  refine okOf F sc_checked (fun _ _ _ _ _ _ us hl => match us, hl with | [_], _ => rfl) (fun vs H Q E h => ?_) (fun cdv A outer s H vs Q E hr hsp => ?_)
  · repeat (first | (obtain ⟨h1, _⟩ := h; subst h1; rfl) | (obtain ⟨_, h⟩ := h))
  · obtain ⟨a, p, F, rfl, hp, pk, k⟩ := hsp
    refine ⟨_, (pss_cons (ps_if (pt_cmpR op_eq (pe_callB call_len_seq (by rfl) T.fr_len boot_len (pa_cons (pv 0) pa_nil)) pe_int (nomark _))
          (pss_one ps_never)
          pss_nil)
        (pss_cons (ps_for powE rfl (pi_range1 (by rfl) T.fr_range (pa_cons (pe_callB call_len_seq (by rfl) T.fr_len boot_len (pa_cons (pv 0) pa_nil)) pa_nil)) (pg_name (i := 1) sc_checked.nd rfl (Or.inl rfl))
          (pss_one (ps_if (pt_not (pt_val (pc_f (ok_is_node T) hr (by decide) T.gl_is_node tkE (pa_cons (pe_ix ix_tup (pv 0) (pv 1) (fun _ _ => rfl)) (pa_cons (pe_callB call_len_seq (by rfl) T.fr_len boot_len (pa_cons (pv 0) pa_nil)) pa_nil)))))
            (pss_one ps_never)
            pss_nil)))
        (pss_cons (ps_set (i := 2) sc_checked.nd rfl (Or.inl rfl) (pc_f (ok_coins_to_gives T) hr (by decide) T.gl_coins_to_gives tkE (pa_cons (pv 0) pa_nil)))
        (pss_cons (ps_for powE rfl (pi_range1 (by rfl) T.fr_range (pa_cons (pe_callB call_len_seq (by rfl) T.fr_len boot_len (pa_cons (pv 2) pa_nil)) pa_nil)) (pg_name (i := 1) sc_checked.nd rfl (Or.inl rfl))
          (pss_one (ps_if (pt_cmpR op_isN (pe_ix ix_list (pv 2) (pv 1) (fun _ _ => rfl)) pe_non (nomark _))
            (pss_one ps_never)
            pss_nil)))
        (pss_one (ps_ret (pv 0))))))), ?_⟩
    obtain ⟨as, q1, q2, q3⟩ := id hp
    have p0 : p.length ≠ 0 := fun z => pk.one (List.length_eq_zero_iff.mp z)
    have few := pk.few
    refine ⟨_, rfl, _, _, rfl, .inr (SqT.of q1), rfl, _, rfl, ?_⟩
    rw [List.length_map, q2]
    refine iteVi (fun e => by omega) (fun e => ?_)
    refine ⟨_, rfl, _, _, rfl, .inr (SqT.of q1), p.length, (by rw [List.length_map, q2]), by omega, by omega, for_range (n := p.length) (fun i σ H2 => ∃ v, σ = [some (.ref a), v, none] ∧ H2 = H) ⟨none, rfl, rfl⟩ ?_ ?_⟩
    · rintro i σ H2 hi ⟨v, rfl, rfl⟩
      obtain ⟨b, b1, b2⟩ := q3 i _ (List.getElem?_eq_getElem hi)
      have e0 : (0 : Int) + (i : Nat) = ((i : Nat) : Int) := by omega
      rw [e0]
      refine ⟨_, rfl, _, rfl, a, _, _, .ref b, rfl, rfl, SqT.of q1, atI_nat (by rw [List.getElem?_map, b1]; rfl), _, rfl, _, _, rfl, .inr (SqT.of q1), b, p.length, p[i], (by rw [List.length_map, q2]), b2, pk.ok _ (List.getElem_mem hi), true, rfl, ?_⟩
      exact iteF ⟨_, rfl, rfl⟩
    · rintro σ H2 ⟨v, rfl, rfl⟩
      refine ⟨_, rfl, a, p, F, rfl, hp, pk, fun m H3 s3 hm => ?_⟩
      refine ⟨_, rfl, _, _, rfl, .inl (SqL.of hm), F.length, (by rw [List.length_map]), by omega, ?_, for_range (n := F.length) (fun i σ H4 => ∃ v, σ = [some (.ref a), v, some (.ref m)] ∧ H4 = H3) ⟨v, rfl, rfl⟩ ?_ ?_⟩
      · have := pk.len
        omega
      · rintro i σ H4 hi ⟨v, rfl, rfl⟩
        have e0 : (0 : Int) + (i : Nat) = ((i : Nat) : Int) := by omega
        rw [e0]
        have z := pk.all _ (List.getElem_mem hi)
        refine ⟨_, rfl, _, rfl, m, _, _, _, rfl, rfl, SqL.of hm, atI_nat (oiV_get hi), rfl, _, rfl, ?_⟩
        rw [List.getD_eq_getElem?_getD, List.getElem?_eq_getElem hi]
        cases hx : F[i] with
        | none =>
          rw [hx] at z
          cases z
        | some x => exact iteF ⟨_, rfl, rfl⟩
      · rintro σ H4 ⟨v, rfl, rfl⟩
        exact ⟨_, rfl, k H4 s3⟩
abbrev N_walked : List Str := ["program", "coins", "at", "spent"]
abbrev P_walked : List Str := ["program", "coins"]
theorem sc_walked : FnScope N_walked P_walked (defScope s_walked) := ⟨rfl, rfl, rfl, by decide +kernel, rfl, by decide +kernel, by decide +kernel⟩
theorem ok_walked (T : Tx w K mg h) : Cal P w K mg base 3 (ga K "walked") (sp_walked K) := by
  obtain ⟨fd, F⟩ := T.fn_walked
  refine okOf F sc_walked (fun _ _ _ _ _ _ us hl => match us, hl with | [_, _], _ => rfl) (fun vs H Q E h => ?_) (fun cdv A outer s H vs Q E hr hsp => ?_)
  · repeat (first | (obtain ⟨h1, _⟩ := h; subst h1; rfl) | (obtain ⟨_, h⟩ := h))
  · obtain ⟨a, c, p, cs, rfl, hp, p0, ok, hc, hl, h01, kn, ks⟩ := hsp
    refine ⟨_, (pss_cons (ps_set (i := 2) sc_walked.nd rfl (Or.inl rfl) pe_int)
        (pss_cons (ps_set (i := 3) sc_walked.nd rfl (Or.inl rfl) pe_int)
        (pss_cons (ps_while powE (pt_cmpR op_eq (pe_ix ix_tup (pe_ix ix_tup (pv 0) (pv 2) (fun _ _ => rfl)) pe_int (fun _ _ => rfl)) pe_str (nomark _))
          (pss_cons (ps_if (pt_cmpR op_eq (pv 3) (pe_callB call_len_seq (by rfl) T.fr_len boot_len (pa_cons (pv 1) pa_nil)) (nomark _))
            (pss_one (ps_raise rfl tkE (pmk_1 T.ox_Short T.sh_in T.sh_tf (ok_Short_init T) hr (by decide) T.gl_Short (pa_cons (pv 3) pa_nil))))
            pss_nil)
          (pss_cons (ps_set (i := 2) sc_walked.nd rfl (Or.inl rfl) (pe_ix ix_tup (pe_ix ix_tup (pv 0) (pv 2) (fun _ _ => rfl)) (pe_op op_add pe_int (pe_ix ix_list (pv 1) (pv 3) (fun _ _ => rfl))) (fun _ _ => rfl)))
          (pss_one (ps_aug (i := 3) sc_walked.nd rfl (.inl rfl) pe_int ip_add)))))
        (pss_one (ps_ret (pe_tup (pa_cons (pe_ix ix_tup (pe_ix ix_tup (pv 0) (pv 2) (fun _ _ => rfl)) pe_int (fun _ _ => rfl)) (pa_cons (pv 3) pa_nil)))))))), ?_⟩
    obtain ⟨as, q1, q2, q3⟩ := id hp
    have p1 : 0 < p.length := Nat.pos_of_ne_zero fun z => p0 (List.length_eq_zero_iff.mp z)
    refine ⟨fun n σ H2 => ∃ (i sp : Nat), n = cs.length - sp ∧ σ = [some (.ref a), some (.ref c), some (.int i), some (.int sp)] ∧ H = H2 ∧ i < p.length ∧ sp ≤ cs.length ∧ wk p 0 cs = (wk p i (cs.drop sp)).map (fun z => (z.1, z.2 + sp)), ⟨_, 0, 0, rfl, rfl, rfl, p1, Nat.zero_le _, ?_⟩, fun n σ H2 hW => ?_⟩
    · rw [List.drop_zero]
      cases wk p 0 cs with
      | none => rfl
      | some z => rfl
    obtain ⟨i, sp, en, rfl, rfl, hi, hsp, hwk⟩ := hW
    obtain ⟨b, b1, b2⟩ := q3 i _ (List.getElem?_eq_getElem hi)
    have ai : atI (as.map V.ref) ((i : Nat) : Int) = some (.ref b) := atI_nat (by rw [List.getElem?_map, b1]; rfl)
    have gd : p.getD i (.give 0) = p[i] := by rw [List.getD_eq_getElem?_getD, List.getElem?_eq_getElem hi]; rfl
    cases hnd : p[i] with
    | give x =>
      rw [hnd] at b2 gd
      refine ⟨_, rfl, _, rfl, a, _, _, _, rfl, rfl, SqT.of q1, ai, b, _, _, .str "give", rfl, rfl, SqT.of b2, rfl, rfl, _, rfl, ?_⟩
      rw [show decide (V.str "give" = V.str "coin") = false by decide +kernel]
      refine iteF ?_
      refine ⟨_, rfl, _, rfl, a, _, _, _, rfl, rfl, SqT.of q1, ai, b, _, _, .int x, rfl, rfl, SqT.of b2, rfl, _, rfl, by show 2 ≤ sizeLine; decide, fun r nr => ?_⟩
      rw [wk_give gd] at hwk
      refine ks x sp (by rw [hwk]; show some (x, 0 + sp) = _; rw [Nat.zero_add]) _ r ((Same.refl H).upd nr) upd_same
    | coin ca cb =>
      rw [hnd] at b2 gd
      refine ⟨_, rfl, _, rfl, a, _, _, _, rfl, rfl, SqT.of q1, ai, b, _, _, .str "coin", rfl, rfl, SqT.of b2, rfl, rfl, _, rfl, ?_⟩
      rw [show decide (V.str "coin" = V.str "coin") = true by decide +kernel]
      refine iteT ⟨_, fun _ _ z => z, ?_⟩
      refine ⟨_, rfl, _, rfl, _, _, rfl, .inl hc, rfl, _, rfl, ?_⟩
      rw [List.length_map]
      refine iteVi (fun e => ?_) (fun e => ?_)
      · have e2 : sp = cs.length := by omega
        refine ⟨_, rfl, rd_mk1 fun d H2 nd kp ed => ?_⟩
        rw [e2, List.drop_length, wk_none gd] at hwk
        subst e2
        exact kn hwk _ d (fun b o z => kp b o z) nd ed
      · have hlt : sp < cs.length := by omega
        obtain ⟨oa, ob⟩ : ca < p.length ∧ cb < p.length := ok (.coin ca cb) (by rw [← hnd]; exact List.getElem_mem hi)
        have dr : cs.drop sp = cs[sp] :: cs.drop (sp + 1) := List.drop_eq_getElem_cons hlt
        have c01 := h01 _ (List.getElem_mem hlt)
        have cj : atI (cs.map V.int) ((sp : Nat) : Int) = some (.int cs[sp]) := atI_nat (by rw [List.getElem?_map, List.getElem?_eq_getElem hlt]; rfl)
        have nx : atI [V.str "coin", .int (ca : Nat), .int (cb : Nat)] (1 + cs[sp]) = some (.int ((if cs[sp] = 0 then ca else cb : Nat) : Int)) := by
          rcases c01 with z | z
          · rw [z]; rfl
          · rw [z]; rfl
        refine ⟨_, rfl, _, rfl, a, _, _, _, rfl, rfl, SqT.of q1, ai, _, rfl, _, rfl, c, _, _, _, rfl, rfl, hc, cj, _, _, rfl, rfl, b, _, _, _, rfl, rfl, SqT.of b2, nx, ?_⟩
        refine ⟨_, rfl, _, _, rfl, rfl, ?_⟩
        refine ⟨_, by rw [en]; show cs.length - (sp + 1) < _; omega, _, sp + 1, rfl, rfl, rfl, ?_, hlt, ?_⟩
        · split
          · exact oa
          · exact ob
        · rw [hwk, dr, wk_coin gd, Option.map_map]
          congr 1
          funext z
          show (z.1, z.2 + 1 + sp) = (z.1, z.2 + (sp + 1))
          rw [Nat.add_assoc, Nat.add_comm 1 sp]
end
end Ev

set_option Elab.async false
set_option linter.all false
set_option maxRecDepth 100000
set_option maxHeartbeats 2000000
/-! Programs read from their texts. -/
namespace Ev
open PySem PySem.Spec PyProof.Rows L2 He
/-- a figure -/
def dig (n : Nat) : Str := ⟨#[48 + n]⟩
def Nd.words : Nd → List Str
  | .coin a b => ["coin", dig a, dig b]
  | .give x => ["give", dig x]
/-- numbers below ten -/
def Nd.small : Nd → Bool
  | .coin a b => decide (a < 10) && decide (b < 10)
  | .give x => decide (x < 10)
def rowT (nd : Nd) : Str := Txt.join " " nd.words
/-- the text of the program -/
def txt (k : Nat) : Str := Txt.join "; " ((prg k).map rowT)
def sp_number_in (_K : PySem.W.Frag) : Sp := fun vs H Q _ => ∃ (n : Nat), vs = [.str (dig n)] ∧ n < 10 ∧ ∀ H', Same H H' → Q (.int n) H'
def sp_node_in (_K : PySem.W.Frag) : Sp := fun vs H Q _ => ∃ (nd : Nd), vs = [.str (rowT nd)] ∧ nd.small = true ∧ Txt.split (rowT nd) " " = nd.words ∧ (rowT nd).length ≤ 1000 ∧ ∀ H' b, Same H H' → H' b = some (.tup nd.vs) → Q (.ref b) H'
def sp_read_program : Sp := fun vs H Q _ => ∃ (t : Str) (p : List Nd) (F : List (Option Int)), vs = [.str t] ∧ Txt.split t "; " = p.map rowT ∧ PgOk p F ∧ (∀ nd ∈ p, nd.small = true ∧ Txt.split (rowT nd) " " = nd.words ∧ (rowT nd).length ≤ 1000) ∧ t.length ≤ 10000 ∧ ∀ H' r, Same H H' → ProgAt H' r p → Q (.ref r) H'
theorem dig_int {n : Nat} (h : n < 10) : PySem.intText? (dig n) = some (n : Int) := by
  match n, h with
  | 0, _ => decide +kernel
  | 1, _ => decide +kernel
  | 2, _ => decide +kernel
  | 3, _ => decide +kernel
  | 4, _ => decide +kernel
  | 5, _ => decide +kernel
  | 6, _ => decide +kernel
  | 7, _ => decide +kernel
  | 8, _ => decide +kernel
  | 9, _ => decide +kernel
theorem dig_in {n : Nat} (h : n < 10) : decide (48 + n ∈ ("0123456789" : Str).cps.toList) = true := by
  match n, h with
  | 0, _ => decide +kernel
  | 1, _ => decide +kernel
  | 2, _ => decide +kernel
  | 3, _ => decide +kernel
  | 4, _ => decide +kernel
  | 5, _ => decide +kernel
  | 6, _ => decide +kernel
  | 7, _ => decide +kernel
  | 8, _ => decide +kernel
  | 9, _ => decide +kernel
section
variable {P : Program} {w : World} {K : PySem.W.Frag} {mg : Str → Option Value} {base h : Heap}
abbrev N_number_in : List Str := ["word", "sign"]
abbrev P_number_in : List Str := ["word"]
theorem sc_number_in : FnScope N_number_in P_number_in (defScope s_number_in) := ⟨rfl, rfl, rfl, by decide +kernel, rfl, by decide +kernel, by decide +kernel⟩
theorem ok_number_in (T : Tx w K mg h) : Cal P w K mg base 1 (ga K "number_in") (sp_number_in K) := by
  obtain ⟨fd, F⟩ := T.fn_number_in
  refine okOf F sc_number_in (fun _ _ _ _ _ _ us hl => match us, hl with | [_], _ => rfl) (fun vs H Q E h => ?_) (fun cdv A outer s H vs Q E hr hsp => ?_)
  · repeat (first | (obtain ⟨h1, _⟩ := h; subst h1; rfl) | (obtain ⟨_, h⟩ := h))
  · obtain ⟨n, rfl, hn, kk⟩ := hsp
    refine ⟨_, (pss_cons (ps_if (PW.pt (pw_or (pt_cmpR op_lt (pe_callB call_len_str (by rfl) T.fr_len boot_len (pa_cons (pv 0) pa_nil)) pe_int (nomark _)) (pw_or (pt_cmpR op_gt (pe_callB call_len_str (by rfl) T.fr_len boot_len (pa_cons (pv 0) pa_nil)) pe_int (nomark _)) (pw_or1 (PW.pt (pw_and (pt_cmpR op_gt (pe_callB call_len_str (by rfl) T.fr_len boot_len (pa_cons (pv 0) pa_nil)) pe_int (nomark _)) (pw_and1 (pt_cmpR op_eq (pe_ix ix_str (pv 0) pe_int (fun _ _ => rfl)) pe_str (nomark _)))))))))
          (pss_one (ps_ret pe_non))
          pss_nil)
        (pss_cons (ps_if (pt_not (pt_val (pe_callB (cr_all rfl) (by rfl) T.fr_all boot_all (pa_cons (pe_lc (own := [("sign", 1)]) rfl sc_number_in.nd (pi_str (pv 0)) (blkOk_by (own := [("sign", 1)]) (N := N_number_in) (sc := defScope s_number_in) (by decide +kernel)) (fun _ _ _ _ _ => (pg_name (i := 1) sc_number_in.nd rfl (Or.inl rfl))) (fun _ _ _ _ _ => pts_nil) (fun _ _ _ _ _ => (pe_cmpR op_in_sign (pv 1) (C8.pe_gc (by rfl) T.st_FIGURES_programtexts) (by rfl)))) pa_nil))))
          (pss_one (ps_ret pe_non))
          pss_nil)
        (pss_one (ps_ret (pe_callTy call_int_str (by rfl) T.fr_int boot_int (pa_cons (pv 0) pa_nil)))))), ?_⟩
    have hl : (dig n).length = 1 := rfl
    have h1 : (dig n).length ≤ sizeLine := by rw [hl]; decide
    refine ⟨_, rfl, _, rfl, h1, _, _, rfl, rfl, _, rfl, ?_⟩
    rw [hl, show decide (((1 : Nat) : Int) < 1) = false by decide]
    refine iteF ⟨_, rfl, _, rfl, h1, _, _, rfl, rfl, _, rfl, ?_⟩
    rw [hl, show decide (((1 : Nat) : Int) > 6) = false by decide]
    refine iteF ⟨_, rfl, _, rfl, h1, _, _, rfl, rfl, _, rfl, ?_⟩
    rw [hl, show decide (((1 : Nat) : Int) > 1) = false by decide]
    refine iteF (iteF ?_)
    refine ⟨_, rfl, _, rfl, fun D nD => lc_mapS (f := fun c => .bl (decide (c ∈ ("0123456789" : Str).cps.toList))) nD (by show 1 ≤ 1000000; decide) (fun c H1 hc s1 R S hR => ?_) fun H1 s1 hl1 => ?_⟩
    · exact ⟨rfl, _, rfl, c, _, rfl, rfl, hR _ (Same.refl _)⟩
    · refine ⟨D, [true], rfl, SqL.of (by rw [hl1]; show some (HO.lst [V.bl (decide (48 + n ∈ _))]) = _; rw [dig_in hn]; rfl), true, rfl, ?_⟩
      refine iteF ?_
      exact ⟨_, rfl, dig n, n, rfl, dig_int hn, (by rw [hl]; decide), kk H1 s1⟩
abbrev N_node_in : List Str := ["row", "words", "numbers", "word"]
abbrev P_node_in : List Str := ["row"]
theorem sc_node_in : FnScope N_node_in P_node_in (defScope s_node_in) := ⟨rfl, rfl, rfl, by decide +kernel, rfl, by decide +kernel, by decide +kernel⟩
theorem ok_node_in (T : Tx w K mg h) : Cal P w K mg base 2 (ga K "node_in") (sp_node_in K) := by
  obtain ⟨fd, F⟩ := T.fn_node_in
  refine okOf F sc_node_in (fun _ _ _ _ _ _ us hl => match us, hl with | [_], _ => rfl) (fun vs H Q E h => ?_) (fun cdv A outer s H vs Q E hr hsp => ?_)
  · repeat (first | (obtain ⟨h1, _⟩ := h; subst h1; rfl) | (obtain ⟨_, h⟩ := h))
  · obtain ⟨nd, rfl, hsm, hsp, hlen, k⟩ := hsp
    refine ⟨_, (pss_cons (ps_set (i := 1) sc_node_in.nd rfl (Or.inl rfl) (pe_split (pv 0) pe_str))
        (pss_cons (ps_setLc (i := 2) (g := _) (own := [("word", 3)]) rfl sc_node_in.nd rfl rfl (sw_true rfl rfl rfl (by decide +kernel)) (pi_list (pe_slice sl_list (pv 1) (po_some pe_int) po_none)) (blkOk_by (own := [("word", 3)]) (N := N_node_in) (sc := defScope s_node_in) (by decide +kernel)) (fun _ _ _ _ _ => (pg_name (i := 3) sc_node_in.nd rfl (Or.inl rfl))) (fun _ _ _ _ _ => pts_nil) (fun _ _ _ _ _ => (pc_f (ok_number_in T) hr (by decide) T.gl_number_in takes0 (pa_cons (pv 3) pa_nil))))
        (pss_cons (ps_if (pt_cmpR op_in_seq pe_non (pv 2) (by rfl))
          (pss_one (ps_ret pe_non))
          pss_nil)
        (pss_cons (ps_if (PW.pt (pw_and (pt_cmpR op_eq (pe_ix ix_list (pv 1) pe_int (fun _ _ => rfl)) pe_str (nomark _)) (pw_and1 (pt_cmpR op_eq (pe_callB call_len_seq (by rfl) T.fr_len boot_len (pa_cons (pv 2) pa_nil)) pe_int (nomark _)))))
          (pss_one (ps_ret (pe_tup (pa_cons pe_str (pa_cons (pe_ix ix_list (pv 2) pe_int (fun _ _ => rfl)) (pa_cons (pe_ix ix_list (pv 2) pe_int (fun _ _ => rfl)) pa_nil))))))
          pss_nil)
        (pss_cons (ps_if (PW.pt (pw_and (pt_cmpR op_eq (pe_ix ix_list (pv 1) pe_int (fun _ _ => rfl)) pe_str (nomark _)) (pw_and1 (pt_cmpR op_eq (pe_callB call_len_seq (by rfl) T.fr_len boot_len (pa_cons (pv 2) pa_nil)) pe_int (nomark _)))))
          (pss_one (ps_ret (pe_tup (pa_cons pe_str (pa_cons (pe_ix ix_list (pv 2) pe_int (fun _ _ => rfl)) pa_nil)))))
          pss_nil)
        (pss_one (ps_ret pe_non))))))), ?_⟩
    refine ⟨_, rfl, ⟨_, rfl⟩, _, _, rfl, rfl, rfl, (by rw [sizeLine_eq]; omega), fun W nW => ?_⟩
    rw [hsp]
    have sW : Same H (upd H W (.lst (nd.words.map V.str))) := (Same.refl H).upd nW
    have hW : upd H W (.lst (nd.words.map V.str)) W = some (.lst (nd.words.map V.str)) := upd_same
    generalize upd H W (.lst (nd.words.map V.str)) = H1 at sW hW ⊢
    cases nd with
    | coin a b =>
      have ha : a < 10 := of_decide_eq_true (Bool.and_eq_true_iff.mp hsm).1
      have hb : b < 10 := of_decide_eq_true (Bool.and_eq_true_iff.mp hsm).2
      refine ⟨_, rfl, _, rfl, W, _, rfl, SqL.of hW, fun S nS => ⟨S, rfl, ⟨_, SqL.of upd_same⟩, fun D nD => ?_⟩⟩
      refine lc_mapL (xs := [a, b]) (e := fun n => V.str (dig n)) (f := fun n => .int n) (SqL.of upd_same) nD (by show 2 ≤ 1000000; decide) (fun x H2 hx s2 R Sx hR => ?_) fun H2 s2 hl2 => ?_
      · have hx10 : x < 10 := by
          rcases List.mem_cons.mp hx with z | z
          · omega
          · have := List.mem_singleton.mp z
            omega
        exact ⟨rfl, _, rfl, x, rfl, hx10, fun H3 s3 => hR _ s3⟩
      · have hW2 := (((Same.refl H1).upd nS).trans s2) _ _ hW
        have i0 : atI (([Nd.coin a b].head (by simp)).words.map V.str) (0 : Int) = some (.str "coin") := rfl
        refine ⟨_, rfl, D, _, rfl, .inl (SqL.of hl2), rfl, rfl, _, rfl, ?_⟩
        rw [show inV .non ([a, b].map fun n : Nat => V.int n) = false by rfl]
        refine iteF ⟨_, rfl, W, _, _, .str "coin", rfl, rfl, SqL.of hW2, rfl, rfl, _, rfl, ?_⟩
        rw [show decide (V.str "coin" = V.str "coin") = true by decide +kernel]
        refine iteT ⟨_, rfl, _, _, rfl, .inl (SqL.of hl2), rfl, _, rfl, ?_⟩
        rw [show decide (V.int (([a, b].map fun n : Nat => V.int n).length : Int) = V.int 2) = true by rfl]
        refine iteT ⟨_, rfl, D, _, _, .int a, rfl, rfl, SqL.of hl2, rfl, _, rfl, D, _, _, .int b, rfl, rfl, SqL.of hl2, rfl, by show 3 ≤ sizeLine; decide, fun r nr => ?_⟩
        exact k _ r ((sW.trans (((Same.refl H1).upd nS).trans s2)).upd nr) upd_same
    | give x =>
      have hx : x < 10 := of_decide_eq_true hsm
      refine ⟨_, rfl, _, rfl, W, _, rfl, SqL.of hW, fun S nS => ⟨S, rfl, ⟨_, SqL.of upd_same⟩, fun D nD => ?_⟩⟩
      refine lc_mapL (xs := [x]) (e := fun n => V.str (dig n)) (f := fun n => .int n) (SqL.of upd_same) nD (by show 1 ≤ 1000000; decide) (fun y H2 hy s2 R Sx hR => ?_) fun H2 s2 hl2 => ?_
      · have hy10 : y < 10 := by
          rw [List.mem_singleton.mp hy]
          exact hx
        exact ⟨rfl, _, rfl, y, rfl, hy10, fun H3 s3 => hR _ s3⟩
      · have hW2 := (((Same.refl H1).upd nS).trans s2) _ _ hW
        refine ⟨_, rfl, D, _, rfl, .inl (SqL.of hl2), rfl, rfl, _, rfl, ?_⟩
        rw [show inV .non ([x].map fun n : Nat => V.int n) = false by rfl]
        refine iteF ⟨_, rfl, W, _, _, .str "give", rfl, rfl, SqL.of hW2, rfl, rfl, _, rfl, ?_⟩
        rw [show decide (V.str "give" = V.str "coin") = false by decide +kernel]
        refine iteF ⟨_, rfl, W, _, _, .str "give", rfl, rfl, SqL.of hW2, rfl, rfl, _, rfl, ?_⟩
        rw [show decide (V.str "give" = V.str "give") = true by decide +kernel]
        refine iteT ⟨_, rfl, _, _, rfl, .inl (SqL.of hl2), rfl, _, rfl, ?_⟩
        rw [show decide (V.int (([x].map fun n : Nat => V.int n).length : Int) = V.int 1) = true by rfl]
        refine iteT ⟨_, rfl, D, _, _, .int x, rfl, rfl, SqL.of hl2, rfl, by show 2 ≤ sizeLine; decide, fun r nr => ?_⟩
        exact k _ r ((sW.trans (((Same.refl H1).upd nS).trans s2)).upd nr) upd_same
abbrev N_read_program : List Str := ["text", "found", "k", "row"]
abbrev P_read_program : List Str := ["text"]
theorem sc_read_program : FnScope N_read_program P_read_program (defScope s_read_program) := ⟨rfl, rfl, rfl, by decide +kernel, rfl, by decide +kernel, by decide +kernel⟩
theorem ok_read_program (T : Tx w K mg h) : Cal P w K mg base 4 (ga K "read_program") sp_read_program := by
  obtain ⟨fd, F⟩ := T.fn_read_program
  refine okOf F sc_read_program (fun _ _ _ _ _ _ us hl => match us, hl with | [_], _ => rfl) (fun vs H Q E h => ?_) (fun cdv A outer s H vs Q E hr hsp => ?_)
  · repeat (first | (obtain ⟨h1, _⟩ := h; subst h1; rfl) | (obtain ⟨_, h⟩ := h))
  · obtain ⟨t, p, F, rfl, hsp, pk, hsm, hlen, k⟩ := hsp
    refine ⟨_, (pss_cons (ps_if (pt_not (pt_val (pe_callB call_isi (by rfl) T.fr_isinstance boot_isinstance (pa_cons (pv 0) (pa_cons (pe_bltn (v := .ty "str") (by rfl) T.fr_str (by decide +kernel) rfl) pa_nil)))))
          (pss_one ps_never)
          pss_nil)
        (pss_cons (ps_setLc (i := 1) (g := _) (own := [("row", 3)]) rfl sc_read_program.nd rfl rfl (sw_true rfl rfl rfl (by decide +kernel)) (pi_list (pe_split (pv 0) pe_str)) (blkOk_by (own := [("row", 3)]) (N := N_read_program) (sc := defScope s_read_program) (by decide +kernel)) (fun _ _ _ _ _ => (pg_name (i := 3) sc_read_program.nd rfl (Or.inl rfl))) (fun _ _ _ _ _ => pts_nil) (fun _ _ _ _ _ => (pc_f (ok_node_in T) hr (by decide) T.gl_node_in takes0 (pa_cons (pv 3) pa_nil))))
        (pss_cons (ps_for powE rfl (pi_range1 (by rfl) T.fr_range (pa_cons (pe_callB call_len_seq (by rfl) T.fr_len boot_len (pa_cons (pv 1) pa_nil)) pa_nil)) (pg_name (i := 2) sc_read_program.nd rfl (Or.inl rfl))
          (pss_one (ps_if (pt_cmpR op_isN (pe_ix ix_list (pv 1) (pv 2) (fun _ _ => rfl)) pe_non (nomark _))
            (pss_one ps_never)
            pss_nil)))
        (pss_one (ps_ret (pc_f (ok_checked T) hr (by decide) T.gl_checked tkE (pa_cons (pe_callTy call_tuple_of (by rfl) T.fr_tuple boot_tuple (pa_cons (pv 1) pa_nil)) pa_nil))))))), ?_⟩
    refine ⟨_, rfl, _, _, _, _, _, rfl, .ty _, .base (.str _), kit_ty (b := "str") (r := true) (by decide +kernel), true, rfl, ?_⟩
    refine iteF ?_
    have few := pk.few
    refine ⟨_, rfl, ⟨_, rfl⟩, _, _, rfl, rfl, rfl, (by rw [sizeLine_eq]; omega), fun W nW => ?_⟩
    rw [hsp]
    have sW : Same H (upd H W (.lst ((p.map rowT).map V.str))) := (Same.refl H).upd nW
    have hW : upd H W (.lst ((p.map rowT).map V.str)) W = some (.lst ((p.map rowT).map V.str)) := upd_same
    generalize upd H W (.lst ((p.map rowT).map V.str)) = H1 at sW hW ⊢
    refine ⟨W, rfl, ⟨_, SqL.of hW⟩, fun D nD => lc_it (walk_list (xs := (p.map rowT).map V.str)) (fun i H2 => Same H1 H2 ∧ ∃ bs : List Addr, bs.length = i ∧ H2 D = some (.lst (bs.map .ref)) ∧ ∀ (j : Nat) (nd : Nd), j < i → p[j]? = some nd → ∃ b, bs[j]? = some b ∧ H2 b = some (.tup nd.vs)) ⟨(Same.refl H1).upd nD, [], rfl, upd_same, fun j nd z => absurd z (Nat.not_lt_zero _)⟩ (fun i H2 _ s2 => SqL.of (s2.1 _ _ hW)) (fun i x H2 H3 hi s2 y => ?_) fun H2 s2 => ?_⟩
    · obtain ⟨s2, bs, bl, hD, hb⟩ := s2
      obtain ⟨rfl, y⟩ := y
      rw [List.length_map, List.length_map] at hi
      rw [List.getElem?_map, List.getElem?_map, List.getElem?_eq_getElem hi] at y
      cases y
      obtain ⟨m1, m2, m3⟩ := hsm _ (List.getElem_mem hi)
      refine ⟨rfl, _, rfl, p[i], rfl, m1, m2, m3, fun H4 b s4 hb4 => ⟨_, s4 _ _ hD, by rw [List.length_map, sizeLine_eq]; omega, ?_, bs ++ [b], by rw [List.length_append, bl]; rfl, by rw [upd_same, List.map_append]; rfl, fun j nd hj e => ?_⟩⟩
      · intro c o e
        rw [upd_ne (ne_of_none e nD)]
        exact s4 _ _ (s2 _ _ e)
      · by_cases z : j < i
        · obtain ⟨b', e1, e2⟩ := hb j nd z e
          refine ⟨b', by rw [List.getElem?_append_left (by omega)]; exact e1, ?_⟩
          rw [upd_ne (ne_of e2 hD (by intro z; cases z))]
          exact s4 _ _ e2
        · have ej : j = i := by omega
          subst ej
          rw [List.getElem?_eq_getElem hi] at e
          cases e
          refine ⟨b, by rw [List.getElem?_append_right (by omega), bl, Nat.sub_self]; rfl, ?_⟩
          rw [upd_ne (ne_of hb4 (s4 _ _ hD) (by intro z; cases z))]
          exact hb4
    · obtain ⟨s2, bs, bl, hD, hb⟩ := s2
      rw [List.length_map, List.length_map] at bl hb
      refine ⟨_, rfl, _, _, rfl, .inl (SqL.of hD), bs.length, (by rw [List.length_map]), by omega, by omega, for_range (n := bs.length) (fun i σ H4 => ∃ v, σ = [some (.str t), some (.ref D), v, none] ∧ H4 = H2) ⟨none, rfl, rfl⟩ ?_ ?_⟩
      · rintro i σ H4 hi ⟨v, rfl, rfl⟩
        have e0 : (0 : Int) + (i : Nat) = ((i : Nat) : Int) := by omega
        rw [e0]
        refine ⟨_, rfl, _, rfl, D, _, _, _, rfl, rfl, SqL.of hD, atI_nat (by rw [List.getElem?_map, List.getElem?_eq_getElem hi]; rfl), rfl, _, rfl, ?_⟩
        exact iteF ⟨_, rfl, rfl⟩
      · rintro σ H4 ⟨v, rfl, rfl⟩
        refine ⟨_, rfl, D, _, rfl, .inl ⟨SqL.of hD, fun r nr => ?_⟩⟩
        have s5 : Same H4 (upd H4 r (.tup (bs.map .ref))) := (Same.refl H4).upd nr
        have hP : ProgAt (upd H4 r (.tup (bs.map .ref))) r p := ⟨bs, upd_same, bl, fun j nd e => by
          obtain ⟨b, e1, e2⟩ := hb j nd ((List.getElem?_eq_some_iff.mp e).1) e
          exact ⟨b, e1, s5 _ _ e2⟩⟩
        exact ⟨r, p, F, rfl, hP, pk, fun H6 s6 => k H6 r (((sW.trans s2).trans s5).trans s6) (hP.same s6)⟩
end
theorem pgOk : ∀ k : Nat, k < 4 → ∃ F, PgOk (prg k) F
  | 0, _ => ⟨_, by decide, by simp [prg], by simp [prg, Nd.Ok], rfl, by decide, by decide⟩
  | 1, _ => ⟨_, by decide, by simp [prg], by simp [prg, Nd.Ok], rfl, by decide, by decide⟩
  | 2, _ => ⟨_, by decide, by simp [prg], by simp [prg, Nd.Ok], rfl, by decide, by decide⟩
  | 3, _ => ⟨_, by decide, by simp [prg], by simp [prg, Nd.Ok], rfl, by decide, by decide⟩
  | n + 4, h => by omega
def ndB (nd : Nd) : Bool := nd.small && decide (Txt.split (rowT nd) " " = nd.words) && decide ((rowT nd).length ≤ 1000)
theorem prg_all : ∀ k : Nat, k < 4 → (prg k).all ndB = true
  | 0, _ => by decide +kernel
  | 1, _ => by decide +kernel
  | 2, _ => by decide +kernel
  | 3, _ => by decide +kernel
  | n + 4, h => by omega
theorem prg_rows {k : Nat} (h : k < 4) : ∀ nd ∈ prg k, nd.small = true ∧ Txt.split (rowT nd) " " = nd.words ∧ (rowT nd).length ≤ 1000 := fun nd hn => by
  have z := List.all_eq_true.mp (prg_all k h) nd hn
  unfold ndB at z
  obtain ⟨z1, z2⟩ := Bool.and_eq_true_iff.mp z
  obtain ⟨z3, z4⟩ := Bool.and_eq_true_iff.mp z1
  exact ⟨z3, of_decide_eq_true z4, of_decide_eq_true z2⟩
/-- the words of a program's text -/
def tws (k : Nat) : List Str := Txt.split (txt k) " "
theorem txt_all : ∀ k : Nat, k < 4 → Txt.split (txt k) "; " = (prg k).map rowT ∧ (txt k).length ≤ 100 ∧ Txt.join " " (tws k) = txt k ∧ (tws k).all (fun z => !z.cps.toList.contains 32) = true ∧ tws k ≠ [] ∧ (tws k).length ≤ 20 ∧ (tws k).all (fun z => decide (z.length ≤ 20)) = true
  | 0, _ => by decide +kernel
  | 1, _ => by decide +kernel
  | 2, _ => by decide +kernel
  | 3, _ => by decide +kernel
  | n + 4, h => by omega
end Ev

set_option Elab.async false
set_option linter.all false
set_option maxRecDepth 100000
set_option maxHeartbeats 2000000
/-! The desk's words: numbers, coins, names; the parts of a row. -/
namespace Ev
open PySem PySem.Spec PyProof.Rows L2 He TL
/-- a number's text -/
abbrev num (n : Nat) : Str := Str.ofString (toString ((n : Nat) : Int))
theorem num_tl (n : Nat) : (num n).cps.toList = numL n := tl_num n
theorem num_len (n : Nat) : (num n).length = (numL n).length := by rw [← num_tl, Array.length_toList]; rfl
theorem numL_head : ∀ {n : Nat}, 0 < n → ∀ c t, numL n = c :: t → c ≠ 48 := by
  intro n
  induction n using Nat.strongRecOn with
  | _ n ih =>
    intro h c t e
    by_cases l : n < 10
    · rw [numL_lt l] at e
      cases e
      omega
    · rw [numL_step (by omega)] at e
      cases e2 : numL (n / 10) with
      | nil => exact absurd e2 (numL_ne _)
      | cons d u =>
        rw [e2] at e
        cases e
        exact ih (n / 10) (by omega) (by omega) _ _ e2
theorem fig_in {c : Nat} (h : 48 ≤ c ∧ c ≤ 57) : decide (c ∈ ("0123456789" : Str).cps.toList) = true := by
  have z := dig_in (n := c - 48) (by omega)
  rw [show 48 + (c - 48) = c by omega] at z
  exact z
/-- coins as figures -/
def bits (cs : List Int) : Str := ⟨(cs.map fun c => 48 + c.toNat).toArray⟩
theorem bits_tl (cs : List Int) : (bits cs).cps.toList = cs.map fun c => 48 + c.toNat := rfl
theorem bits_len (cs : List Int) : (bits cs).length = cs.length := by
  show ((cs.map fun c => 48 + c.toNat).toArray).size = _
  rw [List.size_toArray, List.length_map]
/-- a name -/
def NameB (z : Str) : Bool := decide (1 ≤ z.length) && decide (z.length ≤ 8) && z.cps.toList.all fun c => decide (c ∈ ("abcdefghijklmnopqrstuvwxyz" : Str).cps.toList)
/-- what a row's words behind the first write -/
inductive Arg where
  | num (n : Nat)
  | bits (cs : List Int)
  | nm (z : Str)
def Arg.word : Arg → Str
  | .num n => Ev.num n
  | .bits cs => Ev.bits cs
  | .nm z => z
def Arg.kind : Arg → Nat
  | .num _ => 119
  | .bits _ => 99
  | .nm _ => 110
def Arg.Ok : Arg → Prop
  | .num n => n < 10 ^ 12
  | .bits cs => cs ≠ [] ∧ cs.length ≤ 100 ∧ ∀ c ∈ cs, c = 0 ∨ c = 1
  | .nm _ => True
/-- what it stands as -/
def Arg.At (H : Hp) (v : V) : Arg → Prop
  | .num n => v = .int n
  | .bits cs => ∃ r, v = .ref r ∧ H r = some (.lst (cs.map .int))
  | .nm z => v = .str z
theorem Arg.At.fr {H H' : Hp} {v : V} {a : Arg} {ch : Addr → Prop} (h : a.At H v) (f : Fr ch H H') (hc : ∀ b, ch b → ∀ xs, H b ≠ some (.lst xs)) : a.At H' v := by
  cases a with
  | num n => exact h
  | nm z => exact h
  | bits cs =>
    obtain ⟨r, h1, h2⟩ := h
    exact ⟨r, h1, f _ _ h2 fun z => hc _ z _ h2⟩
theorem Arg.At.same {H H' : Hp} {v : V} {a : Arg} (h : a.At H v) (s : Same H H') : a.At H' v := h.fr (s.fr (ch := fun _ => False)) fun _ z => z.elim
def sp_whole (_K : PySem.W.Frag) : Sp := fun vs H Q _ => ∃ (n : Nat), vs = [.str (num n)] ∧ n < 10 ^ 12 ∧ ∀ H', Same H H' → Q (.int n) H'
def sp_coin_row (_K : PySem.W.Frag) : Sp := fun vs H Q _ => ∃ (cs : List Int), vs = [.str (bits cs)] ∧ Arg.Ok (.bits cs) ∧ ∀ H' r, Same H H' → H r = none → H' r = some (.lst (cs.map .int)) → Q (.ref r) H'
def sp_named (_K : PySem.W.Frag) : Sp := fun vs H Q _ => ∃ (z : Str), vs = [.str z] ∧ NameB z = true ∧ ∀ H', Same H H' → Q (.str z) H'
def sp_read_word (_K : PySem.W.Frag) : Sp := fun vs H Q _ => ∃ (a : Arg), vs = [.str ⟨#[a.kind]⟩, .str a.word] ∧ a.Ok ∧ ∀ H' v, Same H H' → a.At H' v → (∀ r, v = .ref r → H r = none) → Q v H'
section
variable {P : Program} {w : World} {K : PySem.W.Frag} {mg : Str → Option Value} {base h : Heap}
abbrev N_whole : List Str := ["word", "sign"]
abbrev P_whole : List Str := ["word"]
theorem sc_whole : FnScope N_whole P_whole (defScope s_whole) := ⟨rfl, rfl, rfl, by decide +kernel, rfl, by decide +kernel, by decide +kernel⟩
theorem ok_whole (T : Tx w K mg h) : Cal P w K mg base 1 (ga K "whole") (sp_whole K) := by
  obtain ⟨fd, F⟩ := T.fn_whole
  refine okOf F sc_whole (fun _ _ _ _ _ _ us hl => match us, hl with | [_], _ => rfl) (fun vs H Q E h => ?_) (fun cdv A outer s H vs Q E hr hsp => ?_)
  · repeat (first | (obtain ⟨h1, _⟩ := h; subst h1; rfl) | (obtain ⟨_, h⟩ := h))
  · obtain ⟨n, rfl, hn, kk⟩ := hsp
    refine ⟨_, (pss_cons (ps_if (PW.pt (pw_or (pt_not (pt_chain op_le op_le pe_int (pe_callB call_len_str (by rfl) T.fr_len boot_len (pa_cons (pv 0) pa_nil)) pe_int)) (pw_or1 (pt_not (pt_val (pe_callB (cr_all rfl) (by rfl) T.fr_all boot_all (pa_cons (pe_lc (own := [("sign", 1)]) rfl sc_whole.nd (pi_str (pv 0)) (blkOk_by (own := [("sign", 1)]) (N := N_whole) (sc := defScope s_whole) (by decide +kernel)) (fun _ _ _ _ _ => (pg_name (i := 1) sc_whole.nd rfl (Or.inl rfl))) (fun _ _ _ _ _ => pts_nil) (fun _ _ _ _ _ => (pe_cmpR op_in_sign (pv 1) (C8.pe_gc (by rfl) T.st_FIGURES_deskwords) (by rfl)))) pa_nil)))))))
          (pss_one ps_never)
          pss_nil)
        (pss_cons (ps_if (PW.pt (pw_and (pt_cmpR op_gt (pe_callB call_len_str (by rfl) T.fr_len boot_len (pa_cons (pv 0) pa_nil)) pe_int (nomark _)) (pw_and1 (pt_cmpR op_eq (pe_ix ix_str (pv 0) pe_int (fun _ _ => rfl)) pe_str (nomark _)))))
          (pss_one ps_never)
          pss_nil)
        (pss_one (ps_ret (pe_callTy call_int_str (by rfl) T.fr_int boot_int (pa_cons (pv 0) pa_nil)))))), ?_⟩
    have l1 : 1 ≤ (num n).length := by
      rw [num_len]
      exact List.length_pos_iff.mpr (numL_ne n)
    have l2 : (num n).length ≤ 12 := by
      rw [num_len]
      exact numL_len (by decide) hn
    have hz : (num n).length ≤ sizeLine := by rw [sizeLine_eq]; omega
    refine ⟨_, rfl, _, rfl, hz, _, _, rfl, rfl, true, ?_, iteT ⟨_, _, rfl, rfl, true, ?_, iteF ?_⟩⟩
    · show V.bl (decide ((1 : Int) ≤ ((num n).length : Int))) = _
      rw [decide_eq_true (by omega)]
    · show V.bl (decide (((num n).length : Int) ≤ 12)) = _
      rw [decide_eq_true (by omega)]
    refine ⟨_, rfl, _, rfl, fun D nD => lc_mapS (f := fun c => .bl (decide (c ∈ ("0123456789" : Str).cps.toList))) nD (by show (num n).length ≤ 1000000; omega) (fun c H1 hc s1 R S hR => ⟨rfl, _, rfl, c, _, rfl, rfl, hR _ (Same.refl _)⟩) fun H1 s1 hl1 => ?_⟩
    refine ⟨D, (numL n).map fun c => decide (c ∈ ("0123456789" : Str).cps.toList), rfl, SqL.of (by rw [hl1, num_tl, List.map_map]; rfl), true, ?_, iteF ?_⟩
    · rw [List.all_map]
      exact congrArg V.bl (List.all_eq_true.mpr fun c hc => fig_in (numL_digits n c hc))
    -- no leading nought
    refine ⟨_, rfl, _, rfl, hz, _, _, rfl, rfl, _, rfl, ?_⟩
    have fin : ∀ R : VK, (∀ H', Same H H' → R (.int n) H') → ∃ a m, [V.str (num n)] = [V.str a] ∧ PySem.intText? a = some m ∧ a.length ≤ 640 ∧ R (.int m) H1 := fun R hR => ⟨num n, n, rfl, int_num (by rw [← num_len]; omega), by omega, hR H1 s1⟩
    refine iteD (fun hl => ?_) (fun hl => ?_)
    · obtain ⟨c, t, e⟩ : ∃ c t, numL n = c :: t := by
        cases e : numL n with
        | nil => exact absurd e (numL_ne n)
        | cons c t => exact ⟨c, t, rfl⟩
      have n0 : 0 < n := by
        rcases Nat.eq_zero_or_pos n with z | z
        · subst z
          rw [num_len, numL_lt (by decide)] at hl
          exact absurd hl (by decide)
        · exact z
      have c48 := numL_head n0 c t e
      refine ⟨_, rfl, _, _, c, rfl, rfl, hz, (by rw [num_tl, e]; exact atI_nat (j := 0) rfl), rfl, _, rfl, ?_⟩
      rw [decide_eq_false fun z => c48 (by have := vstr_eq.mp z; injection this with q; injection q with q; injection q with q)]
      refine iteF ⟨_, rfl, fin _ kk⟩
    · exact ⟨_, rfl, fin _ kk⟩
abbrev N_named : List Str := ["word", "sign"]
abbrev P_named : List Str := ["word"]
theorem sc_named : FnScope N_named P_named (defScope s_named) := ⟨rfl, rfl, rfl, by decide +kernel, rfl, by decide +kernel, by decide +kernel⟩
theorem ok_named (T : Tx w K mg h) : Cal P w K mg base 1 (ga K "named") (sp_named K) := by
  obtain ⟨fd, F⟩ := T.fn_named
  refine okOf F sc_named (fun _ _ _ _ _ _ us hl => match us, hl with | [_], _ => rfl) (fun vs H Q E h => ?_) (fun cdv A outer s H vs Q E hr hsp => ?_)
  · repeat (first | (obtain ⟨h1, _⟩ := h; subst h1; rfl) | (obtain ⟨_, h⟩ := h))
  · obtain ⟨z, rfl, hz, kk⟩ := hsp
    refine ⟨_, (pss_cons (ps_if (PW.pt (pw_or (pt_not (pt_chain op_le op_le pe_int (pe_callB call_len_str (by rfl) T.fr_len boot_len (pa_cons (pv 0) pa_nil)) pe_int)) (pw_or1 (pt_not (pt_val (pe_callB (cr_all rfl) (by rfl) T.fr_all boot_all (pa_cons (pe_lc (own := [("sign", 1)]) rfl sc_named.nd (pi_str (pv 0)) (blkOk_by (own := [("sign", 1)]) (N := N_named) (sc := defScope s_named) (by decide +kernel)) (fun _ _ _ _ _ => (pg_name (i := 1) sc_named.nd rfl (Or.inl rfl))) (fun _ _ _ _ _ => pts_nil) (fun _ _ _ _ _ => (pe_cmpR op_in_sign (pv 1) (C8.pe_gc (by rfl) T.st_LETTERS) (by rfl)))) pa_nil)))))))
          (pss_one (ps_raise rfl tkE (pmk_own PySem.F.excBase_ValueError T.ex_NoName.1 T.gl_NoName T.ex_NoName.2.1 (raises_own T.ex_NoName.2.2.1 T.ex_NoName.2.2.2) (by rfl))))
          pss_nil)
        (pss_one (ps_ret (pv 0)))), ?_⟩
    unfold NameB at hz
    obtain ⟨z1, z3⟩ := Bool.and_eq_true_iff.mp hz
    obtain ⟨z1, z2⟩ := Bool.and_eq_true_iff.mp z1
    have z1 := of_decide_eq_true z1
    have z2 := of_decide_eq_true z2
    refine ⟨_, rfl, _, rfl, (by rw [sizeLine_eq]; omega), _, _, rfl, rfl, true, ?_, iteT ⟨_, _, rfl, rfl, true, ?_, iteF ?_⟩⟩
    · show V.bl (decide ((1 : Int) ≤ (z.length : Int))) = _
      rw [decide_eq_true (by omega)]
    · show V.bl (decide ((z.length : Int) ≤ 8)) = _
      rw [decide_eq_true (by omega)]
    refine ⟨_, rfl, _, rfl, fun D nD => lc_mapS (f := fun c => .bl (decide (c ∈ ("abcdefghijklmnopqrstuvwxyz" : Str).cps.toList))) nD (by show z.length ≤ 1000000; omega) (fun c H1 hc s1 R S hR => ⟨rfl, _, rfl, c, _, rfl, rfl, hR _ (Same.refl _)⟩) fun H1 s1 hl1 => ?_⟩
    refine ⟨D, z.cps.toList.map fun c => decide (c ∈ ("abcdefghijklmnopqrstuvwxyz" : Str).cps.toList), rfl, SqL.of (by rw [hl1, List.map_map]; rfl), true, ?_, iteF ?_⟩
    · rw [List.all_map]
      exact congrArg V.bl z3
    · exact ⟨_, rfl, kk H1 s1⟩
abbrev N_coin_row : List Str := ["word", "sign"]
abbrev P_coin_row : List Str := ["word"]
theorem sc_coin_row : FnScope N_coin_row P_coin_row (defScope s_coin_row) := ⟨rfl, rfl, rfl, by decide +kernel, rfl, by decide +kernel, by decide +kernel⟩
theorem ok_coin_row (T : Tx w K mg h) : Cal P w K mg base 1 (ga K "coin_row") (sp_coin_row K) := by
  obtain ⟨fd, F⟩ := T.fn_coin_row
  refine okOf F sc_coin_row (fun _ _ _ _ _ _ us hl => match us, hl with | [_], _ => rfl) (fun vs H Q E h => ?_) (fun cdv A outer s H vs Q E hr hsp => ?_)
  · repeat (first | (obtain ⟨h1, _⟩ := h; subst h1; rfl) | (obtain ⟨_, h⟩ := h))
  · obtain ⟨cs, rfl, ⟨c1, c2, c3⟩, kk⟩ := hsp
    refine ⟨_, (pss_cons (ps_if (PW.pt (pw_or (pt_cmpR op_eq (pv 0) pe_str (nomark _)) (pw_or1 (pt_not (pt_val (pe_callB (cr_all rfl) (by rfl) T.fr_all boot_all (pa_cons (pe_lc (own := [("sign", 1)]) rfl sc_coin_row.nd (pi_str (pv 0)) (blkOk_by (own := [("sign", 1)]) (N := N_coin_row) (sc := defScope s_coin_row) (by decide +kernel)) (fun _ _ _ _ _ => (pg_name (i := 1) sc_coin_row.nd rfl (Or.inl rfl))) (fun _ _ _ _ _ => pts_nil) (fun _ _ _ _ _ => (pe_cmpR op_in_sign (pv 1) pe_str (by rfl)))) pa_nil)))))))
          (pss_one ps_never)
          pss_nil)
        (pss_one (ps_ret (pe_lc (own := [("sign", 1)]) rfl sc_coin_row.nd (pi_str (pv 0)) (blkOk_by (own := [("sign", 1)]) (N := N_coin_row) (sc := defScope s_coin_row) (by decide +kernel)) (fun _ _ _ _ _ => (pg_name (i := 1) sc_coin_row.nd rfl (Or.inl rfl))) (fun _ _ _ _ _ => pts_nil) (fun _ _ _ _ _ => (pe_callTy call_int_str (by rfl) T.fr_int boot_int (pa_cons (pv 1) pa_nil))))))), ?_⟩
    have hne : ¬ bits cs = "" := fun z => by
      have q := congrArg (fun s : Str => s.cps.toList) z
      rw [bits_tl] at q
      have q2 : cs.map (fun c => 48 + c.toNat) = [] := q
      exact c1 (List.map_eq_nil_iff.mp q2)
    refine ⟨_, rfl, rfl, _, rfl, ?_⟩
    rw [decide_eq_false fun z => hne (vstr_eq.mp z)]
    refine iteF ?_
    refine ⟨_, rfl, _, rfl, fun D nD => lc_mapS (f := fun c => .bl (decide (c ∈ ("01" : Str).cps.toList))) nD (by show (bits cs).length ≤ 1000000; rw [bits_len]; omega) (fun c H1 hc s1 R S hR => ⟨rfl, _, rfl, c, _, rfl, rfl, hR _ (Same.refl _)⟩) fun H1 s1 hl1 => ?_⟩
    refine ⟨D, cs.map fun c => decide (48 + c.toNat ∈ ("01" : Str).cps.toList), rfl, SqL.of (by rw [hl1, bits_tl, List.map_map, List.map_map]; rfl), true, ?_, iteF ?_⟩
    · rw [List.all_map]
      refine congrArg V.bl (List.all_eq_true.mpr fun c hc => ?_)
      show decide (48 + c.toNat ∈ ("01" : Str).cps.toList) = true
      rcases c3 c hc with z | z
      · rw [z]; decide +kernel
      · rw [z]; decide +kernel
    · refine ⟨_, rfl, _, rfl, fun D2 nD2 => lc_mapS (f := fun c => .int (((c : Nat) : Int) - 48)) nD2 (by show (bits cs).length ≤ 1000000; rw [bits_len]; omega) (fun c H2 hc s2 R S hR => ?_) fun H2 s2 hl2 => ?_⟩
      · rw [bits_tl] at hc
        obtain ⟨d, hd, rfl⟩ := List.mem_map.mp hc
        rcases c3 d hd with z | z
        · subst z
          exact ⟨rfl, _, rfl, _, 0, rfl, by decide +kernel, by decide +kernel, hR _ (Same.refl _)⟩
        · subst z
          exact ⟨rfl, _, rfl, _, 1, rfl, by decide +kernel, by decide +kernel, hR _ (Same.refl _)⟩
      · refine (fun el : ((bits cs).cps.toList.map fun c => V.int (((c : Nat) : Int) - 48)) = cs.map V.int => kk H2 D2 (s1.trans s2) (s1.free nD2) (by rw [hl2, el])) ?_
        rw [bits_tl, List.map_map]
        refine List.map_congr_left fun c hc => ?_
        show V.int (((48 + c.toNat : Nat) : Int) - 48) = V.int c
        rcases c3 c hc with z | z
        · rw [z]; rfl
        · rw [z]; rfl
abbrev N_read_word : List Str := ["kind", "word"]
abbrev P_read_word : List Str := ["kind", "word"]
theorem sc_read_word : FnScope N_read_word P_read_word (defScope s_read_word) := ⟨rfl, rfl, rfl, by decide +kernel, rfl, by decide +kernel, by decide +kernel⟩
theorem ok_read_word (T : Tx w K mg h) : Cal P w K mg base 2 (ga K "read_word") (sp_read_word K) := by
  obtain ⟨fd, F⟩ := T.fn_read_word
  refine okOf F sc_read_word (fun _ _ _ _ _ _ us hl => match us, hl with | [_, _], _ => rfl) (fun vs H Q E h => ?_) (fun cdv A outer s H vs Q E hr hsp => ?_)
  · repeat (first | (obtain ⟨h1, _⟩ := h; subst h1; rfl) | (obtain ⟨_, h⟩ := h))
  · obtain ⟨a, rfl, ok, kk⟩ := hsp
    refine ⟨_, (pss_cons (ps_if (pt_cmpR op_eq (pv 0) pe_str (nomark _))
          (pss_one (ps_ret (pc_f (ok_whole T) hr (by decide) T.gl_whole tkE (pa_cons (pv 1) pa_nil))))
          pss_nil)
        (pss_cons (ps_if (pt_cmpR op_eq (pv 0) pe_str (nomark _))
          (pss_one (ps_ret (pc_f (ok_coin_row T) hr (by decide) T.gl_coin_row tkE (pa_cons (pv 1) pa_nil))))
          pss_nil)
        (pss_one (ps_ret (pv 1))))), ?_⟩
    cases a with
    | num n =>
      refine ⟨_, rfl, rfl, _, rfl, ?_⟩
      rw [show decide (V.str ⟨#[Arg.kind (.num n)]⟩ = V.str "w") = true from (by decide +kernel : decide (V.str ⟨#[119]⟩ = V.str "w") = true)]
      exact iteT ⟨_, rfl, n, rfl, ok, fun H' s => kk H' _ s rfl (fun _ z => nomatch z)⟩
    | bits cs =>
      refine ⟨_, rfl, rfl, _, rfl, ?_⟩
      rw [show decide (V.str ⟨#[Arg.kind (.bits cs)]⟩ = V.str "w") = false from (by decide +kernel : decide (V.str ⟨#[99]⟩ = V.str "w") = false)]
      refine iteF ⟨_, rfl, rfl, _, rfl, ?_⟩
      rw [show decide (V.str ⟨#[Arg.kind (.bits cs)]⟩ = V.str "c") = true from (by decide +kernel : decide (V.str ⟨#[99]⟩ = V.str "c") = true)]
      exact iteT ⟨_, rfl, cs, rfl, ok, fun H' r s nr hr => kk H' _ s ⟨r, rfl, hr⟩ (fun r' z => by cases z; exact nr)⟩
    | nm z =>
      refine ⟨_, rfl, rfl, _, rfl, ?_⟩
      rw [show decide (V.str ⟨#[Arg.kind (.nm z)]⟩ = V.str "w") = false from (by decide +kernel : decide (V.str ⟨#[110]⟩ = V.str "w") = false)]
      refine iteF ⟨_, rfl, rfl, _, rfl, ?_⟩
      rw [show decide (V.str ⟨#[Arg.kind (.nm z)]⟩ = V.str "c") = false from (by decide +kernel : decide (V.str ⟨#[110]⟩ = V.str "c") = false)]
      exact iteF ⟨_, rfl, kk H _ (Same.refl _) rfl (fun _ z => nomatch z)⟩
end
end Ev

set_option Elab.async false
set_option linter.all false
set_option maxRecDepth 100000
set_option maxHeartbeats 2000000
/-! parts_of. -/
namespace Ev
open PySem PySem.Spec PyProof.Rows L2 He TL
/-- the kinds of a row's words -/
def kstr (as : List Arg) : Str := ⟨(as.map Arg.kind).toArray⟩
def KindOk (word : Str) (as : List Arg) : Prop := (word = "see" ∧ (kstr as = "nn" ∧ as.length = 2 ∨ kstr as = "nnw" ∧ as.length = 3)) ∨ (word ≠ "see" ∧ (word, Dv.str (kstr as)) ∈ kindsV)
/-- the parts stand in a list's values -/
def PartsAt (H : Hp) (as : List Arg) (vs : List V) : Prop := vs.length = as.length ∧ ∀ (i : Nat) (a : Arg), as[i]? = some a → ∃ v, vs[i]? = some v ∧ a.At H v
def sp_parts_of (_K : PySem.W.Frag) : Sp := fun vs H Q _ => ∃ (word : Str) (ws : Addr) (as : List Arg), vs = [.str word, .ref ws] ∧ H ws = some (.lst (as.map fun a => V.str a.word)) ∧ (∀ a ∈ as, a.Ok) ∧ word ≠ "least" ∧ KindOk word as ∧ as.length ≤ 5 ∧ ∀ H' r vs', Same H H' → H r = none → H' r = some (.lst vs') → PartsAt H' as vs' → Q (.ref r) H'
section
variable {P : Program} {w : World} {K : PySem.W.Frag} {mg : Str → Option Value} {base h : Heap}
abbrev N_parts_of : List Str := ["word", "words", "kinds", "kind", "part"]
abbrev P_parts_of : List Str := ["word", "words"]
theorem sc_parts_of : FnScope N_parts_of P_parts_of (defScope s_parts_of) := ⟨rfl, rfl, rfl, by decide +kernel, rfl, by decide +kernel, by decide +kernel⟩
theorem ok_parts_of (T : Tx w K mg h) : Cal P w K mg base 3 (ga K "parts_of") (sp_parts_of K) := by
  obtain ⟨fd, F⟩ := T.fn_parts_of
  refine okOf F sc_parts_of (fun _ _ _ _ _ _ us hl => match us, hl with | [_, _], _ => rfl) (fun vs H Q E h => ?_) (fun cdv A outer s H vs Q E hr hsp => ?_)
  · repeat (first | (obtain ⟨h1, _⟩ := h; subst h1; rfl) | (obtain ⟨_, h⟩ := h))
  · obtain ⟨word, ws, as, rfl, hws, ok, nl, kd, l5, kk⟩ := hsp
    obtain ⟨esK, nK, hKD⟩ := T.kinds
    refine ⟨_, (pss_cons (ps_if (pt_cmpR op_eq (pv 0) pe_str (nomark _))
          pss_never
          (pss_one (ps_if (pt_cmpR op_eq (pv 0) pe_str (nomark _))
            (pss_one (ps_set (i := 2) sc_parts_of.nd rfl (Or.inl rfl) (pe_ix ix_list (pe_lst (pa_cons pe_str (pa_cons pe_str pa_nil))) (pe_callTy call_int1 (by rfl) T.fr_int boot_int (pa_cons (pe_cmpR op_eq (pe_callB call_len_seq (by rfl) T.fr_len boot_len (pa_cons (pv 1) pa_nil)) pe_int (nomark _)) pa_nil)) (fun _ _ => rfl))))
            (pss_one (ps_if (pt_cmpR (op_in_kd hKD) (pv 0) (C8.pe_gc (v := .ref (He.ga K "KINDS")) (by rfl) ⟨_, T.gl_KINDS, rfl⟩) (by rfl))
              (pss_one (ps_set (i := 2) sc_parts_of.nd rfl (Or.inl rfl) (pe_ix ix_kdict (C8.pe_gc (v := .ref (He.ga K "KINDS")) (by rfl) ⟨_, T.gl_KINDS, rfl⟩) (pv 0) (fun _ _ => rfl))))
              (pss_one ps_never))))))
        (pss_cons (ps_if (pt_cmpR op_ne (pe_callB call_len_seq (by rfl) T.fr_len boot_len (pa_cons (pv 1) pa_nil)) (pe_callB call_len_str (by rfl) T.fr_len boot_len (pa_cons (pv 2) pa_nil)) (nomark _))
          (pss_one ps_never)
          pss_nil)
        (pss_one (ps_ret (pe_lc (g := gTup K 2 (gCons (gName 3) (gCons (gName 4) gNil))) (own := [("kind", 3), ("part", 4)]) rfl sc_parts_of.nd (pi_zipS (by rfl) T.fr_zip (pa_cons (pv 2) (pa_cons (pv 1) pa_nil))) (blkOk_by (own := [("kind", 3), ("part", 4)]) (N := N_parts_of) (sc := defScope s_parts_of) (by decide +kernel)) (fun _ _ _ _ _ => (pg_tup (by rfl) (pgs_cons (pg_name (i := 3) sc_parts_of.nd rfl (Or.inl rfl)) (pgs_cons (pg_name (i := 4) sc_parts_of.nd rfl (Or.inl rfl)) pgs_nil)))) (fun _ _ _ _ _ => pts_nil) (fun _ _ _ _ _ => (pc_f (ok_read_word T) hr (by decide) T.gl_read_word takes0 (pa_cons (pv 3) (pa_cons (pv 4) pa_nil))))))))), ?_⟩
    refine seq_named1 (fun σ' H1 => σ' = [some (.str word), some (.ref ws), some (.str (kstr as)), none, none] ∧ Same H H1) (fun σ' H1 hc => ?_) (fun M hM => ?_)
    · obtain ⟨rfl, s1⟩ := hc
      have hws1 := s1 _ _ hws
      have kl : (kstr as).length = as.length := by
        show ((as.map Arg.kind).toArray).size = _
        rw [List.size_toArray, List.length_map]
      refine ⟨_, rfl, _, _, rfl, .inl (SqL.of hws1), _, rfl, _, rfl, (by rw [kl, sizeLine_eq]; omega), rfl, _, rfl, ?_⟩
      rw [List.length_map, kl]
      refine iteNi (fun _ => ?_) (fun z => absurd rfl z)
      have hn : (kstr as).cps.size = (as.map fun a => V.str a.word).length := by
        rw [List.length_map]
        exact kl
      refine ⟨_, rfl, _, rfl, _, _, _, rfl, SqL.of hws1, fun D nD => lc_it (walk_zipS hn) (fun i H2 => Same H1 H2 ∧ ∃ vs', vs'.length = i ∧ H2 D = some (.lst vs') ∧ ∀ (j : Nat) (a : Arg), j < i → as[j]? = some a → ∃ v, vs'[j]? = some v ∧ a.At H2 v ∧ ∀ r, v = .ref r → r ≠ D) ⟨(Same.refl H1).upd nD, [], rfl, upd_same, fun j a z => absurd z (Nat.not_lt_zero _)⟩ (fun i H2 _ hP => SqL.of (hP.1 _ _ hws1)) (fun i x H2 H3 hi hP y => ?_) fun H2 hP => ?_⟩
      · obtain ⟨s2, vs', vl, hD, hv⟩ := hP
        obtain ⟨Tp, x1, x2, rfl, nT, rfl, e1, e2⟩ := y
        rw [List.length_map] at hi
        have hai := List.getElem?_eq_getElem hi
        replace e2 : (as.map fun a => V.str a.word)[i]? = some x2 := e2
        replace e1 : ((kstr as).cps[i]?).map (fun c => V.str ⟨#[c]⟩) = some x1 := e1
        rw [List.getElem?_map, hai] at e2
        cases e2
        have e1' : (kstr as).cps[i]? = some as[i].kind := by
          show ((as.map Arg.kind).toArray)[i]? = _
          rw [List.getElem?_toArray, List.getElem?_map, hai]
          rfl
        rw [e1'] at e1
        cases e1
        have sT : Same H2 (upd H2 Tp (.tup [.str ⟨#[as[i].kind]⟩, .str as[i].word])) := (Same.refl H2).upd nT
        refine ⟨Tp, _, rfl, SqT.of upd_same, rfl, _, _, rfl, _, _, rfl, rfl, rfl, _, rfl, _, rfl, as[i], rfl, ok _ (List.getElem_mem hi), fun H4 v s4 hAt hnew => ⟨_, (sT.trans s4) _ _ hD, by rw [sizeLine_eq]; omega, ?_, vs' ++ [v], by rw [List.length_append, vl]; rfl, upd_same, fun j a hj e => ?_⟩⟩
        · intro c o e
          rw [upd_ne (ne_of_none e nD)]
          exact (sT.trans s4) _ _ (s2 _ _ e)
        · have fr : ∀ {v' : V} {a' : Arg}, a'.At H4 v' → (∀ r, v' = .ref r → r ≠ D) → a'.At (upd H4 D (.lst (vs' ++ [v]))) v' := fun {v' a'} h1 h2 => by
            cases a' with
            | num n => exact h1
            | nm z => exact h1
            | bits cs =>
              obtain ⟨r, e1, e2⟩ := h1
              exact ⟨r, e1, by rw [upd_ne (h2 r e1)]; exact e2⟩
          by_cases z : j < i
          · obtain ⟨v', g1, g2, g3⟩ := hv j a z e
            exact ⟨v', by rw [List.getElem?_append_left (by omega)]; exact g1, fr ((g2.same sT).same s4) g3, g3⟩
          · have ej : j = i := by omega
            subst ej
            rw [hai] at e
            cases e
            have g3 : ∀ r, v = .ref r → r ≠ D := fun r er => by
              have z := hnew r er
              intro ed
              rw [ed, sT _ _ hD] at z
              cases z
            exact ⟨v, by rw [List.getElem?_append_right (by omega), vl, Nat.sub_self]; rfl, fr hAt g3, g3⟩
      · obtain ⟨s2, vs', vl, hD, hv⟩ := hP
        rw [List.length_map] at vl hv
        refine kk H2 D vs' (s1.trans s2) (s1.free nD) hD ⟨vl, fun i a e => ?_⟩
        obtain ⟨v, g1, g2, _⟩ := hv i a ((List.getElem?_eq_some_iff.mp e).1) e
        exact ⟨v, g1, g2⟩
    · refine ⟨_, rfl, rfl, _, rfl, ?_⟩
      rw [decide_eq_false fun z => nl (vstr_eq.mp z)]
      refine iteF ⟨_, rfl, rfl, _, rfl, ?_⟩
      rcases kd with ⟨e, kd⟩ | ⟨e, kd⟩
      · rw [decide_eq_true (vstr_eq.mpr e)]
        refine iteT ⟨by show 2 ≤ sizeLine; decide, fun L nL => ⟨_, rfl, _, _, rfl, .inl (SqL.of ((Same.refl H).upd nL _ _ hws)), rfl, .inr ⟨_, rfl, L, _, _, .str (kstr as), rfl, rfl, SqL.of upd_same, ?_, ?_⟩⟩⟩
        · rw [List.length_map]
          rcases kd with ⟨k1, k2⟩ | ⟨k1, k2⟩
          · rw [k1, k2]; rfl
          · rw [k1, k2]; rfl
        · exact hM _ _ ⟨rfl, (Same.refl H).upd nL⟩
      · rw [decide_eq_false fun z => e (vstr_eq.mp z)]
        obtain ⟨u, hu, ru⟩ := valsB_ok T.kv kd
        refine iteF ⟨_, rfl, word, some u, rfl, rfl, hu, _, rfl, iteT ⟨_, rfl, _, word, .str (kstr as), rfl, rfl, ⟨esK, nK, u, hKD.at_, hKD.lit, hu, ru⟩, ?_⟩⟩
        exact hM _ _ ⟨rfl, Same.refl H⟩
end
end Ev

set_option Elab.async false
set_option linter.all false
set_option maxRecDepth 100000
set_option maxHeartbeats 2000000
/-! A side: a desk, or the law's state; what it holds, and how it lies. -/
namespace Ev
open PySem PySem.Spec PyProof.Rows L2 He TL
structure Kp where
  things : List Str
  count : Int
  most : Option Int
  total : Int
structure Sx where
  pool : Pool
  progs : Str → Option Nat
  keeps : Str → Option Kp
def setK {α : Type} (f : Str → Option α) (n : Str) (v : α) : Str → Option α := fun m => if m = n then some v else f m
theorem setK_same {α : Type} {f : Str → Option α} {n : Str} {v : α} : setK f n v n = some v := if_pos rfl
theorem setK_ne {α : Type} {f : Str → Option α} {n m : Str} {v : α} (h : m ≠ n) : setK f n v m = f m := if_neg h
/-- addresses by names, one changed -/
def setA (f : Str → Addr) (n : Str) (v : Addr) : Str → Addr := fun m => if m = n then v else f m
theorem setA_same {f : Str → Addr} {n : Str} {v : Addr} : setA f n v n = v := if_pos rfl
theorem setA_ne {f : Str → Addr} {n m : Str} {v : Addr} (h : m ≠ n) : setA f n v m = f m := if_neg h
inductive Row where
  | coins (cs : List Int)
  | draw (n : Nat)
  | go (z : Str)
  | program (z : Str) (k : Nat)
  | drawer (z : Str) (n : Nat)
  | weigher (z : Str)
  | see (z t : Str)
  | seew (z t : Str) (n : Nat)
  | held (z : Str)
  | cut (z : Str) (n : Nat)
  | pour (z a b : Str)
inductive Out where
  | ok (t : Str)
  | ex (x : Ex)
/-- two keepers poured together: what is refused, or the pool and the new one -/
def pourK (S : Sx) (a b : Str) : Ex ⊕ (Pool × Kp) := match S.keeps a with
  | none => .inl .noname
  | some k1 => match S.keeps b with
    | none => .inl .noname
    | some k2 => match k1.most, k2.most with
      | some m1, some m2 => if m1 = m2 then (match S.pool.draws (manysD k1.things.length k2.things.length m1 (k1.count + k2.count)) with
        | none => .inl (.short S.pool.coins.length)
        | some (as, q) => .inr (q, ⟨pourTh k1.things k2.things k1.count as, k1.count + k2.count, some m1, k1.total + k2.total⟩)) else .inl .nodraw
      | none, none => match pourW S.pool k1.count k2.count k1.total k2.total k1.things k2.things with
        | none => .inl (.short S.pool.coins.length)
        | some (q, ths) => .inr (q, ⟨ths, k1.count + k2.count, none, k1.total + k2.total⟩)
      | _, _ => .inl .noname
/-- what a row does -/
def stepS (S : Sx) : Row → Out × Sx
  | .coins cs => (.ok "ok", { S with pool := ⟨S.pool.size, S.pool.num, S.pool.coins ++ cs⟩ })
  | .draw n => if n = 0 then (.ex .nodraw, S) else match S.pool.draw n with
    | none => (.ex (.short S.pool.coins.length), S)
    | some (a, q) => (.ok (Str.ofString (toString a)), { S with pool := q })
  | .go z => match S.progs z with
    | none => (.ex .noname, S)
    | some k => match wk (prg k) 0 S.pool.coins with
      | none => (.ex (.short S.pool.coins.length), S)
      | some (x, n) => (.ok (num x), { S with pool := ⟨S.pool.size, S.pool.num, S.pool.coins.drop n⟩ })
  | .program z k => (.ok "ok", { S with progs := setK S.progs z k })
  | .drawer z n => if n = 0 then (.ex .nodraw, S) else (.ok "ok", { S with keeps := setK S.keeps z ⟨[], 0, some n, 0⟩ })
  | .weigher z => (.ok "ok", { S with keeps := setK S.keeps z ⟨[], 0, none, 0⟩ })
  | .see z t => match S.keeps z with
    | none => (.ex .noname, S)
    | some k => match k.most with
      | none => (.ex .noname, S)
      | some m => match seeD S.pool k.count m k.things t with
        | none => (.ex (.short S.pool.coins.length), S)
        | some (q, ths) => (.ok "ok", { S with pool := q, keeps := setK S.keeps z ⟨ths, k.count + 1, some m, k.total⟩ })
  | .seew z t n => match S.keeps z with
    | none => (.ex .noname, S)
    | some k => match k.most with
      | some _ => (.ex .noname, S)
      | none => if n = 0 then (.ex .nodraw, S) else match seeW S.pool k.count k.total k.things t n with
        | none => (.ex (.short S.pool.coins.length), S)
        | some (q, ths) => (.ok "ok", { S with pool := q, keeps := setK S.keeps z ⟨ths, k.count + 1, none, k.total + n⟩ })
  | .held z => match S.keeps z with
    | none => (.ex .noname, S)
    | some k => (.ok (Txt.join " " k.things), S)
  | .cut z n => match S.keeps z with
    | none => (.ex .noname, S)
    | some k => match k.most with
      | none => (.ex .noname, S)
      | some m => if (n : Int) < 1 ∨ (n : Int) > m then (.ex .nodraw, S) else match S.pool.draws (dn k.things.length n) with
        | none => (.ex (.short S.pool.coins.length), S)
        | some (as, q) => (.ok "ok", { S with pool := q, keeps := setK S.keeps z ⟨pops k.things as, k.count, some n, k.total⟩ })
  | .pour z a b => match pourK S a b with
    | .inl x => (.ex x, S)
    | .inr (q, k) => (.ok "ok", { S with pool := q, keeps := setK S.keeps z k })
/-! ### how it lies -/
structure Gk where
  p : Addr
  l : Addr
  pd : Addr
  kd : Addr
  ko : Str → Addr
  th : Str → Addr
structure Inj (g : Gk) (S : Sx) : Prop where
  pp : g.p ≠ g.pd
  pk : g.p ≠ g.kd
  dk : g.pd ≠ g.kd
  o1 : ∀ n, S.keeps n ≠ none → g.ko n ≠ g.p ∧ g.ko n ≠ g.pd ∧ g.ko n ≠ g.kd
  oo : ∀ n m, S.keeps n ≠ none → S.keeps m ≠ none → g.ko n = g.ko m → n = m
  tt : ∀ n m, S.keeps n ≠ none → S.keeps m ≠ none → g.th n = g.th m → n = m
  tl : ∀ n, S.keeps n ≠ none → g.th n ≠ g.l
def own (d : Addr) (g : Gk) (S : Sx) : Addr → Prop := fun b => b = d ∨ b = g.p ∨ b = g.l ∨ b = g.pd ∨ b = g.kd ∨ ∃ n, S.keeps n ≠ none ∧ (b = g.ko n ∨ b = g.th n)
/-- no list, no tuple -/
def Nl (o : HO) : Prop := (∀ xs, o ≠ .lst xs) ∧ ∀ xs, o ≠ .tup xs
structure Cfg where
  M : Nat → Addr → Addr → Addr → Addr → Addr → Pool → Hp → Prop
  KO : Addr → Addr → Kp → HO → Prop
  PV : V → Nat → Hp → Prop
/-- no tuple is among them -/
def Nt (ch : Addr → Prop) (H : Hp) : Prop := ∀ b xs, ch b → H b ≠ some (.tup xs)
structure CfgOk (c : Cfg) : Prop where
  fr : ∀ {N d p l pd kd q H H'} {ch : Addr → Prop}, c.M N d p l pd kd q H → Fr ch H H' → ¬ ch d → ¬ ch p → ¬ ch l → Nt ch H → c.M N d p l pd kd q H'
  mono : ∀ {N N' d p l pd kd q H}, c.M N d p l pd kd q H → N ≤ N' → c.M N' d p l pd kd q H
  tr : ∀ {N d p l pd kd q H}, c.M N d p l pd kd q H → (∃ o, H d = some o ∧ Nl o) ∧ (∃ o, H p = some o ∧ Nl o) ∧ ∃ xs, H l = some (.lst xs)
  ko : ∀ {p t k o}, c.KO p t k o → Nl o
  pv : ∀ {v k H H'} {ch : Addr → Prop}, c.PV v k H → Fr ch H H' → Nt ch H → c.PV v k H'
structure Side (c : Cfg) (H : Hp) (d : Addr) (g : Gk) (N : Nat) (S : Sx) : Prop where
  main : c.M N d g.p g.l g.pd g.kd S.pool H
  prog : ∃ kvs, H g.pd = some (.dK kvs) ∧ kvs.length ≤ N ∧ ∀ n, (S.progs n = none → valV kvs (.inr n : Key) = none) ∧ (∀ k, S.progs n = some k → ∃ v, valV kvs (.inr n : Key) = some v ∧ c.PV v k H)
  keep : ∃ kvs, H g.kd = some (.dK kvs) ∧ kvs.length ≤ N ∧ ∀ n, (S.keeps n = none → valV kvs (.inr n : Key) = none) ∧ (∀ k, S.keeps n = some k → valV kvs (.inr n : Key) = some (.ref (g.ko n)) ∧ (∃ o, H (g.ko n) = some o ∧ c.KO g.p (g.th n) k o) ∧ H (g.th n) = some (.lst (k.things.map .str)))
  inj : Inj g S
section
variable {c : Cfg} {H H' : Hp} {d : Addr} {g : Gk} {N : Nat} {S : Sx}
theorem Side.live (X : Side c H d g N S) {n : Str} (h : S.keeps n ≠ none) : ∃ k o, S.keeps n = some k ∧ H (g.ko n) = some o ∧ c.KO g.p (g.th n) k o ∧ H (g.th n) = some (.lst (k.things.map .str)) := by
  cases e : S.keeps n with
  | none => exact absurd e h
  | some k =>
    obtain ⟨kvs, _, _, hk⟩ := X.keep
    obtain ⟨_, ⟨o, h1, h2⟩, h3⟩ := (hk n).2 k e
    exact ⟨k, o, rfl, h1, h2, h3⟩
/-- all that is owned is tracked, and no tuple -/
theorem Side.owned (C : CfgOk c) (X : Side c H d g N S) {b : Addr} (h : own d g S b) : ∃ o, H b = some o ∧ ∀ xs, o ≠ .tup xs := by
  obtain ⟨⟨o1, a1, b1⟩, ⟨o2, a2, b2⟩, ⟨xs, a3⟩⟩ := C.tr X.main
  obtain ⟨kvs, k1, _⟩ := X.prog
  obtain ⟨kvs2, k2, _⟩ := X.keep
  rcases h with rfl | rfl | rfl | rfl | rfl | ⟨n, hn, h⟩
  · exact ⟨o1, a1, b1.2⟩
  · exact ⟨o2, a2, b2.2⟩
  · exact ⟨_, a3, fun ys z => nomatch z⟩
  · exact ⟨_, k1, fun ys z => nomatch z⟩
  · exact ⟨_, k2, fun ys z => nomatch z⟩
  · obtain ⟨k, o, e, h1, h2, h3⟩ := X.live hn
    rcases h with rfl | rfl
    · exact ⟨o, h1, (C.ko h2).2⟩
    · exact ⟨_, h3, fun ys z => nomatch z⟩
theorem Side.nt (C : CfgOk c) (X : Side c H d g N S) : Nt (own d g S) H := fun b xs h e => by
  obtain ⟨o, h1, h2⟩ := X.owned C h
  rw [h1] at e
  exact h2 xs (Option.some.inj e)
/-- what others change leaves it -/
theorem Side.fr (C : CfgOk c) (X : Side c H d g N S) {ch : Addr → Prop} (f : Fr ch H H') (nt : Nt ch H) (ho : ∀ b, ch b → ¬ own d g S b) : Side c H' d g N S := by
  have no : ∀ {b}, own d g S b → ¬ ch b := fun h z => ho _ z h
  refine ⟨C.fr X.main f (no (.inl rfl)) (no (.inr (.inl rfl))) (no (.inr (.inr (.inl rfl)))) nt, ?_, ?_, X.inj⟩
  · obtain ⟨kvs, h1, h2, h3⟩ := X.prog
    refine ⟨kvs, f _ _ h1 (no (.inr (.inr (.inr (.inl rfl))))), h2, fun n => ⟨(h3 n).1, fun k e => ?_⟩⟩
    obtain ⟨v, e1, e2⟩ := (h3 n).2 k e
    exact ⟨v, e1, C.pv e2 f nt⟩
  · obtain ⟨kvs, h1, h2, h3⟩ := X.keep
    refine ⟨kvs, f _ _ h1 (no (.inr (.inr (.inr (.inr (.inl rfl)))))), h2, fun n => ⟨(h3 n).1, fun k e => ?_⟩⟩
    obtain ⟨e1, ⟨o, e2, e3⟩, e4⟩ := (h3 n).2 k e
    have hn : S.keeps n ≠ none := by rw [e]; exact fun z => nomatch z
    exact ⟨e1, ⟨o, f _ _ e2 (no (.inr (.inr (.inr (.inr (.inr ⟨n, hn, .inl rfl⟩)))))), e3⟩, f _ _ e4 (no (.inr (.inr (.inr (.inr (.inr ⟨n, hn, .inr rfl⟩))))))⟩
theorem Side.same (C : CfgOk c) (X : Side c H d g N S) (s : Same H H') : Side c H' d g N S := X.fr C (s.fr (ch := fun _ => False)) (fun _ _ z => z.elim) fun _ z => z.elim
theorem Side.mono (C : CfgOk c) (X : Side c H d g N S) {N' : Nat} (h : N ≤ N') : Side c H d g N' S := by
  refine ⟨C.mono X.main h, ?_, ?_, X.inj⟩
  · obtain ⟨kvs, h1, h2, h3⟩ := X.prog
    exact ⟨kvs, h1, Nat.le_trans h2 h, h3⟩
  · obtain ⟨kvs, h1, h2, h3⟩ := X.keep
    exact ⟨kvs, h1, Nat.le_trans h2 h, h3⟩
/-- what comes behind a change -/
structure Next (c : Cfg) (H H' : Hp) (d : Addr) (g g' : Gk) (N' : Nat) (S S' : Sx) : Prop where
  x : Side c H' d g' N' S'
  f : Fr (own d g S) H H'
  o : ∀ b, own d g' S' b → own d g S b ∨ H b = none
theorem Next.same (C : CfgOk c) (X : Side c H d g N S) (s : Same H H') : Next c H H' d g g N S S := ⟨X.same C s, s.fr, fun _ h => .inl h⟩
/-- the pool changes, perhaps with a new list of coins -/
theorem Side.pool (C : CfgOk c) (X : Side c H d g N S) {N' : Nat} {l' : Addr} {q' : Pool} (hN : N ≤ N') (hM : c.M N' d g.p l' g.pd g.kd q' H') (f : Fr (fun b => b = g.p) H H') (hl : l' = g.l ∨ H l' = none) :
    Next c H H' d g { g with l := l' } N' S { S with pool := q' } := by
  obtain ⟨⟨o1, a1, b1⟩, ⟨o2, a2, b2⟩, ⟨xs, a3⟩⟩ := C.tr X.main
  have nt : Nt (fun b => b = g.p) H := fun b ys e z => by
    rw [e, a2] at z
    exact b2.2 ys (Option.some.inj z)
  refine ⟨⟨hM, ?_, ?_, ⟨X.inj.pp, X.inj.pk, X.inj.dk, X.inj.o1, X.inj.oo, X.inj.tt, fun n hn => ?_⟩⟩, f.mono fun b e => .inr (.inl e), fun b h => ?_⟩
  · obtain ⟨kvs, h1, h2, h3⟩ := X.prog
    refine ⟨kvs, f _ _ h1 X.inj.pp.symm, Nat.le_trans h2 hN, fun n => ⟨(h3 n).1, fun k e => ?_⟩⟩
    obtain ⟨v, e1, e2⟩ := (h3 n).2 k e
    exact ⟨v, e1, C.pv e2 f nt⟩
  · obtain ⟨kvs, h1, h2, h3⟩ := X.keep
    refine ⟨kvs, f _ _ h1 X.inj.pk.symm, Nat.le_trans h2 hN, fun n => ⟨(h3 n).1, fun k e => ?_⟩⟩
    obtain ⟨e1, ⟨o, e2, e3⟩, e4⟩ := (h3 n).2 k e
    have hn : S.keeps n ≠ none := by
      have e : S.keeps n = some k := e
      rw [e]
      exact fun z => nomatch z
    refine ⟨e1, ⟨o, f _ _ e2 (X.inj.o1 n hn).1, e3⟩, f _ _ e4 fun z => ?_⟩
    rw [z, a2] at e4
    exact b2.1 _ (Option.some.inj e4)
  · show g.th n ≠ l'
    rcases hl with z | z
    · rw [z]
      exact X.inj.tl n hn
    · obtain ⟨k, o, _, _, _, h3⟩ := X.live (n := n) hn
      exact ne_of_none h3 z
  · rcases h with h | h | h | h | h | h
    · exact .inl (.inl h)
    · exact .inl (.inr (.inl h))
    · rcases hl with z | z
      · exact .inl (.inr (.inr (.inl (h.trans z))))
      · exact .inr (h ▸ z)
    · exact .inl (.inr (.inr (.inr (.inl h))))
    · exact .inl (.inr (.inr (.inr (.inr (.inl h)))))
    · exact .inl (.inr (.inr (.inr (.inr (.inr h)))))
/-- a program is kept -/
theorem Side.putP (C : CfgOk c) (X : Side c H d g N S) {n : Str} {k : Nat} {v : V} {kvs : List (Key × V)} (hd : H g.pd = some (.dK kvs)) (e : H' = upd H g.pd (.dK (putK kvs (.inr n : Key) v))) (hdp : d ≠ g.pd) (hv : c.PV v k H) :
    Next c H H' d g g (N + 1) S { S with progs := setK S.progs n k } := by
  subst e
  have f : Fr (fun b => b = g.pd) H (upd H g.pd (.dK (putK kvs (.inr n : Key) v))) := Fr.refl.upd (.inl rfl)
  have nt : Nt (fun b => b = g.pd) H := fun b ys e z => by
    rw [e, hd] at z
    cases z
  obtain ⟨⟨o1, a1, b1⟩, ⟨o2, a2, b2⟩, ⟨xs, a3⟩⟩ := C.tr X.main
  have lpd : g.l ≠ g.pd := ne_of a3 hd (by intro z; cases z)
  refine ⟨⟨C.mono (C.fr X.main f hdp X.inj.pp lpd nt) (Nat.le_succ _), ?_, ?_, ⟨X.inj.pp, X.inj.pk, X.inj.dk, X.inj.o1, X.inj.oo, X.inj.tt, X.inj.tl⟩⟩, f.mono fun b e => .inr (.inr (.inr (.inl e))), fun b h => .inl h⟩
  · obtain ⟨kvs', h1, h2, h3⟩ := X.prog
    rw [hd] at h1
    cases h1
    refine ⟨_, upd_same, Nat.le_trans (DSub.putK_len kvs (.inr n : Key) v) (Nat.succ_le_succ h2), fun m => ?_⟩
    rw [valV_put]
    by_cases hm : m = n
    · subst hm
      rw [if_pos rfl]
      refine ⟨fun z => ?_, fun k' e => ?_⟩
      · have z : setK S.progs m k m = none := z
        rw [setK_same] at z
        cases z
      · have e : setK S.progs m k m = some k' := e
        rw [setK_same] at e
        cases e
        exact ⟨v, rfl, C.pv hv f nt⟩
    · rw [if_neg fun z => hm (by injection z)]
      have em : setK S.progs n k m = S.progs m := setK_ne hm
      refine ⟨fun z => (h3 m).1 (em.symm.trans z), fun k' e => ?_⟩
      obtain ⟨v', e1, e2⟩ := (h3 m).2 k' (em.symm.trans e)
      exact ⟨v', e1, C.pv e2 f nt⟩
  · obtain ⟨kvs', h1, h2, h3⟩ := X.keep
    refine ⟨kvs', f _ _ h1 X.inj.dk.symm, Nat.le_succ_of_le h2, fun m => ⟨(h3 m).1, fun k' e => ?_⟩⟩
    obtain ⟨e1, ⟨o, e2, e3⟩, e4⟩ := (h3 m).2 k' e
    have hn : S.keeps m ≠ none := by
      have e : S.keeps m = some k' := e
      rw [e]
      exact fun z => nomatch z
    exact ⟨e1, ⟨o, f _ _ e2 (X.inj.o1 m hn).2.1, e3⟩, f _ _ e4 (ne_of e4 hd (by intro z; cases z))⟩
/-- a keeper changes, or is put in -/
theorem Side.putN (C : CfgOk c) (X : Side c H d g N S) {N' : Nat} {n : Str} {k : Kp} {q' : Pool} {o' t' l' : Addr} {kvs kvs' : List (Key × V)} (hN : N ≤ N')
    (hM : c.M N' d g.p l' g.pd g.kd q' H') (f : Fr (fun b => b = g.p ∨ b = g.kd ∨ S.keeps n ≠ none ∧ (b = g.ko n ∨ b = g.th n)) H H') (hl : l' = g.l ∨ H l' = none)
    (ho : (o' = g.ko n ∧ S.keeps n ≠ none) ∨ H o' = none) (ht : (t' = g.th n ∧ S.keeps n ≠ none) ∨ H t' = none) (htl : t' ≠ l')
    (hd : H g.kd = some (.dK kvs)) (hd' : H' g.kd = some (.dK kvs')) (hlen : kvs'.length ≤ N') (hv : ∀ m, m ≠ n → valV kvs' (.inr m : Key) = valV kvs (.inr m : Key)) (hvn : valV kvs' (.inr n : Key) = some (.ref o'))
    (hO : ∃ o, H' o' = some o ∧ c.KO g.p t' k o) (hT : H' t' = some (.lst (k.things.map .str))) :
    Next c H H' d g ⟨g.p, l', g.pd, g.kd, setA g.ko n o', setA g.th n t'⟩ N' S { S with pool := q', keeps := setK S.keeps n k } := by
  obtain ⟨⟨o1, a1, b1⟩, ⟨o2, a2, b2⟩, ⟨xs, a3⟩⟩ := C.tr X.main
  have nt : Nt (fun b => b = g.p ∨ b = g.kd ∨ S.keeps n ≠ none ∧ (b = g.ko n ∨ b = g.th n)) H := fun b ys h z => by
    rcases h with e | e | ⟨hn, e⟩
    · rw [e, a2] at z
      exact b2.2 ys (Option.some.inj z)
    · rw [e, hd] at z
      cases z
    · obtain ⟨k0, o0, _, h1, h2, h3⟩ := X.live hn
      rcases e with e | e
      · rw [e, h1] at z
        exact (C.ko h2).2 ys (Option.some.inj z)
      · rw [e, h3] at z
        cases z
  obtain ⟨kvp, p1, p2, p3⟩ := X.prog
  have live' : ∀ m, m ≠ n → setK S.keeps n k m = S.keeps m := fun m h => setK_ne h
  have oNew : ∀ {b : Addr}, H b ≠ none → (∀ m, S.keeps m ≠ none → b ≠ g.ko m) → o' ≠ b := fun {b} hb h z => by
    rcases ho with ⟨e, e2⟩ | e
    · exact h n e2 (z.symm.trans e)
    · rw [z] at e
      exact hb e
  have trp : H g.p ≠ none := by rw [a2]; exact fun z => nomatch z
  have trpd : H g.pd ≠ none := by rw [p1]; exact fun z => nomatch z
  have trkd : H g.kd ≠ none := by rw [hd]; exact fun z => nomatch z
  refine ⟨⟨hM, ?_, ?_, ⟨X.inj.pp, X.inj.pk, X.inj.dk, fun m hm => ?_, fun m m' hm hm' e => ?_, fun m m' hm hm' e => ?_, fun m hm => ?_⟩⟩, f.mono fun b h => ?_, fun b h => ?_⟩
  · refine ⟨kvp, f _ _ p1 fun z => ?_, Nat.le_trans p2 hN, fun m => ⟨(p3 m).1, fun k' e => ?_⟩⟩
    · rcases z with z | z | ⟨hn, z | z⟩
      · exact X.inj.pp z.symm
      · exact X.inj.dk z
      · exact (X.inj.o1 n hn).2.1 z.symm
      · obtain ⟨_, _, _, _, _, h3⟩ := X.live hn
        rw [z, h3] at p1
        cases p1
    · obtain ⟨v, e1, e2⟩ := (p3 m).2 k' e
      exact ⟨v, e1, C.pv e2 f nt⟩
  · obtain ⟨kvs0, h1, h2, h3⟩ := X.keep
    rw [hd] at h1
    cases h1
    refine ⟨kvs', hd', hlen, fun m => ?_⟩
    by_cases hm : m = n
    · subst hm
      refine ⟨fun z => ?_, fun k' e => ?_⟩
      · have z : setK S.keeps m k m = none := z
        rw [setK_same] at z
        cases z
      · have e : setK S.keeps m k m = some k' := e
        rw [setK_same] at e
        cases e
        show valV kvs' (.inr m : Key) = some (.ref (setA g.ko m o' m)) ∧ (∃ o, H' (setA g.ko m o' m) = some o ∧ c.KO g.p (setA g.th m t' m) k o) ∧ H' (setA g.th m t' m) = some (.lst (k.things.map .str))
        rw [setA_same, setA_same]
        exact ⟨hvn, hO, hT⟩
    · rw [hv m hm]
      refine ⟨fun z => (h3 m).1 ((live' m hm).symm.trans z), fun k' e => ?_⟩
      have e0 : S.keeps m = some k' := (live' m hm).symm.trans e
      obtain ⟨e1, ⟨o, e2, e3⟩, e4⟩ := (h3 m).2 k' e0
      have hmn : S.keeps m ≠ none := by rw [e0]; exact fun z => nomatch z
      show valV kvs (.inr m : Key) = some (.ref (setA g.ko n o' m)) ∧ (∃ o, H' (setA g.ko n o' m) = some o ∧ c.KO g.p (setA g.th n t' m) k' o) ∧ H' (setA g.th n t' m) = some (.lst (k'.things.map .str))
      rw [setA_ne hm, setA_ne hm]
      refine ⟨e1, ⟨o, f _ _ e2 fun z => ?_, e3⟩, f _ _ e4 fun z => ?_⟩
      · rcases z with z | z | ⟨hn, z | z⟩
        · exact (X.inj.o1 m hmn).1 z
        · exact (X.inj.o1 m hmn).2.2 z
        · exact hm (X.inj.oo m n hmn hn z)
        · obtain ⟨_, _, _, _, _, g3⟩ := X.live hn
          rw [z, g3] at e2
          exact (C.ko e3).1 _ (Option.some.inj e2).symm
      · rcases z with z | z | ⟨hn, z | z⟩
        · rw [z, a2] at e4
          exact b2.1 _ (Option.some.inj e4)
        · rw [z, hd] at e4
          cases e4
        · obtain ⟨_, _, _, g1, g2, _⟩ := X.live hn
          rw [z, g1] at e4
          exact (C.ko g2).1 _ (Option.some.inj e4)
        · exact hm (X.inj.tt m n hmn hn z)
  · show setA g.ko n o' m ≠ g.p ∧ setA g.ko n o' m ≠ g.pd ∧ setA g.ko n o' m ≠ g.kd
    by_cases e : m = n
    · subst e
      rw [setA_same]
      exact ⟨oNew trp fun j hj z => (X.inj.o1 j hj).1 z.symm, oNew trpd fun j hj z => (X.inj.o1 j hj).2.1 z.symm, oNew trkd fun j hj z => (X.inj.o1 j hj).2.2 z.symm⟩
    · rw [setA_ne e]
      exact X.inj.o1 m (by rw [← live' m e]; exact hm)
  · have e : setA g.ko n o' m = setA g.ko n o' m' := e
    by_cases e1 : m = n
    · by_cases e2 : m' = n
      · rw [e1, e2]
      · rw [e1, setA_same, setA_ne e2] at e
        have hm2 : S.keeps m' ≠ none := by rw [← live' m' e2]; exact hm'
        obtain ⟨_, _, _, g1, _⟩ := X.live hm2
        rcases ho with ⟨z, z2⟩ | z
        · exact absurd (X.inj.oo n m' z2 hm2 (z.symm.trans e)).symm e2
        · rw [e, g1] at z
          cases z
    · have hm1 : S.keeps m ≠ none := by rw [← live' m e1]; exact hm
      by_cases e2 : m' = n
      · rw [e2, setA_same, setA_ne e1] at e
        obtain ⟨_, _, _, g1, _⟩ := X.live hm1
        rcases ho with ⟨z, z2⟩ | z
        · exact absurd (X.inj.oo m n hm1 z2 (e.trans z)) e1
        · rw [← e, g1] at z
          cases z
      · rw [setA_ne e1, setA_ne e2] at e
        exact X.inj.oo m m' hm1 (by rw [← live' m' e2]; exact hm') e
  · have e : setA g.th n t' m = setA g.th n t' m' := e
    by_cases e1 : m = n
    · by_cases e2 : m' = n
      · rw [e1, e2]
      · rw [e1, setA_same, setA_ne e2] at e
        have hm2 : S.keeps m' ≠ none := by rw [← live' m' e2]; exact hm'
        obtain ⟨_, _, _, _, _, g1⟩ := X.live hm2
        rcases ht with ⟨z, z2⟩ | z
        · exact absurd (X.inj.tt n m' z2 hm2 (z.symm.trans e)).symm e2
        · rw [e, g1] at z
          cases z
    · have hm1 : S.keeps m ≠ none := by rw [← live' m e1]; exact hm
      by_cases e2 : m' = n
      · rw [e2, setA_same, setA_ne e1] at e
        obtain ⟨_, _, _, _, _, g1⟩ := X.live hm1
        rcases ht with ⟨z, z2⟩ | z
        · exact absurd (X.inj.tt m n hm1 z2 (e.trans z)) e1
        · rw [← e, g1] at z
          cases z
      · rw [setA_ne e1, setA_ne e2] at e
        exact X.inj.tt m m' hm1 (by rw [← live' m' e2]; exact hm') e
  · show setA g.th n t' m ≠ l'
    by_cases e : m = n
    · rw [e, setA_same]
      exact htl
    · rw [setA_ne e]
      have hm1 : S.keeps m ≠ none := by rw [← live' m e]; exact hm
      rcases hl with z | z
      · rw [z]
        exact X.inj.tl m hm1
      · obtain ⟨_, _, _, _, _, g1⟩ := X.live hm1
        exact ne_of_none g1 z
  · rcases h with h | h | ⟨hn, h⟩
    · exact .inr (.inl h)
    · exact .inr (.inr (.inr (.inr (.inl h))))
    · exact .inr (.inr (.inr (.inr (.inr ⟨n, hn, h⟩))))
  · rcases h with h | h | h | h | h | ⟨m, hm, h⟩
    · exact .inl (.inl h)
    · exact .inl (.inr (.inl h))
    · rcases hl with z | z
      · exact .inl (.inr (.inr (.inl (h.trans z))))
      · exact .inr (h ▸ z)
    · exact .inl (.inr (.inr (.inr (.inl h))))
    · exact .inl (.inr (.inr (.inr (.inr (.inl h)))))
    · have h : b = setA g.ko n o' m ∨ b = setA g.th n t' m := h
      by_cases e : m = n
      · rw [e, setA_same, setA_same] at h
        rcases h with h | h
        · rcases ho with ⟨z, z2⟩ | z
          · exact .inl (.inr (.inr (.inr (.inr (.inr ⟨n, z2, .inl (h.trans z)⟩)))))
          · exact .inr (h ▸ z)
        · rcases ht with ⟨z, z2⟩ | z
          · exact .inl (.inr (.inr (.inr (.inr (.inr ⟨n, z2, .inr (h.trans z)⟩)))))
          · exact .inr (h ▸ z)
      · rw [setA_ne e, setA_ne e] at h
        exact .inl (.inr (.inr (.inr (.inr (.inr ⟨m, by rw [← live' m e]; exact hm, h⟩)))))
end
end Ev

set_option Elab.async false
set_option linter.all false
set_option maxRecDepth 100000
set_option maxHeartbeats 2000000
/-! The desk: what it is, its keepers and programs by names. -/
namespace Ev
open PySem PySem.Spec PyProof.Rows L2 He TL
def KOd (K : PySem.W.Frag) (p t : Addr) (k : Kp) (o : HO) : Prop := ∃ dx, match k.most with
  | some m => o = .ins (ga K "Drawer") dx (df p t k.count m)
  | none => o = .ins (ga K "Weigher") dx (wf p t k.count k.total)
def cD (K : PySem.W.Frag) : Cfg := ⟨fun N d p l pd kd q H => (∃ dx, H d = some (.ins (ga K "Desk") dx (ef p pd kd))) ∧ PurseAt K H p l (60 * N) q, KOd K, fun v k H => k < 4 ∧ ∃ a, v = .ref a ∧ ProgAt H a (prg k)⟩
theorem nl_ins {C dx : Addr} {fs : List (Str × V)} : Nl (.ins C dx fs) := ⟨(fun _ z => nomatch z), (fun _ z => nomatch z)⟩
theorem cD_ok (K : PySem.W.Frag) : CfgOk (cD K) where
  fr := fun {N d p l pd kd q H H' ch} h f hd hp hl nt => ⟨h.1.imp fun dx h1 => f _ _ h1 hd, h.2.fr f hp hl⟩
  mono := fun h hN => by
    obtain ⟨h0, dx, used, full, h1, h2, h3, h4, h5, h6⟩ := h
    exact ⟨h0, dx, used, full, h1, h2, h3, h4, by omega, h6⟩
  tr := fun h => by
    obtain ⟨⟨dx, h1⟩, ⟨dx', used, full, h2, h3, _⟩⟩ := h
    exact ⟨⟨_, h1, nl_ins⟩, ⟨_, h2, nl_ins⟩, ⟨_, h3⟩⟩
  ko := fun {p t k o} h => by
    obtain ⟨dx, h⟩ := h
    cases e : k.most with
    | none =>
      rw [e] at h
      rw [h]
      exact nl_ins
    | some m =>
      rw [e] at h
      rw [h]
      exact nl_ins
  pv := fun h f nt => by
    obtain ⟨h0, a, rfl, h1⟩ := h
    exact ⟨h0, a, rfl, h1.fr f nt⟩
structure KpOk (N : Nat) (k : Kp) : Prop where
  c0 : 0 ≤ k.count
  c1 : k.count ≤ 2 ^ N
  t0 : 0 ≤ k.total
  t1 : k.total ≤ 10 ^ 12
  dr : ∀ m, k.most = some m → 1 ≤ m ∧ m < 10 ^ 12 ∧ (k.things.length : Int) = min k.count m
  wr : k.most = none → k.things.length ≤ 1 ∧ (k.count = 0 → k.things = []) ∧ (0 < k.count → 1 ≤ k.total)
  ln : k.things.length ≤ 4000 + N
  nm : ∀ z ∈ k.things, NameB z = true
structure SxOk (N : Nat) (S : Sx) : Prop where
  n62 : N ≤ 62
  pool : S.pool.Ok
  few : S.pool.coins.length ≤ 60 * N
  kp : ∀ n k, S.keeps n = some k → KpOk N k
  pg : ∀ n k, S.progs n = some k → k < 4
/-- the desk stands -/
structure DeskAt (K : PySem.W.Frag) (H : Hp) (d : Addr) (g : Gk) (N : Nat) (S : Sx) : Prop where
  x : Side (cD K) H d g N S
  ok : SxOk N S
theorem DeskAt.same {K : PySem.W.Frag} {H H' : Hp} {d : Addr} {g : Gk} {N : Nat} {S : Sx} (D : DeskAt K H d g N S) (s : Same H H') : DeskAt K H' d g N S := ⟨D.x.same (cD_ok K) s, D.ok⟩
def sp_Desk_program_by (K : PySem.W.Frag) : Sp := fun vs H Q E => ∃ (d : Addr) (g : Gk) (N : Nat) (S : Sx) (z : Str), vs = [.ref d, .str z] ∧ DeskAt K H d g N S ∧ (S.progs z = none → Rz K .noname E H) ∧ (∀ k a, S.progs z = some k → k < 4 → ProgAt H a (prg k) → Q (.ref a) H)
def sp_Desk_keeper_by (K : PySem.W.Frag) : Sp := fun vs H Q E => ∃ (d : Addr) (g : Gk) (N : Nat) (S : Sx) (z : Str), vs = [.ref d, .str z] ∧ DeskAt K H d g N S ∧ (S.keeps z = none → Rz K .noname E H) ∧ (∀ k, S.keeps z = some k → Q (.ref (g.ko z)) H)
def sp_Desk_drawer_by (K : PySem.W.Frag) : Sp := fun vs H Q E => ∃ (d : Addr) (g : Gk) (N : Nat) (S : Sx) (z : Str), vs = [.ref d, .str z] ∧ DeskAt K H d g N S ∧ (S.keeps z = none → Rz K .noname E H) ∧ (∀ k, S.keeps z = some k → (k.most = none → Rz K .noname E H) ∧ ∀ m, k.most = some m → Q (.ref (g.ko z)) H)
def sp_Desk_weigher_by (K : PySem.W.Frag) : Sp := fun vs H Q E => ∃ (d : Addr) (g : Gk) (N : Nat) (S : Sx) (z : Str), vs = [.ref d, .str z] ∧ DeskAt K H d g N S ∧ (S.keeps z = none → Rz K .noname E H) ∧ (∀ k, S.keeps z = some k → (k.most = none → Q (.ref (g.ko z)) H) ∧ ∀ m, k.most = some m → Rz K .noname E H)
def s0 : Sx := ⟨⟨1, 0, []⟩, fun _ => none, fun _ => none⟩
def sp_Desk_init (K : PySem.W.Frag) : Sp := fun vs H Q _ => ∃ (d dx : Addr), vs = [.ref d] ∧ H d = some (.ins (ga K "Desk") dx []) ∧ ∀ H' g, DeskAt K H' d g 0 s0 → (∀ b, own d g s0 b → b = d ∨ H b = none) → Fr (fun b => b = d) H H' → Q .non H'
theorem noname_raise {K : PySem.W.Frag} {E : XK} {H : Hp} (h : Rz K .noname E H) : E (.ref (ga K "NoName")) none H := h H (Same.refl H)
section
variable {P : Program} {w : World} {K : PySem.W.Frag} {mg : Str → Option Value} {base h : Heap}
abbrev N_Desk_program_by : List Str := ["self", "word"]
abbrev P_Desk_program_by : List Str := ["self", "word"]
theorem sc_Desk_program_by : FnScope N_Desk_program_by P_Desk_program_by (defScope s_Desk_program_by) := ⟨rfl, rfl, rfl, by decide +kernel, rfl, by decide +kernel, by decide +kernel⟩
theorem ok_Desk_program_by (T : Tx w K mg h) : Cal P w K mg base 1 (ma K (ga K "Desk") "program_by") (sp_Desk_program_by K) := by
  obtain ⟨fd, F⟩ := T.fn_Desk_program_by
  refine okOf F sc_Desk_program_by (fun _ _ _ _ _ _ us hl => match us, hl with | [_, _], _ => rfl) (fun vs H Q E h => ?_) (fun cdv A outer s H vs Q E hr hsp => ?_)
  · repeat (first | (obtain ⟨h1, _⟩ := h; subst h1; rfl) | (obtain ⟨_, h⟩ := h))
  · obtain ⟨d, g, N, S, z, rfl, D, kn, kk⟩ := hsp
    refine ⟨_, (pss_cons (ps_if (pt_cmp (pc_dnotin (hu_of hr) (pv 1) (pe_fld (pv 0) rfl)))
          (pss_one (ps_raise rfl tkE (pmk_own PySem.F.excBase_ValueError T.ex_NoName.1 T.gl_NoName T.ex_NoName.2.1 (raises_own T.ex_NoName.2.2.1 T.ex_NoName.2.2.2) (by rfl))))
          pss_nil)
        (pss_one (ps_ret (pe_dget (hu_of hr) (pe_fld (pv 0) rfl) (pv 1) (fun _ _ => rfl))))), ?_⟩
    obtain ⟨⟨dx, hd⟩, hP⟩ := D.x.main
    obtain ⟨kvs, h1, h2, h3⟩ := D.x.prog
    refine ⟨_, rfl, _, rfl, T.r_Desk_programs hd ⟨g.pd, _, rfl, DGet.k (k := Sum.inr z) h1, _, rfl, ?_⟩⟩
    cases e : S.progs z with
    | none =>
      rw [(h3 z).1 e]
      exact iteT (kn e H (Same.refl H))
    | some k =>
      obtain ⟨v, e1, k4, a, rfl, hPa⟩ := (h3 z).2 k e
      rw [e1]
      refine iteF ⟨_, rfl, T.r_Desk_programs hd ⟨_, rfl, g.pd, _, rfl, ?_, kk k a e k4 hPa⟩⟩
      have q := DGet.k (k := Sum.inr z) h1
      rw [e1] at q
      exact q
abbrev N_Desk_keeper_by : List Str := ["self", "word"]
abbrev P_Desk_keeper_by : List Str := ["self", "word"]
theorem sc_Desk_keeper_by : FnScope N_Desk_keeper_by P_Desk_keeper_by (defScope s_Desk_keeper_by) := ⟨rfl, rfl, rfl, by decide +kernel, rfl, by decide +kernel, by decide +kernel⟩
theorem ok_Desk_keeper_by (T : Tx w K mg h) : Cal P w K mg base 1 (ma K (ga K "Desk") "keeper_by") (sp_Desk_keeper_by K) := by
  obtain ⟨fd, F⟩ := T.fn_Desk_keeper_by
  refine okOf F sc_Desk_keeper_by (fun _ _ _ _ _ _ us hl => match us, hl with | [_, _], _ => rfl) (fun vs H Q E h => ?_) (fun cdv A outer s H vs Q E hr hsp => ?_)
  · repeat (first | (obtain ⟨h1, _⟩ := h; subst h1; rfl) | (obtain ⟨_, h⟩ := h))
  · obtain ⟨d, g, N, S, z, rfl, D, kn, kk⟩ := hsp
    refine ⟨_, (pss_cons (ps_if (pt_cmp (pc_dnotin (hu_of hr) (pv 1) (pe_fld (pv 0) rfl)))
          (pss_one (ps_raise rfl tkE (pmk_own PySem.F.excBase_ValueError T.ex_NoName.1 T.gl_NoName T.ex_NoName.2.1 (raises_own T.ex_NoName.2.2.1 T.ex_NoName.2.2.2) (by rfl))))
          pss_nil)
        (pss_one (ps_ret (pe_dget (hu_of hr) (pe_fld (pv 0) rfl) (pv 1) (fun _ _ => rfl))))), ?_⟩
    obtain ⟨⟨dx, hd⟩, hP⟩ := D.x.main
    obtain ⟨kvs, h1, h2, h3⟩ := D.x.keep
    refine ⟨_, rfl, _, rfl, T.r_Desk_keepers hd ⟨g.kd, _, rfl, DGet.k (k := Sum.inr z) h1, _, rfl, ?_⟩⟩
    cases e : S.keeps z with
    | none =>
      rw [(h3 z).1 e]
      exact iteT (kn e H (Same.refl H))
    | some k =>
      obtain ⟨e1, _⟩ := (h3 z).2 k e
      rw [e1]
      refine iteF ⟨_, rfl, T.r_Desk_keepers hd ⟨_, rfl, g.kd, _, rfl, ?_, kk k e⟩⟩
      have q := DGet.k (k := Sum.inr z) h1
      rw [e1] at q
      exact q
abbrev N_Desk_drawer_by : List Str := ["self", "word", "found"]
abbrev P_Desk_drawer_by : List Str := ["self", "word"]
theorem sc_Desk_drawer_by : FnScope N_Desk_drawer_by P_Desk_drawer_by (defScope s_Desk_drawer_by) := ⟨rfl, rfl, rfl, by decide +kernel, rfl, by decide +kernel, by decide +kernel⟩
theorem ok_Desk_drawer_by (T : Tx w K mg h) : Cal P w K mg base 2 (ma K (ga K "Desk") "drawer_by") (sp_Desk_drawer_by K) := by
  obtain ⟨fd, F⟩ := T.fn_Desk_drawer_by
  refine okOf F sc_Desk_drawer_by (fun _ _ _ _ _ _ us hl => match us, hl with | [_, _], _ => rfl) (fun vs H Q E h => ?_) (fun cdv A outer s H vs Q E hr hsp => ?_)
  · repeat (first | (obtain ⟨h1, _⟩ := h; subst h1; rfl) | (obtain ⟨_, h⟩ := h))
  · obtain ⟨d, g, N, S, z, rfl, D, kn, kk⟩ := hsp
    refine ⟨_, (pss_cons (ps_set (i := 2) sc_Desk_drawer_by.nd rfl (Or.inl rfl) (pc_m (ok_Desk_keeper_by T) hr (by decide) (has_Desk_keeper_by T) tkE (pv 0) (pa_cons (pv 1) pa_nil)))
        (pss_cons (ps_if (pt_not (pt_val (pe_callB call_isi (by rfl) T.fr_isinstance boot_isinstance (pa_cons (pv 2) (pa_cons (C8.pe_gc (v := .ref (He.ga K "Drawer")) (by rfl) ⟨_, T.gl_Drawer, rfl⟩) pa_nil)))))
          (pss_one (ps_raise rfl tkE (pmk_own PySem.F.excBase_ValueError T.ex_NoName.1 T.gl_NoName T.ex_NoName.2.1 (raises_own T.ex_NoName.2.2.1 T.ex_NoName.2.2.2) (by rfl))))
          pss_nil)
        (pss_one (ps_ret (pv 2))))), ?_⟩
    obtain ⟨⟨dx, hd⟩, hP⟩ := D.x.main
    refine ⟨_, rfl, d, _, dx, _, rfl, hd, rfl, ef_no (by decide +kernel), _, rfl, d, g, N, S, z, rfl, D, kn, fun k e => ?_⟩
    obtain ⟨kvs, h1, h2, h3⟩ := D.x.keep
    obtain ⟨e1, ⟨o, e2, odx, e3⟩, e4⟩ := (h3 z).2 k e
    cases em : k.most with
    | none =>
      rw [em] at e3
      subst e3
      refine ⟨_, rfl, _, _, _, _, _, rfl, .own _, .base (.ins e2 T.cs_Weigher T.xa_Weigher T.xn T.xt T.xm_Weigher), T.ki_Weigher_Drawer, false, rfl, iteT ?_⟩
      exact (kk k e).1 em H (Same.refl H)
    | some m =>
      rw [em] at e3
      subst e3
      refine ⟨_, rfl, _, _, _, _, _, rfl, .own _, .base (.ins e2 T.cs_Drawer T.xa_Drawer T.xn T.xt T.xm_Drawer), T.ki_Drawer_Drawer, true, rfl, iteF ?_⟩
      exact ⟨_, rfl, (kk k e).2 m em⟩
abbrev N_Desk_weigher_by : List Str := ["self", "word", "found"]
abbrev P_Desk_weigher_by : List Str := ["self", "word"]
theorem sc_Desk_weigher_by : FnScope N_Desk_weigher_by P_Desk_weigher_by (defScope s_Desk_weigher_by) := ⟨rfl, rfl, rfl, by decide +kernel, rfl, by decide +kernel, by decide +kernel⟩
theorem ok_Desk_weigher_by (T : Tx w K mg h) : Cal P w K mg base 2 (ma K (ga K "Desk") "weigher_by") (sp_Desk_weigher_by K) := by
  obtain ⟨fd, F⟩ := T.fn_Desk_weigher_by
  refine okOf F sc_Desk_weigher_by (fun _ _ _ _ _ _ us hl => match us, hl with | [_, _], _ => rfl) (fun vs H Q E h => ?_) (fun cdv A outer s H vs Q E hr hsp => ?_)
  · repeat (first | (obtain ⟨h1, _⟩ := h; subst h1; rfl) | (obtain ⟨_, h⟩ := h))
  · obtain ⟨d, g, N, S, z, rfl, D, kn, kk⟩ := hsp
    refine ⟨_, (pss_cons (ps_set (i := 2) sc_Desk_weigher_by.nd rfl (Or.inl rfl) (pc_m (ok_Desk_keeper_by T) hr (by decide) (has_Desk_keeper_by T) tkE (pv 0) (pa_cons (pv 1) pa_nil)))
        (pss_cons (ps_if (pt_not (pt_val (pe_callB call_isi (by rfl) T.fr_isinstance boot_isinstance (pa_cons (pv 2) (pa_cons (C8.pe_gc (v := .ref (He.ga K "Weigher")) (by rfl) ⟨_, T.gl_Weigher, rfl⟩) pa_nil)))))
          (pss_one (ps_raise rfl tkE (pmk_own PySem.F.excBase_ValueError T.ex_NoName.1 T.gl_NoName T.ex_NoName.2.1 (raises_own T.ex_NoName.2.2.1 T.ex_NoName.2.2.2) (by rfl))))
          pss_nil)
        (pss_one (ps_ret (pv 2))))), ?_⟩
    obtain ⟨⟨dx, hd⟩, hP⟩ := D.x.main
    refine ⟨_, rfl, d, _, dx, _, rfl, hd, rfl, ef_no (by decide +kernel), _, rfl, d, g, N, S, z, rfl, D, kn, fun k e => ?_⟩
    obtain ⟨kvs, h1, h2, h3⟩ := D.x.keep
    obtain ⟨e1, ⟨o, e2, odx, e3⟩, e4⟩ := (h3 z).2 k e
    cases em : k.most with
    | none =>
      rw [em] at e3
      subst e3
      refine ⟨_, rfl, _, _, _, _, _, rfl, .own _, .base (.ins e2 T.cs_Weigher T.xa_Weigher T.xn T.xt T.xm_Weigher), T.ki_Weigher_Weigher, true, rfl, iteF ?_⟩
      exact ⟨_, rfl, (kk k e).1 em⟩
    | some m =>
      rw [em] at e3
      subst e3
      refine ⟨_, rfl, _, _, _, _, _, rfl, .own _, .base (.ins e2 T.cs_Drawer T.xa_Drawer T.xn T.xt T.xm_Drawer), T.ki_Drawer_Weigher, false, rfl, iteT ?_⟩
      exact (kk k e).2 m em H (Same.refl H)
end
end Ev

set_option Elab.async false
set_option linter.all false
set_option maxRecDepth 100000
set_option maxHeartbeats 2000000
/-! The desk's rows about coins and programs. -/
namespace Ev
open PySem PySem.Spec PyProof.Rows L2 He TL
section
variable {S : Sx} {z t a b : Str} {n : Nat} {k : Kp} {q : Pool}
theorem st_draw0 : stepS S (.draw 0) = (.ex .nodraw, S) := rfl
theorem st_draw1 (h : ¬ n = 0) (e : S.pool.draw n = none) : stepS S (.draw n) = (.ex (.short S.pool.coins.length), S) := by simp only [stepS, if_neg h, e]
theorem st_draw2 {x : Int} (h : ¬ n = 0) (e : S.pool.draw n = some (x, q)) : stepS S (.draw n) = (.ok (Str.ofString (toString x)), { S with pool := q }) := by simp only [stepS, if_neg h, e]
theorem st_go0 (e : S.progs z = none) : stepS S (.go z) = (.ex .noname, S) := by simp only [stepS, e]
theorem st_go1 {k : Nat} (e : S.progs z = some k) (h : wk (prg k) 0 S.pool.coins = none) : stepS S (.go z) = (.ex (.short S.pool.coins.length), S) := by simp only [stepS, e, h]
theorem st_go2 {k x n : Nat} (e : S.progs z = some k) (h : wk (prg k) 0 S.pool.coins = some (x, n)) : stepS S (.go z) = (.ok (num x), { S with pool := ⟨S.pool.size, S.pool.num, S.pool.coins.drop n⟩ }) := by simp only [stepS, e, h]
theorem st_drawer0 : stepS S (.drawer z 0) = (.ex .nodraw, S) := rfl
theorem st_drawer1 (h : ¬ n = 0) : stepS S (.drawer z n) = (.ok "ok", { S with keeps := setK S.keeps z ⟨[], 0, some (n : Int), 0⟩ }) := by simp only [stepS, if_neg h]
theorem st_see0 (e : S.keeps z = none) : stepS S (.see z t) = (.ex .noname, S) := by simp only [stepS, e]
theorem st_see1 (e : S.keeps z = some k) (h : k.most = none) : stepS S (.see z t) = (.ex .noname, S) := by simp only [stepS, e, h]
theorem st_see2 {m : Int} (e : S.keeps z = some k) (h : k.most = some m) (i : seeD S.pool k.count m k.things t = none) : stepS S (.see z t) = (.ex (.short S.pool.coins.length), S) := by simp only [stepS, e, h, i]
theorem st_see3 {m : Int} {ths : List Str} (e : S.keeps z = some k) (h : k.most = some m) (i : seeD S.pool k.count m k.things t = some (q, ths)) : stepS S (.see z t) = (.ok "ok", { S with pool := q, keeps := setK S.keeps z ⟨ths, k.count + 1, some m, k.total⟩ }) := by simp only [stepS, e, h, i]
theorem st_seew0 (e : S.keeps z = none) : stepS S (.seew z t n) = (.ex .noname, S) := by simp only [stepS, e]
theorem st_seew1 {m : Int} (e : S.keeps z = some k) (h : k.most = some m) : stepS S (.seew z t n) = (.ex .noname, S) := by simp only [stepS, e, h]
theorem st_seew2 (e : S.keeps z = some k) (h : k.most = none) : stepS S (.seew z t 0) = (.ex .nodraw, S) := by simp only [stepS, e, h]; rfl
theorem st_seew3 (e : S.keeps z = some k) (h : k.most = none) (h0 : ¬ n = 0) (i : seeW S.pool k.count k.total k.things t n = none) : stepS S (.seew z t n) = (.ex (.short S.pool.coins.length), S) := by simp only [stepS, e, h, i, if_neg h0]
theorem st_seew4 {ths : List Str} (e : S.keeps z = some k) (h : k.most = none) (h0 : ¬ n = 0) (i : seeW S.pool k.count k.total k.things t n = some (q, ths)) : stepS S (.seew z t n) = (.ok "ok", { S with pool := q, keeps := setK S.keeps z ⟨ths, k.count + 1, none, k.total + n⟩ }) := by simp only [stepS, e, h, i, if_neg h0]
theorem st_held0 (e : S.keeps z = none) : stepS S (.held z) = (.ex .noname, S) := by simp only [stepS, e]
theorem st_held1 (e : S.keeps z = some k) : stepS S (.held z) = (.ok (Txt.join " " k.things), S) := by simp only [stepS, e]
theorem st_cut0 (e : S.keeps z = none) : stepS S (.cut z n) = (.ex .noname, S) := by simp only [stepS, e]
theorem st_cut1 (e : S.keeps z = some k) (h : k.most = none) : stepS S (.cut z n) = (.ex .noname, S) := by simp only [stepS, e, h]
theorem st_cut2 {m : Int} (e : S.keeps z = some k) (h : k.most = some m) (i : (n : Int) < 1 ∨ (n : Int) > m) : stepS S (.cut z n) = (.ex .nodraw, S) := by simp only [stepS, e, h, if_pos i]
theorem st_cut3 {m : Int} (e : S.keeps z = some k) (h : k.most = some m) (i : ¬ ((n : Int) < 1 ∨ (n : Int) > m)) (j : S.pool.draws (dn k.things.length n) = none) : stepS S (.cut z n) = (.ex (.short S.pool.coins.length), S) := by simp only [stepS, e, h, if_neg i, j]
theorem st_cut4 {m : Int} {as : List Int} (e : S.keeps z = some k) (h : k.most = some m) (i : ¬ ((n : Int) < 1 ∨ (n : Int) > m)) (j : S.pool.draws (dn k.things.length n) = some (as, q)) : stepS S (.cut z n) = (.ok "ok", { S with pool := q, keeps := setK S.keeps z ⟨pops k.things as, k.count, some (n : Int), k.total⟩ }) := by simp only [stepS, e, h, if_neg i, j]
theorem st_pour0 {x : Ex} (e : pourK S a b = .inl x) : stepS S (.pour z a b) = (.ex x, S) := by simp only [stepS, e]
theorem st_pour1 (e : pourK S a b = .inr (q, k)) : stepS S (.pour z a b) = (.ok "ok", { S with pool := q, keeps := setK S.keeps z k }) := by simp only [stepS, e]
end
/-- what a row's answer must give -/
structure Res (K : PySem.W.Frag) (H : Hp) (d : Addr) (g : Gk) (N : Nat) (S : Sx) (r : Row) (Q : VK) (E : XK) : Prop where
  ok : ∀ t S', stepS S r = (.ok t, S') → ∀ H' g', Next (cD K) H H' d g g' (N + 1) S S' → Q (.str t) H'
  ex : ∀ x S', stepS S r = (.ex x, S') → Rz K x E H
theorem Next.from {c : Cfg} {H0 H H' : Hp} {d : Addr} {g g' : Gk} {N' : Nat} {S S' : Sx} (s : Same H0 H) (n : Next c H H' d g g' N' S S') : Next c H0 H' d g g' N' S S' := ⟨n.x, s.fr.trans n.f, fun b h => (n.o b h).imp id fun z => s.free z⟩
theorem Res.same {K : PySem.W.Frag} {H H1 : Hp} {d : Addr} {g : Gk} {N : Nat} {S : Sx} {r : Row} {Q : VK} {E : XK} (R : Res K H d g N S r Q E) (s : Same H H1) : Res K H1 d g N S r Q E := ⟨fun t S' e H' g' n => R.ok t S' e H' g' (n.from s), fun x S' e => (R.ex x S' e).mono s⟩
def sp_Desk_on_coins (K : PySem.W.Frag) : Sp := fun vs H Q E => ∃ (d a : Addr) (g : Gk) (N : Nat) (S : Sx) (word : Str) (vs' : List V), vs = [.ref d, .str word, .ref a] ∧ DeskAt K H d g N S ∧ H a = some (.lst vs') ∧
  ((∃ cs, word = "coins" ∧ PartsAt H [.bits cs] vs' ∧ Arg.Ok (.bits cs) ∧ cs.length ≤ 60 ∧ Res K H d g N S (.coins cs) Q E) ∨
   (∃ n, word = "draw" ∧ PartsAt H [.num n] vs' ∧ n < 10 ^ 12 ∧ Res K H d g N S (.draw n) Q E) ∨
   (word = "left" ∧ Q (.str (num S.pool.coins.length)) H))
def sp_Desk_on_program (K : PySem.W.Frag) : Sp := fun vs H Q E => ∃ (d a : Addr) (g : Gk) (N : Nat) (S : Sx) (z : Str) (vs' : List V), vs = [.ref d, .str "go", .ref a] ∧ DeskAt K H d g N S ∧ H a = some (.lst vs') ∧ PartsAt H [.nm z] vs' ∧ Res K H d g N S (.go z) Q E
theorem part0 {H : Hp} {a : Arg} {as : List Arg} {vs : List V} (h : PartsAt H (a :: as) vs) : ∃ v, atI vs (0 : Int) = some v ∧ a.At H v := by
  obtain ⟨v, e, k⟩ := h.2 0 a rfl
  exact ⟨v, atI_nat (j := 0) e, k⟩
theorem part1 {H : Hp} {a b : Arg} {as : List Arg} {vs : List V} (h : PartsAt H (a :: b :: as) vs) : ∃ v, atI vs (1 : Int) = some v ∧ b.At H v := by
  obtain ⟨v, e, k⟩ := h.2 1 b rfl
  exact ⟨v, atI_nat (j := 1) e, k⟩
theorem part2 {H : Hp} {a b c : Arg} {as : List Arg} {vs : List V} (h : PartsAt H (a :: b :: c :: as) vs) : ∃ v, atI vs (2 : Int) = some v ∧ c.At H v := by
  obtain ⟨v, e, k⟩ := h.2 2 c rfl
  exact ⟨v, atI_nat (j := 2) e, k⟩
/-- the purse of a desk, changed -/
theorem DeskAt.pool {K : PySem.W.Frag} {H H' : Hp} {d : Addr} {g : Gk} {N : Nat} {S : Sx} (D : DeskAt K H d g N S) {l' : Addr} {q' : Pool} (hP : PurseAt K H' g.p l' (60 * (N + 1)) q') (f : Fr (fun b => b = g.p) H H') (hl : l' = g.l ∨ H l' = none) :
    Next (cD K) H H' d g { g with l := l' } (N + 1) S { S with pool := q' } := by
  obtain ⟨⟨dx, hd⟩, pdx, used, full, hp, _⟩ := D.x.main
  exact D.x.pool (cD_ok K) (Nat.le_succ _) ⟨⟨dx, f _ _ hd (ne_of hd hp ef_pf)⟩, hP⟩ f hl
theorem PurseAt.more {K : PySem.W.Frag} {H : Hp} {p l : Addr} {B B' : Nat} {q : Pool} (h : PurseAt K H p l B q) (hB : B ≤ B') : PurseAt K H p l B' q := by
  obtain ⟨dx, used, full, h1, h2, h3, h4, h5, h6⟩ := h
  exact ⟨dx, used, full, h1, h2, h3, h4, by omega, h6⟩
theorem wk_x {p : List Nd} (ok : ∀ nd ∈ p, nd.Ok p.length) : ∀ (cs : List Int) (i x n : Nat), wk p i cs = some (x, n) → x < 100 := by
  have gv : ∀ i y, p.getD i (.give 0) = .give y → y < 100 := fun i y e => by
    rw [List.getD_eq_getElem?_getD] at e
    cases h : p[i]? with
    | none =>
      rw [h] at e
      cases e
      decide
    | some nd =>
      rw [h] at e
      have e : nd = .give y := e
      have q := ok nd (List.mem_of_getElem? h)
      rw [e] at q
      exact q
  intro cs
  induction cs with
  | nil =>
    intro i x n h
    cases e : p.getD i (.give 0) with
    | give y =>
      rw [wk_give e] at h
      cases h
      exact gv i _ e
    | coin a b =>
      rw [wk_none e] at h
      cases h
  | cons c t ih =>
    intro i x n h
    cases e : p.getD i (.give 0) with
    | give y =>
      rw [wk_give e] at h
      cases h
      exact gv i _ e
    | coin a b =>
      rw [wk_coin e, Option.map_eq_some_iff] at h
      obtain ⟨z, h1, h2⟩ := h
      cases h2
      exact ih _ _ _ h1
theorem small_log {i : Int} (h : i.natAbs < 2 ^ 100) : i.natAbs.log2 < 1920 := by
  have := PySem.Flt.log2_lt_of (by decide : 0 < 100) h
  omega
section
variable {P : Program} {w : World} {K : PySem.W.Frag} {mg : Str → Option Value} {base h : Heap}
abbrev N_Desk_init : List Str := ["self"]
abbrev P_Desk_init : List Str := ["self"]
theorem sc_Desk_init : FnScope N_Desk_init P_Desk_init (defScope s_Desk_init) := ⟨rfl, rfl, rfl, by decide +kernel, rfl, by decide +kernel, by decide +kernel⟩
theorem ok_Desk_init (T : Tx w K mg h) : Cal P w K mg base 3 (ma K (ga K "Desk") "__init__") (sp_Desk_init K) := by
  obtain ⟨fd, F⟩ := T.fn_Desk_init
  refine okOf F sc_Desk_init (fun _ _ _ _ _ _ us hl => match us, hl with | [_], _ => rfl) (fun vs H Q E h => ?_) (fun cdv A outer s H vs Q E hr hsp => ?_)
  · repeat (first | (obtain ⟨h1, _⟩ := h; subst h1; rfl) | (obtain ⟨_, h⟩ := h))
  · obtain ⟨d, dx, rfl, hd, k⟩ := hsp
    refine ⟨_, (pss_cons (ps_fld (pv 0) (pc_mk0 (ok_Purse_init T) T.mk_Purse hr (by decide) T.gl_Purse pcE) rfl)
        (pss_cons (ps_fld (pv 0) pe_dnewK rfl)
        (pss_one (ps_fld (pv 0) pe_dnewK rfl)))), ?_⟩
    intro x xd nx nxd xdx
    refine ⟨x, xd, rfl, upd_same, fun l H1 nl hP1 f1 => ⟨rfl, ?_⟩⟩
    have dx' : d ≠ x := ne_of_none hd nx
    have dxd : d ≠ xd := ne_of_none hd nxd
    have kH : ∀ b o, H b = some o → H1 b = some o := fun b o e => f1 _ _ (by rw [upd_ne (ne_of_none e nx), upd_ne (ne_of_none e nxd)]; exact e) (ne_of_none e nx)
    have lx : l ≠ x := fun z => by rw [z, upd_same] at nl; cases nl
    have lxd : l ≠ xd := fun z => by rw [z, upd_ne xdx, upd_same] at nl; cases nl
    have nl0 : H l = none := by
      rw [upd_ne lx, upd_ne lxd] at nl
      exact nl
    refine ⟨_, rfl, T.w_Desk_purse (kH _ _ hd) ?_⟩
    intro pd npd
    have dpd : d ≠ pd := ne_of_none upd_same npd
    have npd1 : H1 pd = none := by rw [upd_ne dpd.symm] at npd; exact npd
    refine ⟨_, rfl, T.w_Desk_programs (by rw [upd_ne dpd]; exact upd_same) ?_⟩
    rw [show putF "programs" (V.ref pd) (putF "purse" (V.ref x) []) = zf ["purse", "programs"] [.ref x, .ref pd] from zf_new (ks := ["purse"]) (vs := [.ref x]) (by decide +kernel) rfl]
    intro kd nkd
    have dkd : d ≠ kd := ne_of_none upd_same nkd
    have pkd : pd ≠ kd := fun z => by
      rw [← z, upd_ne dpd.symm, upd_same] at nkd
      cases nkd
    have nkd1 : H1 kd = none := by
      rw [upd_ne dkd.symm, upd_ne pkd.symm, upd_ne dkd.symm] at nkd
      exact nkd
    refine ⟨_, rfl, T.w_Desk_keepers (by rw [upd_ne dkd]; exact upd_same) ?_⟩
    rw [show putF "keepers" (V.ref kd) (zf ["purse", "programs"] [.ref x, .ref pd]) = ef x pd kd from zf_new (by decide +kernel) rfl]
    obtain ⟨pdx, used, full, hp, hl, hP2⟩ := id hP1
    have e1 : ∀ b o, H1 b = some o → b ≠ d → upd (upd (upd (upd (upd H1 d (.ins (ga K "Desk") dx (putF "purse" (V.ref x) []))) pd (.dK [])) d (.ins (ga K "Desk") dx (zf ["purse", "programs"] [.ref x, .ref pd]))) kd (.dK [])) d (.ins (ga K "Desk") dx (ef x pd kd)) b = some o := fun b o e bd => by
      rw [upd_ne bd, upd_ne (ne_of_none e nkd1), upd_ne bd, upd_ne (ne_of_none e npd1), upd_ne bd]
      exact e
    have xd_ : x ≠ d := dx'.symm
    have ld : l ≠ d := ne_of hl (kH _ _ hd) (by intro z; cases z)
    refine k _ ⟨x, l, pd, kd, fun _ => d, fun _ => d⟩ ⟨⟨⟨⟨dx, upd_same⟩, pdx, used, full, e1 _ _ hp xd_, e1 _ _ hl ld, hP2⟩, ⟨[], ?_, Nat.le_refl _, fun n => ⟨fun _ => rfl, fun k z => nomatch z⟩⟩, ⟨[], ?_, Nat.le_refl _, fun n => ⟨fun _ => rfl, fun k z => nomatch z⟩⟩, ?_⟩, ⟨by decide, hP2.2.2.2, Nat.zero_le _, (fun n k z => nomatch z), (fun n k z => nomatch z)⟩⟩ ?_ ?_
    · show upd _ d _ pd = _
      rw [upd_ne dpd.symm, upd_ne pkd, upd_ne dpd.symm, upd_same]
    · show upd _ d _ kd = _
      rw [upd_ne dkd.symm, upd_same]
    · refine ⟨ne_of_none hp npd1, ne_of_none hp nkd1, pkd, fun n z => absurd rfl z, fun n m z => absurd rfl z, fun n m z => absurd rfl z, fun n z => absurd rfl z⟩
    · intro b hb
      rcases hb with h | h | h | h | h | ⟨n, z, _⟩
      · exact .inl h
      · exact .inr (h ▸ nx)
      · exact .inr (h ▸ nl0)
      · refine .inr ?_
        rw [h]
        cases e : H pd with
        | none => rfl
        | some u => rw [kH _ _ e] at npd1; cases npd1
      · refine .inr ?_
        rw [h]
        cases e : H kd with
        | none => rfl
        | some u => rw [kH _ _ e] at nkd1; cases nkd1
      · exact absurd rfl z
    · intro b o e bd
      exact e1 _ _ (kH _ _ e) bd
abbrev N_Desk_on_coins : List Str := ["self", "word", "parts"]
abbrev P_Desk_on_coins : List Str := ["self", "word", "parts"]
theorem sc_Desk_on_coins : FnScope N_Desk_on_coins P_Desk_on_coins (defScope s_Desk_on_coins) := ⟨rfl, rfl, rfl, by decide +kernel, rfl, by decide +kernel, by decide +kernel⟩
theorem ok_Desk_on_coins (T : Tx w K mg h) : Cal P w K mg base 6 (ma K (ga K "Desk") "on_coins") (sp_Desk_on_coins K) := by
  obtain ⟨fd, F⟩ := T.fn_Desk_on_coins
  refine okOf F sc_Desk_on_coins (fun _ _ _ _ _ _ us hl => match us, hl with | [_, _, _], _ => rfl) (fun vs H Q E h => ?_) (fun cdv A outer s H vs Q E hr hsp => ?_)
  · repeat (first | (obtain ⟨h1, _⟩ := h; subst h1; rfl) | (obtain ⟨_, h⟩ := h))
  · obtain ⟨d, a, g, N, S, word, vs', rfl, D, ha, hc⟩ := hsp
    refine ⟨_, (pss_cons (ps_if (pt_cmpR op_eq (pv 1) pe_str (nomark _))
          (pss_cons (ps_expr (pc_m (ok_Purse_put T) hr (by decide) (has_Purse_put T) tkE (pe_fld (pv 0) rfl) (pa_cons (pe_ix ix_list (pv 2) pe_int (fun _ _ => rfl)) pa_nil)))
          (pss_one (ps_ret pe_str)))
          pss_nil)
        (pss_cons (ps_if (pt_cmpR op_eq (pv 1) pe_str (nomark _))
          (pss_one (ps_ret (pe_callTy call_str_int (by rfl) T.fr_str boot_str (pa_cons (pc_m (ok_Purse_draw T) hr (by decide) (has_Purse_draw T) tkE (pe_fld (pv 0) rfl) (pa_cons (pe_ix ix_list (pv 2) pe_int (fun _ _ => rfl)) pa_nil)) pa_nil))))
          pss_nil)
        (pss_cons (ps_if (pt_cmpR op_eq (pv 1) pe_str (nomark _))
          (pss_one (ps_ret (pe_callTy call_str_int (by rfl) T.fr_str boot_str (pa_cons (pc_m0 (ok_Purse_left T) hr (by decide) (has_Purse_left T) tkE (pe_fld (pv 0) rfl)) pa_nil))))
          pss_nil)
        (pss_one ps_never)))), ?_⟩
    obtain ⟨⟨dx, hd⟩, hP⟩ := D.x.main
    obtain ⟨pdx, used, full, hp, hl, hP2⟩ := id hP
    have n62 := D.ok.n62
    have nget : ∀ {m : Str}, pks.idxOf? m = none → (pf g.l used S.pool.size S.pool.num).lookup m = none := fun h => pf_no h
    rcases hc with ⟨cs, rfl, pa, ok, l60, R⟩ | ⟨n, rfl, pa, ok, R⟩ | ⟨rfl, k⟩
    · refine ⟨_, rfl, rfl, _, rfl, ?_⟩
      rw [show decide (V.str "coins" = V.str "coins") = true by decide +kernel]
      obtain ⟨v, e0, c, rfl, hcs⟩ := part0 pa
      refine iteT ⟨_, rfl, T.r_Desk_purse hd ⟨g.p, _, pdx, _, rfl, hp, rfl, nget (by decide +kernel), _, rfl, a, _, _, _, rfl, rfl, SqL.of ha, e0, ?_⟩⟩
      refine ⟨g.p, g.l, c, 60 * N, 60, S.pool, cs, rfl, hP, hcs, l60, ok.2.2, by omega, fun l' H' nl hP' f => ?_⟩
      exact R.ok _ _ rfl H' _ (D.pool (by rw [Nat.mul_add]; exact hP') f (.inr nl))
    · refine ⟨_, rfl, rfl, _, rfl, ?_⟩
      rw [show decide (V.str "draw" = V.str "coins") = false by decide +kernel]
      refine iteF ⟨_, rfl, rfl, _, rfl, ?_⟩
      rw [show decide (V.str "draw" = V.str "draw") = true by decide +kernel]
      obtain ⟨v, e0, rfl⟩ := part0 pa
      refine iteT ⟨_, rfl, T.r_Desk_purse hd ⟨g.p, _, pdx, _, rfl, hp, rfl, nget (by decide +kernel), _, rfl, a, _, _, _, rfl, rfl, SqL.of ha, e0, ?_⟩⟩
      refine ⟨g.p, g.l, 60 * N, S.pool, n, rfl, hP, by omega, by omega, fun z => ?_, fun z => ⟨fun hn => ?_, fun x q' hq H' hP' f => ?_⟩⟩
      · exact R.ex .nodraw S (by rw [show n = 0 by omega]; exact st_draw0)
      · exact R.ex (.short S.pool.coins.length) S (st_draw1 (by omega) hn)
      · obtain ⟨_, x0, x1, _⟩ := Pool.draw_ok ⟨z, by omega⟩ D.ok.pool hq
        refine ⟨x, rfl, small_log (by omega), ?_⟩
        exact R.ok (Str.ofString (toString x)) { S with pool := q' } (st_draw2 (by omega) hq) H' _ (D.pool (hP'.more (by omega)) f (.inl rfl))
    · refine ⟨_, rfl, rfl, _, rfl, ?_⟩
      rw [show decide (V.str "left" = V.str "coins") = false by decide +kernel]
      refine iteF ⟨_, rfl, rfl, _, rfl, ?_⟩
      rw [show decide (V.str "left" = V.str "draw") = false by decide +kernel]
      refine iteF ⟨_, rfl, rfl, _, rfl, ?_⟩
      rw [show decide (V.str "left" = V.str "left") = true by decide +kernel]
      have := D.ok.few
      exact iteT ⟨_, rfl, T.r_Desk_purse hd ⟨g.p, _, pdx, _, rfl, hp, rfl, nget (by decide +kernel), g.p, g.l, 60 * N, S.pool, rfl, hP, by omega, S.pool.coins.length, rfl, small_log (by omega), k⟩⟩
abbrev N_Desk_on_program : List Str := ["self", "word", "parts", "name", "program", "thing", "spent", "one"]
abbrev P_Desk_on_program : List Str := ["self", "word", "parts"]
theorem sc_Desk_on_program : FnScope N_Desk_on_program P_Desk_on_program (defScope s_Desk_on_program) := ⟨rfl, rfl, rfl, by decide +kernel, rfl, by decide +kernel, by decide +kernel⟩
theorem ok_Desk_on_program (T : Tx w K mg h) : Cal P w K mg base 4 (ma K (ga K "Desk") "on_program") (sp_Desk_on_program K) := by
  obtain ⟨fd, F⟩ := T.fn_Desk_on_program
  refine okOf F sc_Desk_on_program (fun _ _ _ _ _ _ us hl => match us, hl with | [_, _, _], _ => rfl) (fun vs H Q E h => ?_) (fun cdv A outer s H vs Q E hr hsp => ?_)
  · repeat (first | (obtain ⟨h1, _⟩ := h; subst h1; rfl) | (obtain ⟨_, h⟩ := h))
  · obtain ⟨d, a, g, N, S, z, vs', rfl, D, ha, pa, R⟩ := hsp
    refine ⟨_, (pss_cons (ps_if (pt_cmpR op_eq (pv 1) pe_str (nomark _))
          pss_never
          pss_nil)
        (pss_cons (ps_set (i := 4) sc_Desk_on_program.nd rfl (Or.inl rfl) (pc_m (ok_Desk_program_by T) hr (by decide) (has_Desk_program_by T) tkE (pv 0) (pa_cons (pe_ix ix_list (pv 2) pe_int (fun _ _ => rfl)) pa_nil)))
        (pss_cons (ps_if (pt_cmpR op_eq (pv 1) pe_str (nomark _))
          pss_never
          pss_nil)
        (pss_cons (ps_if (pt_cmpR op_eq (pv 1) pe_str (nomark _))
          pss_never
          pss_nil)
        (pss_cons (ps_if (pt_cmpR op_eq (pv 1) pe_str (nomark _))
          pss_never
          pss_nil)
        (pss_cons (ps_asg (pc_f (ok_walked T) hr (by decide) T.gl_walked tkE (pa_cons (pv 4) (pa_cons (pc_m0 (ok_Purse_there T) hr (by decide) (has_Purse_there T) tkE (pe_fld (pv 0) rfl)) pa_nil))) (pg_tup (by rfl) (pgs_cons (pg_name (i := 5) sc_Desk_on_program.nd rfl (Or.inl rfl)) (pgs_cons (pg_name (i := 6) sc_Desk_on_program.nd rfl (Or.inl rfl)) pgs_nil))))
        (pss_cons (ps_expr (pc_m (ok_Purse_take T) hr (by decide) (has_Purse_take T) tkE (pe_fld (pv 0) rfl) (pa_cons (pv 6) pa_nil)))
        (pss_one (ps_ret (pe_callTy call_str_int (by rfl) T.fr_str boot_str (pa_cons (pv 5) pa_nil))))))))))), ?_⟩
    obtain ⟨⟨dx, hd⟩, hP⟩ := D.x.main
    obtain ⟨pdx, used, full, hp, hl, hP2⟩ := id hP
    have n62 := D.ok.n62
    have few := D.ok.few
    obtain ⟨v, e0, rfl⟩ := part0 pa
    have no : ∀ {m : Str}, eks.idxOf? m = none → (ef g.p g.pd g.kd).lookup m = none := fun h => ef_no h
    have nget : ∀ {m : Str}, pks.idxOf? m = none → (pf g.l used S.pool.size S.pool.num).lookup m = none := fun h => pf_no h
    refine ⟨_, rfl, rfl, _, rfl, ?_⟩
    rw [show decide (V.str "go" = V.str "least") = false by decide +kernel]
    refine iteF ⟨_, rfl, d, _, dx, _, rfl, hd, rfl, no (by decide +kernel), _, rfl, a, _, _, _, rfl, rfl, SqL.of ha, e0, ?_⟩
    refine ⟨d, g, N, S, z, rfl, D, fun e => R.ex .noname S (st_go0 e), fun k pa' e k4 hPa => ?_⟩
    refine ⟨_, rfl, rfl, _, rfl, ?_⟩
    rw [show decide (V.str "go" = V.str "show") = false by decide +kernel]
    refine iteF ⟨_, rfl, rfl, _, rfl, ?_⟩
    rw [show decide (V.str "go" = V.str "shares") = false by decide +kernel]
    refine iteF ⟨_, rfl, rfl, _, rfl, ?_⟩
    rw [show decide (V.str "go" = V.str "mean") = false by decide +kernel]
    obtain ⟨F, pk⟩ := pgOk k k4
    refine iteF ⟨_, rfl, _, rfl, T.r_Desk_purse hd ⟨g.p, _, pdx, _, rfl, hp, rfl, nget (by decide +kernel), g.p, g.l, 60 * N, S.pool, rfl, hP, fun t nt => ?_⟩⟩
    have s1 : Same H (upd H t (.lst (S.pool.coins.map .int))) := (Same.refl H).upd nt
    refine ⟨pa', t, prg k, S.pool.coins, rfl, hPa.same s1, pk.one, pk.ok, SqL.of upd_same, by omega, D.ok.pool.coin, fun hw => ?_, fun x n hw H2 r s2 hr2 => ?_⟩
    · exact (R.ex (.short S.pool.coins.length) S (st_go1 e hw)).mono s1
    · have s3 := s1.trans s2
      have nl := wk_le _ _ _ _ _ hw
      refine ⟨r, _, rfl, SqT.of hr2, rfl, _, _, rfl, _, _, rfl, rfl, ?_⟩
      refine ⟨_, rfl, T.r_Desk_purse (s3 _ _ hd) ⟨g.p, _, pdx, _, rfl, s3 _ _ hp, rfl, nget (by decide +kernel), _, rfl, g.p, g.l, 60 * N, S.pool, n, rfl, hP.same s3, nl, fun H4 hP4 f4 => ?_⟩⟩
      refine ⟨_, rfl, x, rfl, small_log ?_, ?_⟩
      · have := wk_x pk.ok _ _ _ _ hw
        omega
      · exact R.ok (num x) { S with pool := ⟨S.pool.size, S.pool.num, S.pool.coins.drop n⟩ } (st_go2 e hw) H4 _ (((D.same s3).pool (hP4.more (by omega)) f4 (.inl rfl)).from s3)
end
end Ev

set_option Elab.async false
set_option linter.all false
set_option maxRecDepth 100000
set_option maxHeartbeats 2000000
/-! The desk's rows about keepers. -/
namespace Ev
open PySem PySem.Spec PyProof.Rows L2 He TL
/-- a keeper that was made -/
def Made (K : PySem.W.Frag) (H : Hp) (g : Gk) (N : Nat) (q : Pool) (k : Kp) (Q : VK) : Prop := ∀ H' o t, H o = none → H t = none → (∃ u, H' o = some u ∧ KOd K g.p t k u) → H' t = some (.lst (k.things.map .str)) → PurseAt K H' g.p g.l (60 * N) q → Fr (fun b => b = g.p) H H' → Q (.ref o) H'
/-- a word of a pour: what is known of the two totals -/
def TotOk (S : Sx) (a b : Str) : Prop := ∀ k1 k2, S.keeps a = some k1 → S.keeps b = some k2 → k1.total + k2.total ≤ 10 ^ 12
def sp_Desk_made (K : PySem.W.Frag) : Sp := fun vs H Q E => ∃ (d a : Addr) (g : Gk) (N : Nat) (S : Sx) (word : Str) (vs' : List V), vs = [.ref d, .str word, .ref a] ∧ DeskAt K H d g N S ∧ H a = some (.lst vs') ∧
  ((∃ z n, word = "drawer" ∧ PartsAt H [.nm z, .num n] vs' ∧ n < 10 ^ 12 ∧ (n = 0 → Rz K .nodraw E H) ∧ (n ≠ 0 → Made K H g N S.pool ⟨[], 0, some (n : Int), 0⟩ Q)) ∨
   (∃ z, word = "weigher" ∧ PartsAt H [.nm z] vs' ∧ Made K H g N S.pool ⟨[], 0, none, 0⟩ Q) ∨
   (∃ z x y, word = "pour" ∧ PartsAt H [.nm z, .nm x, .nm y] vs' ∧ TotOk S x y ∧ (∀ e, pourK S x y = .inl e → Rz K e E H) ∧ ∀ q k, pourK S x y = .inr (q, k) → Made K H g N q k Q))
section
variable {S : Sx} {a b : Str} {k1 k2 : Kp}
theorem pk_no1 (e : S.keeps a = none) : pourK S a b = .inl .noname := by simp only [pourK, e]
theorem pk_no2 (e : S.keeps a = some k1) (e2 : S.keeps b = none) : pourK S a b = .inl .noname := by simp only [pourK, e, e2]
theorem pk_mix1 {m : Int} (e : S.keeps a = some k1) (e2 : S.keeps b = some k2) (h : k1.most = some m) (h2 : k2.most = none) : pourK S a b = .inl .noname := by simp only [pourK, e, e2, h, h2]
theorem pk_mix2 {m : Int} (e : S.keeps a = some k1) (e2 : S.keeps b = some k2) (h : k1.most = none) (h2 : k2.most = some m) : pourK S a b = .inl .noname := by simp only [pourK, e, e2, h, h2]
theorem pk_d0 {m m2 : Int} (e : S.keeps a = some k1) (e2 : S.keeps b = some k2) (h : k1.most = some m) (h2 : k2.most = some m2) (ne : m ≠ m2) : pourK S a b = .inl .nodraw := by simp only [pourK, e, e2, h, h2, if_neg ne]
theorem pk_d1 {m : Int} (e : S.keeps a = some k1) (e2 : S.keeps b = some k2) (h : k1.most = some m) (h2 : k2.most = some m) (i : S.pool.draws (manysD k1.things.length k2.things.length m (k1.count + k2.count)) = none) : pourK S a b = .inl (.short S.pool.coins.length) := by simp only [pourK, e, e2, h, h2, i]; rfl
theorem pk_d2 {m : Int} {as : List Int} {q : Pool} (e : S.keeps a = some k1) (e2 : S.keeps b = some k2) (h : k1.most = some m) (h2 : k2.most = some m) (i : S.pool.draws (manysD k1.things.length k2.things.length m (k1.count + k2.count)) = some (as, q)) :
    pourK S a b = .inr (q, ⟨pourTh k1.things k2.things k1.count as, k1.count + k2.count, some m, k1.total + k2.total⟩) := by simp only [pourK, e, e2, h, h2, i]; rfl
theorem pk_w1 (e : S.keeps a = some k1) (e2 : S.keeps b = some k2) (h : k1.most = none) (h2 : k2.most = none) (i : pourW S.pool k1.count k2.count k1.total k2.total k1.things k2.things = none) : pourK S a b = .inl (.short S.pool.coins.length) := by simp only [pourK, e, e2, h, h2, i]
theorem pk_w2 {q : Pool} {ths : List Str} (e : S.keeps a = some k1) (e2 : S.keeps b = some k2) (h : k1.most = none) (h2 : k2.most = none) (i : pourW S.pool k1.count k2.count k1.total k2.total k1.things k2.things = some (q, ths)) :
    pourK S a b = .inr (q, ⟨ths, k1.count + k2.count, none, k1.total + k2.total⟩) := by simp only [pourK, e, e2, h, h2, i]
end
theorem pow62 {N : Nat} (h : N ≤ 62) : (2 : Int) ^ N ≤ 2 ^ 62 := by
  have q : (2 : Nat) ^ N ≤ 2 ^ 62 := Nat.pow_le_pow_right (by decide) h
  have e : ((2 ^ N : Nat) : Int) = (2 : Int) ^ N := by rw [Int.natCast_pow]; rfl
  rw [← e]
  omega
theorem DeskAt.kpAt {K : PySem.W.Frag} {H : Hp} {d : Addr} {g : Gk} {N : Nat} {S : Sx} (D : DeskAt K H d g N S) {z : Str} {k : Kp} (e : S.keeps z = some k) : KpOk N k ∧ k.count ≤ 2 ^ 62 ∧ H (g.th z) = some (.lst (k.things.map .str)) ∧ (∃ o, H (g.ko z) = some o ∧ KOd K g.p (g.th z) k o) := by
  obtain ⟨kvs, h1, h2, h3⟩ := D.x.keep
  obtain ⟨e1, e2, e4⟩ := (h3 z).2 k e
  have kp := D.ok.kp z k e
  exact ⟨kp, Int.le_trans kp.c1 (pow62 D.ok.n62), e4, e2⟩
section
variable {P : Program} {w : World} {K : PySem.W.Frag} {mg : Str → Option Value} {base h : Heap}
abbrev N_Desk_made : List Str := ["self", "word", "parts", "one"]
abbrev P_Desk_made : List Str := ["self", "word", "parts"]
theorem sc_Desk_made : FnScope N_Desk_made P_Desk_made (defScope s_Desk_made) := ⟨rfl, rfl, rfl, by decide +kernel, rfl, by decide +kernel, by decide +kernel⟩
theorem ok_Desk_made (T : Tx w K mg h) : Cal P w K mg base 7 (ma K (ga K "Desk") "made") (sp_Desk_made K) := by
  obtain ⟨fd, F⟩ := T.fn_Desk_made
  refine okOf F sc_Desk_made (fun _ _ _ _ _ _ us hl => match us, hl with | [_, _, _], _ => rfl) (fun vs H Q E h => ?_) (fun cdv A outer s H vs Q E hr hsp => ?_)
  · repeat (first | (obtain ⟨h1, _⟩ := h; subst h1; rfl) | (obtain ⟨_, h⟩ := h))
  · obtain ⟨d, a, g, N, S, word, vs', rfl, D, ha, hc⟩ := hsp
    refine ⟨_, (pss_cons (ps_if (pt_cmpR op_eq (pv 1) pe_str (nomark _))
          (pss_one (ps_ret (pc_mk (ok_Drawer_init T).d T.mk_Drawer hr (by decide) T.gl_Drawer pcE (pa_cons (pe_fld (pv 0) rfl) (pa_cons (pe_ix ix_list (pv 2) pe_int (fun _ _ => rfl)) pa_nil)))))
          pss_nil)
        (pss_cons (ps_if (pt_cmpR op_eq (pv 1) pe_str (nomark _))
          (pss_one (ps_ret (pc_mk (ok_Weigher_init T).d T.mk_Weigher hr (by decide) T.gl_Weigher pcE (pa_cons (pe_fld (pv 0) rfl) pa_nil))))
          pss_nil)
        (pss_cons (ps_set (i := 3) sc_Desk_made.nd rfl (Or.inl rfl) (pc_m (ok_Desk_keeper_by T) hr (by decide) (has_Desk_keeper_by T) tkE (pv 0) (pa_cons (pe_ix ix_list (pv 2) pe_int (fun _ _ => rfl)) pa_nil)))
        (pss_cons (ps_if (pt_val (pe_callB call_isi (by rfl) T.fr_isinstance boot_isinstance (pa_cons (pv 3) (pa_cons (C8.pe_gc (v := .ref (He.ga K "Drawer")) (by rfl) ⟨_, T.gl_Drawer, rfl⟩) pa_nil))))
          (pss_one (ps_ret (pc_f (ok_pour_drawers T) hr (by decide) T.gl_pour_drawers tkE (pa_cons (pv 3) (pa_cons (pc_m (ok_Desk_drawer_by T) hr (by decide) (has_Desk_drawer_by T) tkE (pv 0) (pa_cons (pe_ix ix_list (pv 2) pe_int (fun _ _ => rfl)) pa_nil)) (pa_cons (pe_fld (pv 0) rfl) pa_nil))))))
          pss_nil)
        (pss_one (ps_ret (pc_f (ok_pour_weighers T) hr (by decide) T.gl_pour_weighers tkE (pa_cons (pv 3) (pa_cons (pc_m (ok_Desk_weigher_by T) hr (by decide) (has_Desk_weigher_by T) tkE (pv 0) (pa_cons (pe_ix ix_list (pv 2) pe_int (fun _ _ => rfl)) pa_nil)) (pa_cons (pe_fld (pv 0) rfl) pa_nil)))))))))), ?_⟩
    obtain ⟨⟨dx, hd⟩, hP⟩ := D.x.main
    have n62 := D.ok.n62
    have no : ∀ {m : Str}, eks.idxOf? m = none → (ef g.p g.pd g.kd).lookup m = none := fun h => ef_no h
    rcases hc with ⟨z, n, rfl, pa, hn, k0, k1⟩ | ⟨z, rfl, pa, k1⟩ | ⟨z, x, y, rfl, pa, tot, k0, k1⟩
    · obtain ⟨v, e0, rfl⟩ := part1 pa
      refine ⟨_, rfl, rfl, _, rfl, ?_⟩
      rw [show decide (V.str "drawer" = V.str "drawer") = true by decide +kernel]
      refine iteT ⟨_, rfl, T.r_Desk_purse hd ⟨_, rfl, a, _, _, _, rfl, rfl, SqL.of ha, e0, fun o xd no_ nxd xdx => ?_⟩⟩
      have kU : Same H (upd (upd H xd (.own o)) o (.ins (ga K "Drawer") xd [])) := fun b u e => by rw [upd_ne (ne_of_none e no_), upd_ne (ne_of_none e nxd)]; exact e
      refine ⟨o, g.p, xd, n, rfl, upd_same, fun z H' s => k0 (by omega) H' (kU.trans s), fun z t H1 nt h1 h2 f1 => ⟨rfl, ?_⟩⟩
      have kH : Same H H1 := fun b u e => f1 _ _ (kU _ _ e) (ne_of_none e no_)
      have nt0 : H t = none := kU.free nt
      exact k1 (by omega) H1 o t no_ nt0 ⟨_, h1, xd, rfl⟩ h2 (hP.same kH) kH.fr
    · refine ⟨_, rfl, rfl, _, rfl, ?_⟩
      rw [show decide (V.str "weigher" = V.str "drawer") = false by decide +kernel]
      refine iteF ⟨_, rfl, rfl, _, rfl, ?_⟩
      rw [show decide (V.str "weigher" = V.str "weigher") = true by decide +kernel]
      refine iteT ⟨_, rfl, T.r_Desk_purse hd fun o xd no_ nxd xdx => ?_⟩
      have kU : Same H (upd (upd H xd (.own o)) o (.ins (ga K "Weigher") xd [])) := fun b u e => by rw [upd_ne (ne_of_none e no_), upd_ne (ne_of_none e nxd)]; exact e
      refine ⟨o, g.p, xd, rfl, upd_same, fun t H1 nt h1 h2 f1 => ⟨rfl, ?_⟩⟩
      have kH : Same H H1 := fun b u e => f1 _ _ (kU _ _ e) (ne_of_none e no_)
      have nt0 : H t = none := kU.free nt
      exact k1 H1 o t no_ nt0 ⟨_, h1, xd, rfl⟩ h2 (hP.same kH) kH.fr
    · obtain ⟨v1, e1, rfl⟩ := part1 pa
      obtain ⟨v2, e2, rfl⟩ := part2 pa
      refine ⟨_, rfl, rfl, _, rfl, ?_⟩
      rw [show decide (V.str "pour" = V.str "drawer") = false by decide +kernel]
      refine iteF ⟨_, rfl, rfl, _, rfl, ?_⟩
      rw [show decide (V.str "pour" = V.str "weigher") = false by decide +kernel]
      refine iteF ⟨_, rfl, d, _, dx, _, rfl, hd, rfl, no (by decide +kernel), _, rfl, a, _, _, _, rfl, rfl, SqL.of ha, e1, d, g, N, S, x, rfl, D, fun e => k0 _ (pk_no1 e), fun p1 ex => ?_⟩
      obtain ⟨kp1, c1, ht1, o1, ho1, odx1, hk1⟩ := D.kpAt ex
      have c10 := kp1.c0
      have l1 := kp1.ln
      cases em1 : p1.most with
      | some m1 =>
        rw [em1] at hk1
        subst hk1
        obtain ⟨q1, q2, q3⟩ := kp1.dr m1 em1
        refine ⟨_, rfl, _, _, _, _, _, rfl, .own _, .base (.ins ho1 T.cs_Drawer T.xa_Drawer T.xn T.xt T.xm_Drawer), T.ki_Drawer_Drawer, true, rfl, iteT ?_⟩
        refine ⟨_, rfl, _, rfl, d, _, dx, _, rfl, hd, rfl, no (by decide +kernel), _, rfl, a, _, _, _, rfl, rfl, SqL.of ha, e2, d, g, N, S, y, rfl, D, fun e => k0 _ (pk_no2 ex e), fun p2 ey => ⟨fun em2 => k0 _ (pk_mix1 ex ey em1 em2), fun m2 em2 => ?_⟩⟩
        obtain ⟨kp2, c2, ht2, o2, ho2, odx2, hk2⟩ := D.kpAt ey
        have c20 := kp2.c0
        have l2 := kp2.ln
        rw [em2] at hk2
        subst hk2
        obtain ⟨r1, r2, r3⟩ := kp2.dr m2 em2
        refine ⟨_, rfl, T.r_Desk_purse hd ⟨g.ko x, g.ko y, odx1, odx2, g.p, g.p, g.p, g.th x, g.th y, g.l, 60 * N, S.pool, p1.count, p2.count, m1, m2, p1.things, p2.things, rfl, ho1, ht1, ho2, ht2, hP, by omega, c10, c20, by omega, q1, r1, q3, r3, by omega, by omega, fun ne => k0 _ (pk_d0 ex ey em1 em2 ne), fun em => ?_⟩⟩
        subst em
        refine ⟨fun hn => k0 _ (pk_d1 ex ey em1 em2 hn), fun as q' hq H' o odx t no_ nt hP' ho' ht' f => ?_⟩
        exact k1 _ _ (pk_d2 ex ey em1 em2 hq) H' o t no_ nt ⟨_, ho', odx, rfl⟩ ht' hP' f
      | none =>
        rw [em1] at hk1
        subst hk1
        obtain ⟨q1, q2, q3⟩ := kp1.wr em1
        refine ⟨_, rfl, _, _, _, _, _, rfl, .own _, .base (.ins ho1 T.cs_Weigher T.xa_Weigher T.xn T.xt T.xm_Weigher), T.ki_Weigher_Drawer, false, rfl, iteF ?_⟩
        refine ⟨_, rfl, _, rfl, d, _, dx, _, rfl, hd, rfl, no (by decide +kernel), _, rfl, a, _, _, _, rfl, rfl, SqL.of ha, e2, d, g, N, S, y, rfl, D, fun e => k0 _ (pk_no2 ex e), fun p2 ey => ⟨fun em2 => ?_, fun m2 em2 => k0 _ (pk_mix2 ex ey em1 em2)⟩⟩
        obtain ⟨kp2, c2, ht2, o2, ho2, odx2, hk2⟩ := D.kpAt ey
        have c20 := kp2.c0
        have t0 := kp1.t0
        have t20 := kp2.t0
        have tt := tot _ _ ex ey
        rw [em2] at hk2
        subst hk2
        refine ⟨_, rfl, T.r_Desk_purse hd ⟨g.ko x, g.ko y, odx1, odx2, g.p, g.p, g.p, g.th x, g.th y, g.l, 60 * N, S.pool, p1.count, p2.count, p1.total, p2.total, p1.things, p2.things, rfl, ho1, ht1, ho2, ht2, hP, by omega, c10, c20, by omega, fun z1 z2 => ?_, fun hn => k0 _ (pk_w1 ex ey em1 em2 hn), fun q' ths hq H' o odx t no_ nt hP' ho' ht' f => ?_⟩⟩
        · have := q3 z1
          omega
        · exact k1 _ _ (pk_w2 ex ey em1 em2 hq) H' o t no_ nt ⟨_, ho', odx, rfl⟩ ht' hP' f
end
end Ev

set_option Elab.async false
set_option linter.all false
set_option maxRecDepth 100000
set_option maxHeartbeats 2000000
/-! Desk.on_keeper. -/
namespace Ev
open PySem PySem.Spec PyProof.Rows L2 He TL
def Row.word : Row → Str
  | .coins _ => "coins"
  | .draw _ => "draw"
  | .go _ => "go"
  | .program _ _ => "program"
  | .drawer _ _ => "drawer"
  | .weigher _ => "weigher"
  | .see _ _ => "see"
  | .seew _ _ _ => "see"
  | .held _ => "held"
  | .cut _ _ => "cut"
  | .pour _ _ _ => "pour"
def Row.args : Row → List Arg
  | .coins cs => [.bits cs]
  | .draw n => [.num n]
  | .go z => [.nm z]
  | .program z _ => [.nm z]
  | .drawer z n => [.nm z, .num n]
  | .weigher z => [.nm z]
  | .see z t => [.nm z, .nm t]
  | .seew z t n => [.nm z, .nm t, .num n]
  | .held z => [.nm z]
  | .cut z n => [.nm z, .num n]
  | .pour z a b => [.nm z, .nm a, .nm b]
/-- what is asked of a row -/
def RowOk (S : Sx) : Row → Prop
  | .coins cs => Arg.Ok (.bits cs) ∧ cs.length ≤ 60
  | .draw n => n < 10 ^ 12
  | .go z => NameB z = true
  | .program z k => NameB z = true ∧ k < 4
  | .drawer z n => NameB z = true ∧ n < 10 ^ 12
  | .weigher z => NameB z = true
  | .see z t => NameB z = true ∧ NameB t = true
  | .seew z t n => NameB z = true ∧ NameB t = true ∧ n < 10 ^ 12 ∧ ∀ k, S.keeps z = some k → k.total + n ≤ 10 ^ 12
  | .held z => NameB z = true
  | .cut z n => NameB z = true ∧ n < 10 ^ 12
  | .pour z a b => NameB z = true ∧ NameB a = true ∧ NameB b = true ∧ a ≠ b ∧ TotOk S a b
theorem PartsAt.same {H H' : Hp} {as : List Arg} {vs : List V} (h : PartsAt H as vs) (s : Same H H') : PartsAt H' as vs := ⟨h.1, fun i a e => by
  obtain ⟨v, e1, e2⟩ := h.2 i a e
  exact ⟨v, e1, e2.same s⟩⟩
/-- a row that is about a keeper -/
def Row.keepy : Row → Prop
  | .drawer _ _ | .weigher _ | .see _ _ | .seew _ _ _ | .held _ | .cut _ _ | .pour _ _ _ => True
  | _ => False
def sp_Desk_on_keeper (K : PySem.W.Frag) : Sp := fun vs H Q E => ∃ (d a : Addr) (g : Gk) (N : Nat) (S : Sx) (r : Row) (vs' : List V), vs = [.ref d, .str r.word, .ref a] ∧ DeskAt K H d g N S ∧ H a = some (.lst vs') ∧ r.keepy ∧ RowOk S r ∧ PartsAt H r.args vs' ∧ Res K H d g N S r Q E
/-- a keeper changed where it stands -/
theorem DeskAt.keep {K : PySem.W.Frag} {H H' : Hp} {d : Addr} {g : Gk} {N : Nat} {S : Sx} (D : DeskAt K H d g N S) {z : Str} {k k' : Kp} {q' : Pool} {t' : Addr} (e : S.keeps z = some k) (hP : PurseAt K H' g.p g.l (60 * N) q') (hO : ∃ u, H' (g.ko z) = some u ∧ KOd K g.p t' k' u) (hT : H' t' = some (.lst (k'.things.map .str))) (ht : t' = g.th z ∨ H t' = none)
    (f : Fr (fun b => b = g.ko z ∨ b = g.th z ∨ b = g.p) H H') : Next (cD K) H H' d g ⟨g.p, g.l, g.pd, g.kd, setA g.ko z (g.ko z), setA g.th z t'⟩ (N + 1) S { S with pool := q', keeps := setK S.keeps z k' } := by
  obtain ⟨⟨dx, hd⟩, pdx, used, full, hp, hl, _⟩ := D.x.main
  obtain ⟨kvs, h1, h2, h3⟩ := D.x.keep
  obtain ⟨e1, ⟨o, e2, odx, e3⟩, e4⟩ := (h3 z).2 k e
  have nz : S.keeps z ≠ none := by rw [e]; exact fun z => nomatch z
  have dO : d ≠ g.ko z := by
    intro w
    rw [← w, hd] at e2
    have e2 := Option.some.inj e2
    rw [← e2] at e3
    cases em : k.most with
    | none => rw [em] at e3; exact ef_wf e3
    | some m => rw [em] at e3; exact ef_df e3
  have dT : d ≠ g.th z := ne_of hd e4 (by intro w; cases w)
  have dp : d ≠ g.p := ne_of hd hp ef_pf
  have kT : g.kd ≠ g.th z := ne_of h1 e4 (by intro w; cases w)
  have tl : t' ≠ g.l := by
    rcases ht with w | w
    · rw [w]; exact D.x.inj.tl z nz
    · exact (ne_of_none hl w).symm
  refine D.x.putN (cD_ok K) (Nat.le_succ _) ⟨⟨dx, f _ _ hd fun w => ?_⟩, hP.more (by omega)⟩ (f.mono fun b w => ?_) (.inl rfl) (.inl ⟨rfl, nz⟩) (ht.imp (fun w => ⟨w, nz⟩) id) tl h1 (f _ _ h1 fun w => ?_) (Nat.le_succ_of_le h2) (fun m _ => rfl) e1 hO hT
  · rcases w with w | w | w
    · exact dO w
    · exact dT w
    · exact dp w
  · rcases w with w | w | w
    · exact .inr (.inr ⟨nz, .inl w⟩)
    · exact .inr (.inr ⟨nz, .inr w⟩)
    · exact .inl w
  · rcases w with w | w | w
    · exact (D.x.inj.o1 z nz).2.2 w.symm
    · exact kT w
    · exact D.x.inj.pk w.symm
/-- a keeper made and put in -/
theorem DeskAt.made {K : PySem.W.Frag} {H H1 : Hp} {d : Addr} {g : Gk} {N : Nat} {S : Sx} (D : DeskAt K H d g N S) {z : Str} {k' : Kp} {q' : Pool} {o t : Addr} {kvs : List (Key × V)} (h1 : H g.kd = some (.dK kvs)) (no : H o = none) (nt : H t = none) (hO : ∃ u, H1 o = some u ∧ KOd K g.p t k' u) (hT : H1 t = some (.lst (k'.things.map .str))) (hP : PurseAt K H1 g.p g.l (60 * N) q') (f : Fr (fun b => b = g.p) H H1) :
    Next (cD K) H (upd H1 g.kd (.dK (putK kvs (.inr z : Key) (.ref o)))) d g ⟨g.p, g.l, g.pd, g.kd, setA g.ko z o, setA g.th z t⟩ (N + 1) S { S with pool := q', keeps := setK S.keeps z k' } := by
  obtain ⟨⟨dx, hd⟩, pdx, used, full, hp, hl, _⟩ := D.x.main
  obtain ⟨kvs0, g1, g2, g3⟩ := D.x.keep
  rw [h1] at g1
  cases g1
  have dp : d ≠ g.p := ne_of hd hp ef_pf
  have dk : d ≠ g.kd := ne_of hd h1 (by intro w; cases w)
  have tl : t ≠ g.l := (ne_of_none hl nt).symm
  have tk : t ≠ g.kd := (ne_of_none h1 nt).symm
  have ok_ : o ≠ g.kd := (ne_of_none h1 no).symm
  have lk : g.l ≠ g.kd := ne_of hl h1 (by intro w; cases w)
  obtain ⟨u, u1, u2⟩ := hO
  obtain ⟨pdx', used', full', hp', hl', hP3⟩ := hP
  refine D.x.putN (cD_ok K) (Nat.le_succ _) ⟨⟨dx, by rw [upd_ne dk]; exact f _ _ hd dp⟩, PurseAt.more (B := 60 * N) ⟨pdx', used', full', by rw [upd_ne D.x.inj.pk]; exact hp', by rw [upd_ne lk]; exact hl', hP3⟩ (by omega)⟩ ((f.mono fun b w => .inl w).upd (.inl (.inr (.inl rfl)))) (.inl rfl) (.inr no) (.inr nt) tl h1 upd_same
    (Nat.le_trans (DSub.putK_len kvs (.inr z : Key) (.ref o)) (Nat.succ_le_succ g2)) (fun m hm => ?_) ?_ ⟨u, by rw [upd_ne ok_]; exact u1, u2⟩ (by rw [upd_ne tk]; exact hT)
  · rw [valV_put, if_neg fun w => hm (by injection w)]
  · rw [valV_put, if_pos rfl]
theorem DeskAt.stay {K : PySem.W.Frag} {H H' : Hp} {d : Addr} {g : Gk} {N : Nat} {S : Sx} (D : DeskAt K H d g N S) (s : Same H H') : Next (cD K) H H' d g g (N + 1) S S := ⟨(D.x.same (cD_ok K) s).mono (cD_ok K) (Nat.le_succ _), s.fr, fun _ h => .inl h⟩
theorem names_sum : ∀ {zs : List Str}, (∀ z ∈ zs, NameB z = true) → (zs.map (·.length)).sum ≤ 8 * zs.length
  | [], _ => Nat.le_refl _
  | z :: zs, h => by
    have h1 := h z List.mem_cons_self
    have h2 := names_sum fun y hy => h y (List.mem_cons_of_mem _ hy)
    unfold NameB at h1
    have h3 := of_decide_eq_true (Bool.and_eq_true_iff.mp (Bool.and_eq_true_iff.mp h1).1).2
    rw [List.map_cons, List.sum_cons, List.length_cons]
    omega
section
variable {P : Program} {w : World} {K : PySem.W.Frag} {mg : Str → Option Value} {base h : Heap}
abbrev N_Desk_on_keeper : List Str := ["self", "word", "parts", "name"]
abbrev P_Desk_on_keeper : List Str := ["self", "word", "parts"]
theorem sc_Desk_on_keeper : FnScope N_Desk_on_keeper P_Desk_on_keeper (defScope s_Desk_on_keeper) := ⟨rfl, rfl, rfl, by decide +kernel, rfl, by decide +kernel, by decide +kernel⟩
theorem ok_Desk_on_keeper (T : Tx w K mg h) : Cal P w K mg base 8 (ma K (ga K "Desk") "on_keeper") (sp_Desk_on_keeper K) := by
  obtain ⟨fd, F⟩ := T.fn_Desk_on_keeper
  refine okOf F sc_Desk_on_keeper (fun _ _ _ _ _ _ us hl => match us, hl with | [_, _, _], _ => rfl) (fun vs H Q E h => ?_) (fun cdv A outer s H vs Q E hr hsp => ?_)
  · repeat (first | (obtain ⟨h1, _⟩ := h; subst h1; rfl) | (obtain ⟨_, h⟩ := h))
  · obtain ⟨d, a, g, N, S, r, vs', rfl, D, ha, hky, ok, pa, R⟩ := hsp
    refine ⟨_, (pss_cons (ps_if (pt_cmpR op_eq (pv 1) pe_str (nomark _))
          (pss_one (ps_ret (pe_join pe_str (pc_m0 (ok_Keeper_held T) hr (by decide) (has_held T) tkE (pc_m (ok_Desk_keeper_by T) hr (by decide) (has_Desk_keeper_by T) tkE (pv 0) (pa_cons (pe_ix ix_list (pv 2) pe_int (fun _ _ => rfl)) pa_nil))))))
          pss_nil)
        (pss_cons (ps_if (pt_cmpR op_eq (pv 1) pe_str (nomark _))
          (pss_one (ps_expr (pc_m (ok_Drawer_cut T) hr (by decide) (has_Drawer_cut T) tkE (pc_m (ok_Desk_drawer_by T) hr (by decide) (has_Desk_drawer_by T) tkE (pv 0) (pa_cons (pe_ix ix_list (pv 2) pe_int (fun _ _ => rfl)) pa_nil)) (pa_cons (pe_ix ix_list (pv 2) pe_int (fun _ _ => rfl)) pa_nil))))
          (pss_one (ps_if (PW.pt (pw_and (pt_cmpR op_eq (pv 1) pe_str (nomark _)) (pw_and1 (pt_cmpR op_eq (pe_callB call_len_seq (by rfl) T.fr_len boot_len (pa_cons (pv 2) pa_nil)) pe_int (nomark _)))))
            (pss_one (ps_expr (pc_m (ok_Drawer_see T) hr (by decide) (has_Drawer_see T) tkE (pc_m (ok_Desk_drawer_by T) hr (by decide) (has_Desk_drawer_by T) tkE (pv 0) (pa_cons (pe_ix ix_list (pv 2) pe_int (fun _ _ => rfl)) pa_nil)) (pa_cons (pc_f (ok_named T) hr (by decide) T.gl_named tkE (pa_cons (pe_ix ix_list (pv 2) pe_int (fun _ _ => rfl)) pa_nil)) pa_nil))))
            (pss_one (ps_if (pt_cmpR op_eq (pv 1) pe_str (nomark _))
              (pss_one (ps_expr (pc_m (ok_Weigher_see T) hr (by decide) (has_Weigher_see T) tkE (pc_m (ok_Desk_weigher_by T) hr (by decide) (has_Desk_weigher_by T) tkE (pv 0) (pa_cons (pe_ix ix_list (pv 2) pe_int (fun _ _ => rfl)) pa_nil)) (pa_cons (pc_f (ok_named T) hr (by decide) T.gl_named tkE (pa_cons (pe_ix ix_list (pv 2) pe_int (fun _ _ => rfl)) pa_nil)) (pa_cons (pe_ix ix_list (pv 2) pe_int (fun _ _ => rfl)) pa_nil)))))
              (pss_cons (ps_set (i := 3) sc_Desk_on_keeper.nd rfl (Or.inl rfl) (pc_f (ok_named T) hr (by decide) T.gl_named tkE (pa_cons (pe_ix ix_list (pv 2) pe_int (fun _ _ => rfl)) pa_nil)))
              (pss_one (ps_dput (hu_of hr) (pe_fld (pv 0) rfl) (pv 3) (pc_m (ok_Desk_made T) hr (by decide) (has_Desk_made T) tkE (pv 0) (pa_cons (pv 1) (pa_cons (pv 2) pa_nil))) rfl))))))))
        (pss_one (ps_ret pe_str)))), ?_⟩
    obtain ⟨⟨dx, hd⟩, hP⟩ := D.x.main
    obtain ⟨pdx, used, full, hp, hl, hP2⟩ := id hP
    have n62 := D.ok.n62
    have no : ∀ {m : Str}, eks.idxOf? m = none → (ef g.p g.pd g.kd).lookup m = none := fun h => ef_no h
    -- self.keepers[name] = ..
    obtain ⟨kvs, hk1, hk2, _⟩ := id D.x.keep
    have fin : ∀ {H1 H' : Hp} {z : Str} {q' : Pool} {k' : Kp} {o t : Addr}, Same H H1 → (∀ H' g', Next (cD K) H1 H' d g g' (N + 1) S { S with pool := q', keeps := setK S.keeps z k' } → Q (.str "ok") H') → H1 o = none → H1 t = none → (∃ u, H' o = some u ∧ KOd K g.p t k' u) → H' t = some (.lst (k'.things.map .str)) → PurseAt K H' g.p g.l (60 * N) q' → Fr (fun b => b = g.p) H1 H' →
        H' d = some (.ins (ga K "Desk") dx (ef g.p g.pd g.kd)) ∧ H' g.kd = some (.dK kvs) ∧ Q (.str "ok") (upd H' g.kd (.dK (putK kvs (.inr z : Key) (.ref o)))) := fun s1 hres no_ nt hO hT hP' f =>
      ⟨f _ _ (s1 _ _ hd) (ne_of hd hp ef_pf), f _ _ (s1 _ _ hk1) D.x.inj.pk.symm, hres _ _ ((D.same s1).made (s1 _ _ hk1) no_ nt hO hT hP' f)⟩
    cases r with
    | coins cs => exact hky.elim
    | draw n => exact hky.elim
    | go z => exact hky.elim
    | program z k => exact hky.elim
    | held z =>
      obtain ⟨v, e0, rfl⟩ := part0 pa
      refine ⟨_, rfl, rfl, _, rfl, ?_⟩
      rw [show decide (V.str (Row.held z).word = V.str "held") = true from (by decide +kernel : decide (V.str "held" = V.str "held") = true)]
      refine iteT ⟨⟨_, rfl⟩, _, rfl, d, _, dx, _, rfl, hd, rfl, no (by decide +kernel), _, rfl, a, _, _, _, rfl, rfl, SqL.of ha, e0, d, g, N, S, z, rfl, D, fun e => R.ex _ _ (st_held0 e), fun k e => ?_⟩
      obtain ⟨kp, c1, ht, o, ho, odx, hk⟩ := D.kpAt e
      have ln := kp.ln
      have nsum := names_sum kp.nm
      have fin : ∀ r, H r = none → (k.things.map (·.length)).sum + k.things.length * Str.length " " ≤ 16777216 ∧ Q (.str (Txt.join " " k.things)) (upd H r (.lst (k.things.map .str))) := fun r nr => ⟨by
        rw [show Str.length " " = 1 by decide +kernel]
        omega, R.ok _ _ (st_held1 e) _ _ (D.stay ((Same.refl H).upd nr))⟩
      cases em : k.most with
      | none =>
        rw [em] at hk
        subst hk
        exact ⟨_, _, odx, _, rfl, ho, .inr rfl, wf_no (by decide +kernel), _, odx, g.p, g.th z, k.count, k.total, _, rfl, .inr ho, ht, fun r nr => ⟨_, r, k.things, rfl, rfl, .inl (SqL.of upd_same), (fin r nr).1, (fin r nr).2⟩⟩
      | some m =>
        rw [em] at hk
        subst hk
        exact ⟨_, _, odx, _, rfl, ho, .inl rfl, df_no (by decide +kernel), _, odx, g.p, g.th z, k.count, m, _, rfl, .inl ho, ht, fun r nr => ⟨_, r, k.things, rfl, rfl, .inl (SqL.of upd_same), (fin r nr).1, (fin r nr).2⟩⟩
    | cut z n =>
      obtain ⟨v, e0, rfl⟩ := part0 pa
      obtain ⟨v1, e1, rfl⟩ := part1 pa
      refine ⟨_, rfl, rfl, _, rfl, ?_⟩
      rw [show decide (V.str (Row.cut z n).word = V.str "held") = false from (by decide +kernel : decide (V.str "cut" = V.str "held") = false)]
      refine iteF ⟨_, rfl, rfl, _, rfl, ?_⟩
      rw [show decide (V.str (Row.cut z n).word = V.str "cut") = true from (by decide +kernel : decide (V.str "cut" = V.str "cut") = true)]
      refine iteT ⟨_, rfl, d, _, dx, _, rfl, hd, rfl, no (by decide +kernel), _, rfl, a, _, _, _, rfl, rfl, SqL.of ha, e0, d, g, N, S, z, rfl, D, fun e => R.ex _ _ (st_cut0 e), fun k e => ⟨fun em => R.ex _ _ (st_cut1 e em), fun m em => ?_⟩⟩
      obtain ⟨kp, c1, ht, o, ho, odx, hk⟩ := D.kpAt e
      have ln := kp.ln
      obtain ⟨q1, q2, q3⟩ := kp.dr m em
      rw [em] at hk
      subst hk
      have nz : S.keeps z ≠ none := by rw [e]; exact fun z => nomatch z
      refine ⟨_, _, odx, _, rfl, ho, rfl, df_no (by decide +kernel), _, rfl, a, _, _, _, rfl, rfl, SqL.of ha, e1, ?_⟩
      refine ⟨g.ko z, odx, g.p, g.th z, g.l, 60 * N, S.pool, k.count, m, n, k.things, rfl, ho, ht, hP, by omega, D.x.inj.tl z nz, by omega, fun w => R.ex _ _ (st_cut2 e em w), by omega, fun w => ⟨fun hn => R.ex _ _ (st_cut3 e em w hn), fun as q' hq H' hP' ho' ht' f => ?_⟩⟩
      exact R.ok _ _ (st_cut4 e em w hq) H' _ (D.keep e hP' ⟨_, ho', odx, rfl⟩ ht' (.inl rfl) f)
    | see z t =>
      obtain ⟨nz_, nt_⟩ := ok
      obtain ⟨v, e0, rfl⟩ := part0 pa
      obtain ⟨v1, e1, rfl⟩ := part1 pa
      refine ⟨_, rfl, rfl, _, rfl, ?_⟩
      rw [show decide (V.str (Row.see z t).word = V.str "held") = false from (by decide +kernel : decide (V.str "see" = V.str "held") = false)]
      refine iteF ⟨_, rfl, rfl, _, rfl, ?_⟩
      rw [show decide (V.str (Row.see z t).word = V.str "cut") = false from (by decide +kernel : decide (V.str "see" = V.str "cut") = false)]
      refine iteF ⟨_, rfl, rfl, _, rfl, ?_⟩
      rw [show decide (V.str (Row.see z t).word = V.str "see") = true from (by decide +kernel : decide (V.str "see" = V.str "see") = true)]
      refine iteT ⟨_, rfl, _, _, rfl, .inl (SqL.of ha), rfl, _, rfl, ?_⟩
      rw [pa.1]
      refine iteT ⟨_, rfl, d, _, dx, _, rfl, hd, rfl, no (by decide +kernel), _, rfl, a, _, _, _, rfl, rfl, SqL.of ha, e0, d, g, N, S, z, rfl, D, fun e => R.ex _ _ (st_see0 e), fun k e => ⟨fun em => R.ex _ _ (st_see1 e em), fun m em => ?_⟩⟩
      obtain ⟨kp, c1, ht, o, ho, odx, hk⟩ := D.kpAt e
      have ln := kp.ln
      have c0 := kp.c0
      obtain ⟨q1, q2, q3⟩ := kp.dr m em
      rw [em] at hk
      subst hk
      have nz : S.keeps z ≠ none := by rw [e]; exact fun z => nomatch z
      refine ⟨_, _, odx, _, rfl, ho, rfl, df_no (by decide +kernel), _, rfl, a, _, _, _, rfl, rfl, SqL.of ha, e1, t, rfl, nt_, fun H1 s1 => ?_⟩
      refine ⟨g.ko z, odx, g.p, g.th z, g.l, 60 * N, S.pool, k.count, m, k.things, t, rfl, s1 _ _ ho, s1 _ _ ht, hP.same s1, by omega, D.x.inj.tl z nz, c0, by omega, q1, q3, by omega, fun hn => (R.ex _ _ (st_see2 e em hn)).mono s1, fun q' ths' hq H' hP' ho' ht' f => ?_⟩
      exact R.ok _ _ (st_see3 e em hq) H' _ (((D.same s1).keep e hP' ⟨_, ho', odx, rfl⟩ ht' (.inl rfl) f).from s1)
    | seew z t n =>
      obtain ⟨nz_, nt_, n12, tot⟩ := ok
      obtain ⟨v, e0, rfl⟩ := part0 pa
      obtain ⟨v1, e1, rfl⟩ := part1 pa
      obtain ⟨v2, e2, rfl⟩ := part2 pa
      refine ⟨_, rfl, rfl, _, rfl, ?_⟩
      rw [show decide (V.str (Row.seew z t n).word = V.str "held") = false from (by decide +kernel : decide (V.str "see" = V.str "held") = false)]
      refine iteF ⟨_, rfl, rfl, _, rfl, ?_⟩
      rw [show decide (V.str (Row.seew z t n).word = V.str "cut") = false from (by decide +kernel : decide (V.str "see" = V.str "cut") = false)]
      refine iteF ⟨_, rfl, rfl, _, rfl, ?_⟩
      rw [show decide (V.str (Row.seew z t n).word = V.str "see") = true from (by decide +kernel : decide (V.str "see" = V.str "see") = true)]
      refine iteT ⟨_, rfl, _, _, rfl, .inl (SqL.of ha), rfl, _, rfl, ?_⟩
      rw [pa.1]
      refine iteF ⟨_, rfl, rfl, _, rfl, ?_⟩
      rw [show decide (V.str (Row.seew z t n).word = V.str "see") = true from (by decide +kernel : decide (V.str "see" = V.str "see") = true)]
      refine iteT ⟨_, rfl, d, _, dx, _, rfl, hd, rfl, no (by decide +kernel), _, rfl, a, _, _, _, rfl, rfl, SqL.of ha, e0, d, g, N, S, z, rfl, D, fun e => R.ex _ _ (st_seew0 e), fun k e => ⟨fun em => ?_, fun m em => R.ex _ _ (st_seew1 e em)⟩⟩
      obtain ⟨kp, c1, ht, o, ho, odx, hk⟩ := D.kpAt e
      have ln := kp.ln
      have c0 := kp.c0
      have t0 := kp.t0
      have tt := tot k e
      rw [em] at hk
      subst hk
      refine ⟨_, _, odx, _, rfl, ho, rfl, wf_no (by decide +kernel), _, rfl, a, _, _, _, rfl, rfl, SqL.of ha, e1, t, rfl, nt_, fun H1 s1 => ?_⟩
      refine ⟨_, rfl, a, _, _, _, rfl, rfl, SqL.of (s1 _ _ ha), e2, ?_⟩
      refine ⟨g.ko z, odx, g.p, g.th z, g.l, 60 * N, S.pool, k.count, k.total, n, k.things, t, rfl, s1 _ _ ho, s1 _ _ ht, hP.same s1, by omega, c0, t0, by omega, fun w => ?_, fun w => ⟨fun hn => (R.ex _ _ (st_seew3 e em (by omega) hn)).mono s1, fun q' ths' hq H' t' ht' hP' ho' hT f => ?_⟩⟩
      · have : n = 0 := by omega
        subst this
        exact (R.ex _ _ (st_seew2 e em)).mono s1
      · refine R.ok _ _ (st_seew4 e em (by omega) hq) H' _ (((D.same s1).keep e hP' ⟨_, ho', odx, rfl⟩ hT ht' (f.mono fun b w => ?_)).from s1)
        rcases w with w | w
        · exact .inl w
        · exact .inr (.inr w)
    | drawer z n =>
      obtain ⟨v, e0, rfl⟩ := part0 pa
      refine ⟨_, rfl, rfl, _, rfl, ?_⟩
      rw [show decide (V.str (Row.drawer z n).word = V.str "held") = false from (by decide +kernel : decide (V.str "drawer" = V.str "held") = false)]
      refine iteF ⟨_, rfl, rfl, _, rfl, ?_⟩
      rw [show decide (V.str (Row.drawer z n).word = V.str "cut") = false from (by decide +kernel : decide (V.str "drawer" = V.str "cut") = false)]
      refine iteF ⟨_, rfl, rfl, _, rfl, ?_⟩
      rw [show decide (V.str (Row.drawer z n).word = V.str "see") = false from (by decide +kernel : decide (V.str "drawer" = V.str "see") = false)]
      refine iteF (iteF ⟨_, rfl, rfl, _, rfl, ?_⟩)
      rw [show decide (V.str (Row.drawer z n).word = V.str "see") = false from (by decide +kernel : decide (V.str "drawer" = V.str "see") = false)]
      refine iteF ⟨_, rfl, a, _, _, _, rfl, rfl, SqL.of ha, e0, z, rfl, ok.1, fun H1 s1 => ?_⟩
      have pa1 := PartsAt.same pa s1
      refine ⟨_, rfl, d, _, dx, _, rfl, s1 _ _ hd, rfl, no (by decide +kernel), _, rfl, _, rfl, d, a, g, N, S, _, vs', rfl, D.same s1, s1 _ _ ha, .inl ⟨z, n, rfl, pa1, ok.2, fun w => ?_, fun w => ?_⟩⟩
      · subst w
        exact (R.ex _ _ st_drawer0).mono s1
      · exact fun H' o t no_ nt hO hT hP' f => by
          obtain ⟨a1, a2, a3⟩ := fin (z := z) s1 (fun H' g' nx => R.ok _ _ (st_drawer1 w) H' g' (nx.from s1)) no_ nt hO hT hP' f
          exact ⟨_, rfl, T.r_Desk_keepers a1 ⟨_, rfl, g.kd, _, rfl, DPut.k (k := Sum.inr z) a2 (by rw [sizeLine_eq]; omega), a3⟩⟩
    | weigher z =>
      obtain ⟨v, e0, rfl⟩ := part0 pa
      refine ⟨_, rfl, rfl, _, rfl, ?_⟩
      rw [show decide (V.str (Row.weigher z).word = V.str "held") = false from (by decide +kernel : decide (V.str "weigher" = V.str "held") = false)]
      refine iteF ⟨_, rfl, rfl, _, rfl, ?_⟩
      rw [show decide (V.str (Row.weigher z).word = V.str "cut") = false from (by decide +kernel : decide (V.str "weigher" = V.str "cut") = false)]
      refine iteF ⟨_, rfl, rfl, _, rfl, ?_⟩
      rw [show decide (V.str (Row.weigher z).word = V.str "see") = false from (by decide +kernel : decide (V.str "weigher" = V.str "see") = false)]
      refine iteF (iteF ⟨_, rfl, rfl, _, rfl, ?_⟩)
      rw [show decide (V.str (Row.weigher z).word = V.str "see") = false from (by decide +kernel : decide (V.str "weigher" = V.str "see") = false)]
      refine iteF ⟨_, rfl, a, _, _, _, rfl, rfl, SqL.of ha, e0, z, rfl, ok, fun H1 s1 => ?_⟩
      have pa1 := PartsAt.same pa s1
      refine ⟨_, rfl, d, _, dx, _, rfl, s1 _ _ hd, rfl, no (by decide +kernel), _, rfl, _, rfl, d, a, g, N, S, _, vs', rfl, D.same s1, s1 _ _ ha, .inr (.inl ⟨z, rfl, pa1, ?_⟩)⟩
      exact fun H' o t no_ nt hO hT hP' f => by
          obtain ⟨a1, a2, a3⟩ := fin (z := z) s1 (fun H' g' nx => R.ok _ _ rfl H' g' (nx.from s1)) no_ nt hO hT hP' f
          exact ⟨_, rfl, T.r_Desk_keepers a1 ⟨_, rfl, g.kd, _, rfl, DPut.k (k := Sum.inr z) a2 (by rw [sizeLine_eq]; omega), a3⟩⟩
    | pour z x y =>
      obtain ⟨v, e0, rfl⟩ := part0 pa
      refine ⟨_, rfl, rfl, _, rfl, ?_⟩
      rw [show decide (V.str (Row.pour z x y).word = V.str "held") = false from (by decide +kernel : decide (V.str "pour" = V.str "held") = false)]
      refine iteF ⟨_, rfl, rfl, _, rfl, ?_⟩
      rw [show decide (V.str (Row.pour z x y).word = V.str "cut") = false from (by decide +kernel : decide (V.str "pour" = V.str "cut") = false)]
      refine iteF ⟨_, rfl, rfl, _, rfl, ?_⟩
      rw [show decide (V.str (Row.pour z x y).word = V.str "see") = false from (by decide +kernel : decide (V.str "pour" = V.str "see") = false)]
      refine iteF (iteF ⟨_, rfl, rfl, _, rfl, ?_⟩)
      rw [show decide (V.str (Row.pour z x y).word = V.str "see") = false from (by decide +kernel : decide (V.str "pour" = V.str "see") = false)]
      refine iteF ⟨_, rfl, a, _, _, _, rfl, rfl, SqL.of ha, e0, z, rfl, ok.1, fun H1 s1 => ?_⟩
      have pa1 := PartsAt.same pa s1
      refine ⟨_, rfl, d, _, dx, _, rfl, s1 _ _ hd, rfl, no (by decide +kernel), _, rfl, _, rfl, d, a, g, N, S, _, vs', rfl, D.same s1, s1 _ _ ha, .inr (.inr ⟨z, x, y, rfl, pa1, ok.2.2.2.2, fun e he => (R.ex _ _ (st_pour0 he)).mono s1, fun q k hk => ?_⟩)⟩
      exact fun H' o t no_ nt hO hT hP' f => by
          obtain ⟨a1, a2, a3⟩ := fin (z := z) s1 (fun H' g' nx => R.ok _ _ (st_pour1 hk) H' g' (nx.from s1)) no_ nt hO hT hP' f
          exact ⟨_, rfl, T.r_Desk_keepers a1 ⟨_, rfl, g.kd, _, rfl, DPut.k (k := Sum.inr z) a2 (by rw [sizeLine_eq]; omega), a3⟩⟩
end
end Ev

set_option Elab.async false
set_option linter.all false
set_option maxRecDepth 100000
set_option maxHeartbeats 2000000
/-! Desk.say. -/
namespace Ev
open PySem PySem.Spec PyProof.Rows L2 He TL
/-- a row's words -/
def Row.words : Row → List Str
  | .program z k => "program" :: z :: tws k
  | r => r.word :: r.args.map Arg.word
def Row.text (r : Row) : Str := Txt.join " " r.words
/-- no blank -/
def Nb (z : Str) : Prop := 32 ∉ z.cps.toList
theorem nb_name {z : Str} (h : NameB z = true) : Nb z := fun hm => by
  unfold NameB at h
  have q := of_decide_eq_true (List.all_eq_true.mp (Bool.and_eq_true_iff.mp h).2 32 hm)
  exact absurd q (by decide +kernel)
theorem nb_num (n : Nat) : Nb (num n) := by
  unfold Nb
  rw [num_tl]
  exact numL_free (.inl (by decide))
theorem nb_bits {cs : List Int} : Nb (bits cs) := by
  unfold Nb
  rw [bits_tl]
  intro h
  obtain ⟨c, _, e⟩ := List.mem_map.mp h
  omega
theorem nb_word (r : Row) : Nb r.word := by
  cases r with
  | coins cs => exact (by decide +kernel : 32 ∉ ("coins" : Str).cps.toList)
  | draw n => exact (by decide +kernel : 32 ∉ ("draw" : Str).cps.toList)
  | go z => exact (by decide +kernel : 32 ∉ ("go" : Str).cps.toList)
  | program z k => exact (by decide +kernel : 32 ∉ ("program" : Str).cps.toList)
  | drawer z n => exact (by decide +kernel : 32 ∉ ("drawer" : Str).cps.toList)
  | weigher z => exact (by decide +kernel : 32 ∉ ("weigher" : Str).cps.toList)
  | see z t => exact (by decide +kernel : 32 ∉ ("see" : Str).cps.toList)
  | seew z t n => exact (by decide +kernel : 32 ∉ ("see" : Str).cps.toList)
  | held z => exact (by decide +kernel : 32 ∉ ("held" : Str).cps.toList)
  | cut z n => exact (by decide +kernel : 32 ∉ ("cut" : Str).cps.toList)
  | pour z a b => exact (by decide +kernel : 32 ∉ ("pour" : Str).cps.toList)
theorem blank_tl : (" " : Str).cps.toList = 32 :: [] := by decide +kernel
theorem split_words {ws : List Str} (h : ws ≠ []) (hn : ∀ z ∈ ws, Nb z) : Txt.split (Txt.join " " ws) " " = ws := split_join blank_tl (by decide +kernel) h hn
theorem join_cons (a b : Str) (ws : List Str) : Txt.join " " (a :: b :: ws) = a ++ " " ++ Txt.join " " (b :: ws) := by
  rw [join_eq, join_eq]
  rfl
theorem join_one (a : Str) : Txt.join " " [a] = a := by
  rw [join_eq]
  rfl
theorem part_words {a b : Str} {ws : List Str} (h : Nb a) : Txt.partition (Txt.join " " (a :: b :: ws)) " " = (a, (" " : Str), Txt.join " " (b :: ws)) := by
  rw [join_cons]
  exact partition_app blank_tl h
/-- the argument's words are free of blanks -/
theorem args_nb {S : Sx} {r : Row} (ok : RowOk S r) : ∀ a ∈ r.args, Nb a.word := by
  intro a h
  cases r with
  | coins cs => rw [List.mem_singleton.mp h]; exact nb_bits
  | draw n => rw [List.mem_singleton.mp h]; exact nb_num n
  | go z => rw [List.mem_singleton.mp h]; exact nb_name ok
  | program z k => rw [List.mem_singleton.mp h]; exact nb_name ok.1
  | drawer z n =>
    rcases List.mem_cons.mp h with h | h
    · rw [h]; exact nb_name ok.1
    · rw [List.mem_singleton.mp h]; exact nb_num n
  | weigher z => rw [List.mem_singleton.mp h]; exact nb_name ok
  | see z t =>
    rcases List.mem_cons.mp h with h | h
    · rw [h]; exact nb_name ok.1
    · rw [List.mem_singleton.mp h]; exact nb_name ok.2
  | seew z t n =>
    rcases List.mem_cons.mp h with h | h
    · rw [h]; exact nb_name ok.1
    · rcases List.mem_cons.mp h with h | h
      · rw [h]; exact nb_name ok.2.1
      · rw [List.mem_singleton.mp h]; exact nb_num n
  | held z => rw [List.mem_singleton.mp h]; exact nb_name ok
  | cut z n =>
    rcases List.mem_cons.mp h with h | h
    · rw [h]; exact nb_name ok.1
    · rw [List.mem_singleton.mp h]; exact nb_num n
  | pour z x y =>
    rcases List.mem_cons.mp h with h | h
    · rw [h]; exact nb_name ok.1
    · rcases List.mem_cons.mp h with h | h
      · rw [h]; exact nb_name ok.2.1
      · rw [List.mem_singleton.mp h]; exact nb_name ok.2.2.1
theorem args_ok {S : Sx} {r : Row} (ok : RowOk S r) : ∀ a ∈ r.args, a.Ok := by
  intro a h
  cases r with
  | coins cs => rw [List.mem_singleton.mp h]; exact ok.1
  | draw n => rw [List.mem_singleton.mp h]; exact ok
  | go z => rw [List.mem_singleton.mp h]; trivial
  | program z k => rw [List.mem_singleton.mp h]; trivial
  | drawer z n =>
    rcases List.mem_cons.mp h with h | h
    · rw [h]; trivial
    · rw [List.mem_singleton.mp h]; exact ok.2
  | weigher z => rw [List.mem_singleton.mp h]; trivial
  | see z t =>
    rcases List.mem_cons.mp h with h | h
    · rw [h]; trivial
    · rw [List.mem_singleton.mp h]; trivial
  | seew z t n =>
    rcases List.mem_cons.mp h with h | h
    · rw [h]; trivial
    · rcases List.mem_cons.mp h with h | h
      · rw [h]; trivial
      · rw [List.mem_singleton.mp h]; exact ok.2.2.1
  | held z => rw [List.mem_singleton.mp h]; trivial
  | cut z n =>
    rcases List.mem_cons.mp h with h | h
    · rw [h]; trivial
    · rw [List.mem_singleton.mp h]; exact ok.2
  | pour z x y =>
    rcases List.mem_cons.mp h with h | h
    · rw [h]; trivial
    · rcases List.mem_cons.mp h with h | h
      · rw [h]; trivial
      · rw [List.mem_singleton.mp h]; trivial
/-- a row of words, program apart -/
def Row.plain : Row → Prop
  | .program _ _ => False
  | _ => True
theorem kinds_at {i : Nat} {x y : Str} (h : kindsV[i]? = some (x, Dv.str y)) : (x, Dv.str y) ∈ kindsV := List.mem_of_getElem? h
theorem kind_ok {r : Row} (h : r.plain) : KindOk r.word r.args := by
  cases r with
  | program z k => exact h.elim
  | coins cs => exact .inr ⟨(by decide +kernel : ("coins" : Str) ≠ "see"), by rw [show kstr (Row.coins cs).args = "c" from (by decide +kernel : (⟨#[99]⟩ : Str) = "c")]; exact kinds_at (i := 3) rfl⟩
  | draw n => exact .inr ⟨(by decide +kernel : ("draw" : Str) ≠ "see"), by rw [show kstr (Row.draw n).args = "w" from (by decide +kernel : (⟨#[119]⟩ : Str) = "w")]; exact kinds_at (i := 5) rfl⟩
  | go z => exact .inr ⟨(by decide +kernel : ("go" : Str) ≠ "see"), by rw [show kstr (Row.go z).args = "n" from (by decide +kernel : (⟨#[110]⟩ : Str) = "n")]; exact kinds_at (i := 4) rfl⟩
  | drawer z n => exact .inr ⟨(by decide +kernel : ("drawer" : Str) ≠ "see"), by rw [show kstr (Row.drawer z n).args = "nw" from (by decide +kernel : (⟨#[110, 119]⟩ : Str) = "nw")]; exact kinds_at (i := 7) rfl⟩
  | weigher z => exact .inr ⟨(by decide +kernel : ("weigher" : Str) ≠ "see"), by rw [show kstr (Row.weigher z).args = "n" from (by decide +kernel : (⟨#[110]⟩ : Str) = "n")]; exact kinds_at (i := 8) rfl⟩
  | see z t => exact .inl ⟨rfl, .inl ⟨(by decide +kernel : (⟨#[110, 110]⟩ : Str) = "nn"), rfl⟩⟩
  | seew z t n => exact .inl ⟨rfl, .inr ⟨(by decide +kernel : (⟨#[110, 110, 119]⟩ : Str) = "nnw"), rfl⟩⟩
  | held z => exact .inr ⟨(by decide +kernel : ("held" : Str) ≠ "see"), by rw [show kstr (Row.held z).args = "n" from (by decide +kernel : (⟨#[110]⟩ : Str) = "n")]; exact kinds_at (i := 9) rfl⟩
  | cut z n => exact .inr ⟨(by decide +kernel : ("cut" : Str) ≠ "see"), by rw [show kstr (Row.cut z n).args = "nw" from (by decide +kernel : (⟨#[110, 119]⟩ : Str) = "nw")]; exact kinds_at (i := 11) rfl⟩
  | pour z x y => exact .inr ⟨(by decide +kernel : ("pour" : Str) ≠ "see"), by rw [show kstr (Row.pour z x y).args = "nnn" from (by decide +kernel : (⟨#[110, 110, 110]⟩ : Str) = "nnn")]; exact kinds_at (i := 10) rfl⟩
theorem join_len : ∀ ws : List Str, (Txt.join " " ws).length ≤ (ws.map (·.length)).sum + ws.length
  | [] => by
    rw [join_eq]
    exact Nat.zero_le _
  | [a] => by
    rw [join_one]
    show a.length ≤ a.length + 0 + 1
    omega
  | a :: b :: ws => by
    have ih := join_len (b :: ws)
    rw [join_cons, len_tl, tl_append, tl_append, List.length_append, List.length_append, ← len_tl, ← len_tl, ← len_tl, List.map_cons, List.sum_cons, List.length_cons]
    have : (" " : Str).length = 1 := by decide +kernel
    omega
theorem sum_le {B : Nat} : ∀ {ws : List Str}, (∀ z ∈ ws, z.length ≤ B) → (ws.map (·.length)).sum ≤ B * ws.length
  | [], _ => Nat.zero_le _
  | z :: zs, h => by
    have h1 := h z List.mem_cons_self
    have h2 := sum_le fun y hy => h y (List.mem_cons_of_mem _ hy)
    rw [List.map_cons, List.sum_cons, List.length_cons, Nat.mul_succ]
    omega
theorem name_len {z : Str} (h : NameB z = true) : z.length ≤ 8 := by
  unfold NameB at h
  exact of_decide_eq_true (Bool.and_eq_true_iff.mp (Bool.and_eq_true_iff.mp h).1).2
theorem num_len12 {n : Nat} (h : n < 10 ^ 12) : (num n).length ≤ 12 := by
  rw [num_len]
  exact numL_len (by decide) h
theorem word_len (r : Row) : r.word.length ≤ 10 := by
  cases r with
  | coins cs => exact (by decide +kernel : ("coins" : Str).length ≤ 10)
  | draw n => exact (by decide +kernel : ("draw" : Str).length ≤ 10)
  | go z => exact (by decide +kernel : ("go" : Str).length ≤ 10)
  | program z k => exact (by decide +kernel : ("program" : Str).length ≤ 10)
  | drawer z n => exact (by decide +kernel : ("drawer" : Str).length ≤ 10)
  | weigher z => exact (by decide +kernel : ("weigher" : Str).length ≤ 10)
  | see z t => exact (by decide +kernel : ("see" : Str).length ≤ 10)
  | seew z t n => exact (by decide +kernel : ("see" : Str).length ≤ 10)
  | held z => exact (by decide +kernel : ("held" : Str).length ≤ 10)
  | cut z n => exact (by decide +kernel : ("cut" : Str).length ≤ 10)
  | pour z a b => exact (by decide +kernel : ("pour" : Str).length ≤ 10)
theorem args_len {S : Sx} {r : Row} (ok : RowOk S r) : r.args.length ≤ 3 ∧ ∀ a ∈ r.args, a.word.length ≤ 60 := by
  have nm : ∀ {z : Str}, NameB z = true → (Arg.nm z).word.length ≤ 60 := fun h => Nat.le_trans (name_len h) (by decide)
  have nb : ∀ {n : Nat}, n < 10 ^ 12 → (Arg.num n).word.length ≤ 60 := fun h => Nat.le_trans (num_len12 h) (by decide)
  cases r with
  | coins cs => exact ⟨of_decide_eq_true rfl, fun a h => by rw [List.mem_singleton.mp h]; show (bits cs).length ≤ 60; rw [bits_len]; exact ok.2⟩
  | draw n => exact ⟨of_decide_eq_true rfl, fun a h => by rw [List.mem_singleton.mp h]; exact nb ok⟩
  | go z => exact ⟨of_decide_eq_true rfl, fun a h => by rw [List.mem_singleton.mp h]; exact nm ok⟩
  | program z k => exact ⟨of_decide_eq_true rfl, fun a h => by rw [List.mem_singleton.mp h]; exact nm ok.1⟩
  | drawer z n =>
    refine ⟨of_decide_eq_true rfl, fun a h => ?_⟩
    rcases List.mem_cons.mp h with h | h
    · rw [h]; exact nm ok.1
    · rw [List.mem_singleton.mp h]; exact nb ok.2
  | weigher z => exact ⟨of_decide_eq_true rfl, fun a h => by rw [List.mem_singleton.mp h]; exact nm ok⟩
  | see z t =>
    refine ⟨of_decide_eq_true rfl, fun a h => ?_⟩
    rcases List.mem_cons.mp h with h | h
    · rw [h]; exact nm ok.1
    · rw [List.mem_singleton.mp h]; exact nm ok.2
  | seew z t n =>
    refine ⟨of_decide_eq_true rfl, fun a h => ?_⟩
    rcases List.mem_cons.mp h with h | h
    · rw [h]; exact nm ok.1
    · rcases List.mem_cons.mp h with h | h
      · rw [h]; exact nm ok.2.1
      · rw [List.mem_singleton.mp h]; exact nb ok.2.2.1
  | held z => exact ⟨of_decide_eq_true rfl, fun a h => by rw [List.mem_singleton.mp h]; exact nm ok⟩
  | cut z n =>
    refine ⟨of_decide_eq_true rfl, fun a h => ?_⟩
    rcases List.mem_cons.mp h with h | h
    · rw [h]; exact nm ok.1
    · rw [List.mem_singleton.mp h]; exact nb ok.2
  | pour z x y =>
    refine ⟨of_decide_eq_true rfl, fun a h => ?_⟩
    rcases List.mem_cons.mp h with h | h
    · rw [h]; exact nm ok.1
    · rcases List.mem_cons.mp h with h | h
      · rw [h]; exact nm ok.2.1
      · rw [List.mem_singleton.mp h]; exact nm ok.2.2.1
/-- what is to be known of a row's words -/
structure WordsOk (r : Row) : Prop where
  nb : ∀ z ∈ r.words, Nb z
  ln : ∀ z ∈ r.words, z.length ≤ 60
  few : r.words.length ≤ 22
  two : ∃ a b ws, r.words = a :: b :: ws
theorem plain_words {r : Row} (h : r.plain) : r.words = r.word :: r.args.map Arg.word := by
  cases r <;> first | rfl | exact h.elim
theorem words_ok {S : Sx} {r : Row} (ok : RowOk S r) : WordsOk r := by
  have p : r.plain → WordsOk r := fun h => by
    have e := plain_words h
    obtain ⟨l1, l2⟩ := args_len ok
    refine ⟨fun z hz => ?_, fun z hz => ?_, ?_, ?_⟩
    · rw [e] at hz
      rcases List.mem_cons.mp hz with rfl | hz
      · exact nb_word r
      · obtain ⟨a, ha, rfl⟩ := List.mem_map.mp hz
        exact args_nb ok a ha
    · rw [e] at hz
      rcases List.mem_cons.mp hz with rfl | hz
      · exact Nat.le_trans (word_len r) (by decide)
      · obtain ⟨a, ha, rfl⟩ := List.mem_map.mp hz
        exact l2 a ha
    · rw [e, List.length_cons, List.length_map]
      omega
    · cases r with
      | program z k => exact h.elim
      | coins cs => exact ⟨_, _, _, rfl⟩
      | draw n => exact ⟨_, _, _, rfl⟩
      | go z => exact ⟨_, _, _, rfl⟩
      | drawer z n => exact ⟨_, _, _, rfl⟩
      | weigher z => exact ⟨_, _, _, rfl⟩
      | see z t => exact ⟨_, _, _, rfl⟩
      | seew z t n => exact ⟨_, _, _, rfl⟩
      | held z => exact ⟨_, _, _, rfl⟩
      | cut z n => exact ⟨_, _, _, rfl⟩
      | pour z x y => exact ⟨_, _, _, rfl⟩
  cases r with
  | program z k =>
    obtain ⟨_, _, _, t4, _, t6, t7⟩ := txt_all k ok.2
    refine ⟨fun y hy => ?_, fun y hy => ?_, ?_, ⟨_, _, _, rfl⟩⟩
    · rcases List.mem_cons.mp hy with rfl | hy
      · exact (by decide +kernel : 32 ∉ ("program" : Str).cps.toList)
      · rcases List.mem_cons.mp hy with rfl | hy
        · exact nb_name ok.1
        · have q := List.all_eq_true.mp t4 y hy
          intro h
          have q2 : y.cps.toList.contains 32 = true := List.contains_iff_mem.mpr h
          rw [q2] at q
          cases q
    · rcases List.mem_cons.mp hy with rfl | hy
      · exact (by decide +kernel : ("program" : Str).length ≤ 60)
      · rcases List.mem_cons.mp hy with rfl | hy
        · exact Nat.le_trans (name_len ok.1) (by decide)
        · exact Nat.le_trans (of_decide_eq_true (List.all_eq_true.mp t7 y hy)) (by decide)
    · show (("program" : Str) :: z :: tws k).length ≤ 22
      rw [List.length_cons, List.length_cons]
      omega
  | coins cs => exact p trivial
  | draw n => exact p trivial
  | go z => exact p trivial
  | drawer z n => exact p trivial
  | weigher z => exact p trivial
  | see z t => exact p trivial
  | seew z t n => exact p trivial
  | held z => exact p trivial
  | cut z n => exact p trivial
  | pour z x y => exact p trivial
theorem WordsOk.len {r : Row} (h : WordsOk r) : r.text.length ≤ 2000 := by
  have h1 := join_len r.words
  have h2 := sum_le h.ln
  have h3 := h.few
  show (Txt.join " " r.words).length ≤ 2000
  omega
theorem WordsOk.split {r : Row} (h : WordsOk r) : Txt.split r.text " " = r.words := by
  obtain ⟨a, b, ws, e⟩ := h.two
  exact split_words (by rw [e]; exact fun z => nomatch z) h.nb
end Ev

set_option Elab.async false
set_option linter.all false
set_option maxRecDepth 100000
set_option maxHeartbeats 2000000
/-! Desk.say. -/
namespace Ev
open PySem PySem.Spec PyProof.Rows L2 He TL
def sp_Desk_say (K : PySem.W.Frag) : Sp := fun vs H Q E => ∃ (d : Addr) (g : Gk) (N : Nat) (S : Sx) (t : Str), vs = [.ref d, .str t] ∧ DeskAt K H d g N S ∧
  ((∃ r, t = r.text ∧ RowOk S r ∧ Res K H d g N S r Q E) ∨ (t = "left" ∧ ∀ H', Same H H' → Q (.str (num S.pool.coins.length)) H'))
theorem plain_word {r : Row} (h : r.plain) : r.word ≠ "program" ∧ r.word ≠ "least" := by
  cases r with
  | program z k => exact h.elim
  | coins cs => exact ⟨(by decide +kernel : ("coins" : Str) ≠ "program"), (by decide +kernel : ("coins" : Str) ≠ "least")⟩
  | draw n => exact ⟨(by decide +kernel : ("draw" : Str) ≠ "program"), (by decide +kernel : ("draw" : Str) ≠ "least")⟩
  | go z => exact ⟨(by decide +kernel : ("go" : Str) ≠ "program"), (by decide +kernel : ("go" : Str) ≠ "least")⟩
  | drawer z n => exact ⟨(by decide +kernel : ("drawer" : Str) ≠ "program"), (by decide +kernel : ("drawer" : Str) ≠ "least")⟩
  | weigher z => exact ⟨(by decide +kernel : ("weigher" : Str) ≠ "program"), (by decide +kernel : ("weigher" : Str) ≠ "least")⟩
  | see z t => exact ⟨(by decide +kernel : ("see" : Str) ≠ "program"), (by decide +kernel : ("see" : Str) ≠ "least")⟩
  | seew z t n => exact ⟨(by decide +kernel : ("see" : Str) ≠ "program"), (by decide +kernel : ("see" : Str) ≠ "least")⟩
  | held z => exact ⟨(by decide +kernel : ("held" : Str) ≠ "program"), (by decide +kernel : ("held" : Str) ≠ "least")⟩
  | cut z n => exact ⟨(by decide +kernel : ("cut" : Str) ≠ "program"), (by decide +kernel : ("cut" : Str) ≠ "least")⟩
  | pour z a b => exact ⟨(by decide +kernel : ("pour" : Str) ≠ "program"), (by decide +kernel : ("pour" : Str) ≠ "least")⟩
/-- the word of a row stands in the one tuple or the other -/
def onP : List V := [.str "least", .str "show", .str "shares", .str "mean", .str "go"]
def onK : List V := [.str "drawer", .str "weigher", .str "see", .str "held", .str "pour", .str "cut"]
section
variable {P : Program} {w : World} {K : PySem.W.Frag} {mg : Str → Option Value} {base h : Heap}
abbrev N_Desk_say : List Str := ["self", "row", "word", "blank", "rest", "name", "text", "parts"]
abbrev P_Desk_say : List Str := ["self", "row"]
theorem sc_Desk_say : FnScope N_Desk_say P_Desk_say (defScope s_Desk_say) := ⟨rfl, rfl, rfl, by decide +kernel, rfl, by decide +kernel, by decide +kernel⟩
theorem ok_Desk_say (T : Tx w K mg h) : Cal P w K mg base 9 (ma K (ga K "Desk") "say") (sp_Desk_say K) := by
  obtain ⟨fd, F⟩ := T.fn_Desk_say
  refine okOf F sc_Desk_say (fun _ _ _ _ _ _ us hl => match us, hl with | [_, _], _ => rfl) (fun vs H Q E h => ?_) (fun cdv A outer s H vs Q E hr hsp => ?_)
  · repeat (first | (obtain ⟨h1, _⟩ := h; subst h1; rfl) | (obtain ⟨_, h⟩ := h))
  · obtain ⟨d, g, N, S, t, rfl, D, hc⟩ := hsp
    obtain ⟨esK, nK, hKD⟩ := T.kinds
    refine ⟨_, (pss_cons (ps_if (pt_not (pt_val (pe_callB call_isi (by rfl) T.fr_isinstance boot_isinstance (pa_cons (pv 1) (pa_cons (pe_bltn (v := .ty "str") (by rfl) T.fr_str (by decide +kernel) rfl) pa_nil)))))
          (pss_one ps_never)
          pss_nil)
        (pss_cons (ps_asg (pe_partition (pv 1) pe_str) (pg_tup (by rfl) (pgs_cons (pg_name (i := 2) sc_Desk_say.nd rfl (Or.inl rfl)) (pgs_cons (pg_name (i := 3) sc_Desk_say.nd rfl (Or.inl rfl)) (pgs_cons (pg_name (i := 4) sc_Desk_say.nd rfl (Or.inl rfl)) pgs_nil)))))
        (pss_cons (ps_if (pt_cmpR op_eq (pv 2) pe_str (nomark _))
          (pss_cons (ps_asg (pe_partition (pv 4) pe_str) (pg_tup (by rfl) (pgs_cons (pg_name (i := 5) sc_Desk_say.nd rfl (Or.inl rfl)) (pgs_cons (pg_name (i := 3) sc_Desk_say.nd rfl (Or.inl rfl)) (pgs_cons (pg_name (i := 6) sc_Desk_say.nd rfl (Or.inl rfl)) pgs_nil)))))
          (pss_cons (ps_if (pt_cmpR op_eq (pv 3) pe_str (nomark _))
            (pss_one ps_never)
            pss_nil)
          (pss_cons (ps_expr (pc_f (ok_named T) hr (by decide) T.gl_named tkE (pa_cons (pv 5) pa_nil)))
          (pss_cons (ps_dput (hu_of hr) (pe_fld (pv 0) rfl) (pv 5) (pc_f (ok_read_program T) hr (by decide) T.gl_read_program tkE (pa_cons (pv 6) pa_nil)) rfl)
          (pss_one (ps_ret pe_str))))))
          pss_nil)
        (pss_cons (ps_set (i := 7) sc_Desk_say.nd rfl (Or.inl rfl) (pc_f (ok_parts_of T) hr (by decide) T.gl_parts_of tkE (pa_cons (pv 2) (pa_cons (pe_slice sl_list (pe_split (pv 1) pe_str) (po_some pe_int) po_none) pa_nil))))
        (pss_cons (ps_if (pt_cmpR op_in_seq (pv 2) (pe_tup (pa_cons pe_str (pa_cons pe_str (pa_cons pe_str (pa_cons pe_str (pa_cons pe_str pa_nil)))))) (by rfl))
          (pss_one (ps_ret (pc_m (ok_Desk_on_program T) hr (by decide) (has_Desk_on_program T) tkE (pv 0) (pa_cons (pv 2) (pa_cons (pv 7) pa_nil)))))
          pss_nil)
        (pss_cons (ps_if (pt_cmpR op_in_seq (pv 2) (pe_tup (pa_cons pe_str (pa_cons pe_str (pa_cons pe_str (pa_cons pe_str (pa_cons pe_str (pa_cons pe_str pa_nil))))))) (by rfl))
          (pss_one (ps_ret (pc_m (ok_Desk_on_keeper T) hr (by decide) (has_Desk_on_keeper T) tkE (pv 0) (pa_cons (pv 2) (pa_cons (pv 7) pa_nil)))))
          pss_nil)
        (pss_one (ps_ret (pc_m (ok_Desk_on_coins T) hr (by decide) (has_Desk_on_coins T) tkE (pv 0) (pa_cons (pv 2) (pa_cons (pv 7) pa_nil))))))))))), ?_⟩
    obtain ⟨⟨dx, hd⟩, hP⟩ := D.x.main
    have n62 := D.ok.n62
    have no : ∀ {m : Str}, eks.idxOf? m = none → (ef g.p g.pd g.kd).lookup m = none := fun h => ef_no h
    refine ⟨_, rfl, _, _, _, _, _, rfl, .ty _, .base (.str _), kit_ty (b := "str") (r := true) (by decide +kernel), true, rfl, iteF ?_⟩
    have tl_ : t.length ≤ 2000 := by
      rcases hc with ⟨r, rfl, ok, _⟩ | ⟨rfl, _⟩
      · exact (words_ok ok).len
      · exact (by decide +kernel : ("left" : Str).length ≤ 2000)
    refine ⟨_, rfl, ⟨_, rfl⟩, _, _, rfl, rfl, rfl, (by rw [sizeLine_eq]; omega), fun p np => ⟨p, _, rfl, SqT.of upd_same, rfl, _, _, rfl, _, _, rfl, _, _, rfl, rfl, ?_⟩⟩
    have s1 : Same H (upd H p (.tup [.str (Txt.partition t " ").1, .str (Txt.partition t " ").2.1, .str (Txt.partition t " ").2.2])) := (Same.refl H).upd np
    generalize upd H p (.tup [.str (Txt.partition t " ").1, .str (Txt.partition t " ").2.1, .str (Txt.partition t " ").2.2]) = H1 at s1 ⊢
    have key : (∃ z k, t = (Row.program z k).text ∧ RowOk S (.program z k) ∧ Res K H d g N S (.program z k) Q E) ∨ (∃ word as, (Txt.partition t " ").1 = word ∧ word ≠ "program" ∧ Txt.split t " " = word :: as.map Arg.word ∧ (∀ a ∈ as, a.Ok) ∧ word ≠ "least" ∧ KindOk word as ∧ as.length ≤ 3 ∧
        ∀ H' r vs', Same H H' → H' r = some (.lst vs') → PartsAt H' as vs' → (inV (.str word) onP = true ∧ sp_Desk_on_program K [.ref d, .str word, .ref r] H' Q E) ∨ (inV (.str word) onP = false ∧ inV (.str word) onK = true ∧ sp_Desk_on_keeper K [.ref d, .str word, .ref r] H' Q E) ∨ (inV (.str word) onP = false ∧ inV (.str word) onK = false ∧ sp_Desk_on_coins K [.ref d, .str word, .ref r] H' Q E)) := by
      rcases hc with ⟨r, rfl, ok, R⟩ | ⟨rfl, kk⟩
      · by_cases pl : r.plain
        · refine .inr ⟨r.word, r.args, ?_, ?_, ?_, args_ok ok, ?_, kind_ok pl, (args_len ok).1, fun H' ra vs' s' hr pa => ?_⟩
          · obtain ⟨x, y, ws, e⟩ := (words_ok ok).two
            have e2 := plain_words pl
            rw [e] at e2
            injection e2 with e3 e4
            show (Txt.partition (Txt.join " " r.words) " ").1 = r.word
            rw [e, part_words (by rw [e3]; exact nb_word r), e3]
          · exact (plain_word pl).1
          · rw [(words_ok ok).split, plain_words pl]
          · exact (plain_word pl).2
          · cases r with
            | program z k => exact pl.elim
            | coins cs => exact .inr (.inr ⟨(by decide +kernel : inV (.str "coins") onP = false), (by decide +kernel : inV (.str "coins") onK = false), d, ra, g, N, S, "coins", vs', rfl, D.same s', hr, .inl ⟨cs, rfl, pa, ok.1, ok.2, R.same s'⟩⟩)
            | draw n => exact .inr (.inr ⟨(by decide +kernel : inV (.str "draw") onP = false), (by decide +kernel : inV (.str "draw") onK = false), d, ra, g, N, S, "draw", vs', rfl, D.same s', hr, .inr (.inl ⟨n, rfl, pa, ok, R.same s'⟩)⟩)
            | go z => exact .inl ⟨(by decide +kernel : inV (.str "go") onP = true), d, ra, g, N, S, z, vs', rfl, D.same s', hr, pa, R.same s'⟩
            | drawer z n => exact .inr (.inl ⟨(by decide +kernel : inV (.str "drawer") onP = false), (by decide +kernel : inV (.str "drawer") onK = true), d, ra, g, N, S, .drawer z n, vs', rfl, D.same s', hr, trivial, ok, pa, R.same s'⟩)
            | weigher z => exact .inr (.inl ⟨(by decide +kernel : inV (.str "weigher") onP = false), (by decide +kernel : inV (.str "weigher") onK = true), d, ra, g, N, S, .weigher z, vs', rfl, D.same s', hr, trivial, ok, pa, R.same s'⟩)
            | see z t => exact .inr (.inl ⟨(by decide +kernel : inV (.str "see") onP = false), (by decide +kernel : inV (.str "see") onK = true), d, ra, g, N, S, .see z t, vs', rfl, D.same s', hr, trivial, ok, pa, R.same s'⟩)
            | seew z t n => exact .inr (.inl ⟨(by decide +kernel : inV (.str "see") onP = false), (by decide +kernel : inV (.str "see") onK = true), d, ra, g, N, S, .seew z t n, vs', rfl, D.same s', hr, trivial, ok, pa, R.same s'⟩)
            | held z => exact .inr (.inl ⟨(by decide +kernel : inV (.str "held") onP = false), (by decide +kernel : inV (.str "held") onK = true), d, ra, g, N, S, .held z, vs', rfl, D.same s', hr, trivial, ok, pa, R.same s'⟩)
            | cut z n => exact .inr (.inl ⟨(by decide +kernel : inV (.str "cut") onP = false), (by decide +kernel : inV (.str "cut") onK = true), d, ra, g, N, S, .cut z n, vs', rfl, D.same s', hr, trivial, ok, pa, R.same s'⟩)
            | pour z a b => exact .inr (.inl ⟨(by decide +kernel : inV (.str "pour") onP = false), (by decide +kernel : inV (.str "pour") onK = true), d, ra, g, N, S, .pour z a b, vs', rfl, D.same s', hr, trivial, ok, pa, R.same s'⟩)
        · cases r with
          | program z k => exact .inl ⟨z, k, rfl, ok, R⟩
          | _ => exact absurd trivial pl
      · refine .inr ⟨"left", [], by decide +kernel, by decide +kernel, by decide +kernel, fun a h => by (cases h), by decide +kernel, .inr ⟨by decide +kernel, ?_⟩, Nat.zero_le _, fun H' r vs' s' hr pa => .inr (.inr ⟨by decide +kernel, by decide +kernel, d, r, g, N, S, "left", vs', rfl, D.same s', hr, .inr (.inr ⟨rfl, kk H' s'⟩)⟩)⟩
        rw [show kstr [] = "" by decide +kernel]
        exact kinds_at (i := 6) rfl
    rcases key with ⟨z, k, rfl, ok, R⟩ | ⟨word, as, e1, e2, e3, e4, e5, e6, e7, fin⟩
    · obtain ⟨nz, k4⟩ := ok
      obtain ⟨t1, t2, t3, t4, t5, t6, t7⟩ := txt_all k k4
      obtain ⟨w0, ws0, ew⟩ : ∃ a b, tws k = a :: b := by
        cases e : tws k with
        | nil => exact absurd e t5
        | cons a b => exact ⟨a, b, rfl⟩
      have p1 : Txt.partition (Row.program z k).text " " = (("program" : Str), (" " : Str), Txt.join " " (z :: tws k)) := part_words (by unfold Nb; decide +kernel)
      have p2 : Txt.partition (Txt.join " " (z :: tws k)) " " = (z, (" " : Str), txt k) := by
        rw [← t3, ew]
        exact part_words (nb_name nz)
      rw [p1]
      refine ⟨_, rfl, rfl, _, rfl, ?_⟩
      rw [show decide (V.str "program" = V.str "program") = true by decide +kernel]
      have l2 : (Txt.join " " (z :: tws k)).length ≤ 2000 := by
        have h1 := join_len (z :: tws k)
        have h2 := sum_le (B := 20) (ws := z :: tws k) fun y hy => by
          rcases List.mem_cons.mp hy with rfl | hy
          · exact Nat.le_trans (name_len nz) (by decide)
          · exact of_decide_eq_true (List.all_eq_true.mp t7 y hy)
        rw [List.length_cons] at h1 h2
        omega
      refine iteT ⟨_, rfl, ⟨_, rfl⟩, _, _, rfl, rfl, rfl, (by rw [sizeLine_eq]; show (Txt.join " " (z :: tws k)).length ≤ _; omega), fun p2_ np2 => ⟨p2_, _, rfl, SqT.of upd_same, rfl, _, _, rfl, _, _, rfl, _, _, rfl, rfl, ?_⟩⟩
      have s2 := s1.upd (o := .tup [.str (Txt.partition (Txt.join " " (z :: tws k)) " ").1, .str (Txt.partition (Txt.join " " (z :: tws k)) " ").2.1, .str (Txt.partition (Txt.join " " (z :: tws k)) " ").2.2]) np2
      rw [p2] at s2 ⊢
      generalize upd H1 p2_ (.tup [.str z, .str (" " : Str), .str (txt k)]) = H2 at s2 ⊢
      refine ⟨_, rfl, rfl, _, rfl, ?_⟩
      rw [show decide (V.str " " = V.str "") = false by decide +kernel]
      refine iteF ⟨_, rfl, z, rfl, nz, fun H3 s3 => ?_⟩
      obtain ⟨F, pk⟩ := pgOk k k4
      refine ⟨_, rfl, txt k, prg k, F, rfl, t1, pk, prg_rows k4, by omega, fun H4 r s4 hPr => ?_⟩
      have s5 := (s2.trans s3).trans s4
      obtain ⟨kvs, q1, q2, q3⟩ := id D.x.prog
      refine ⟨_, rfl, T.r_Desk_programs (s5 _ _ hd) ⟨_, rfl, g.pd, _, rfl, DPut.k (k := Sum.inr z) (s5 _ _ q1) (by rw [sizeLine_eq]; omega), ?_⟩⟩
      exact R.ok _ _ rfl _ _ (((D.same s5).x.putP (cD_ok K) (n := z) (k := k) (v := .ref r) (s5 _ _ q1) rfl (ne_of hd q1 (by intro z; cases z)) ⟨k4, r, rfl, hPr⟩).from s5)
    · rw [e1]
      refine ⟨_, rfl, rfl, _, rfl, ?_⟩
      rw [decide_eq_false fun z => e2 (vstr_eq.mp z)]
      refine iteF ⟨_, rfl, _, rfl, ⟨_, rfl⟩, _, _, rfl, rfl, rfl, (by rw [sizeLine_eq]; omega), fun W nW => ⟨_, rfl, W, _, rfl, SqL.of upd_same, fun L nL => ?_⟩⟩
      rw [e3]
      have s2 : Same H1 (upd (upd H1 W (.lst ((word :: as.map Arg.word).map V.str))) L (.lst (cutV ((word :: as.map Arg.word).map V.str) (some 1) none))) := by
        rw [e3] at nL
        exact ((Same.refl H1).upd nW).upd nL
      refine ⟨word, L, as, rfl, ?_, e4, e5, e6, by omega, fun H3 r vs' s3 nr hr pa => ?_⟩
      · rw [upd_same]
        have := cut_from (xs := (word :: as.map Arg.word).map V.str) (i := 1) (by rw [List.length_map, List.length_cons]; omega)
        rw [show (((1 : Nat) : Int)) = 1 by rfl] at this
        rw [this, List.map_cons, List.drop_succ_cons, List.drop_zero, List.map_map]
        rfl
      have s4 := (s1.trans s2).trans s3
      refine ⟨_, rfl, by show 5 ≤ sizeLine; decide, fun tp ntp => ⟨tp, _, rfl, .inr (SqT.of upd_same), rfl, rfl, _, rfl, ?_⟩⟩
      have s5 : Same H3 (upd H3 tp (.tup onP)) := (Same.refl H3).upd ntp
      have hd5 := (s4.trans s5) _ _ hd
      have ef : ∀ {b : Bool}, inV (.str word) onP = b → inV (.str word) [.str "least", .str "show", .str "shares", .str "mean", .str "go"] = b := fun h => h
      have ek : ∀ {b : Bool}, inV (.str word) onK = b → inV (.str word) [.str "drawer", .str "weigher", .str "see", .str "held", .str "pour", .str "cut"] = b := fun h => h
      rcases fin _ r vs' (s4.trans s5) (s5 _ _ hr) (pa.same s5) with ⟨f1, f2⟩ | ⟨f1, _, _⟩ | ⟨f1, _, _⟩
      · rw [ef f1]
        exact iteT ⟨_, rfl, d, _, dx, _, rfl, hd5, rfl, no (by decide +kernel), _, rfl, _, rfl, f2⟩
      all_goals
        rw [ef f1]
        refine iteF ⟨_, rfl, by show 6 ≤ sizeLine; decide, fun tq ntq => ⟨tq, _, rfl, .inr (SqT.of upd_same), rfl, rfl, _, rfl, ?_⟩⟩
        have s6 : Same (upd H3 tp (.tup onP)) (upd (upd H3 tp (.tup onP)) tq (.tup onK)) := (Same.refl _).upd ntq
        rcases fin _ r vs' ((s4.trans s5).trans s6) (s6 _ _ (s5 _ _ hr)) ((pa.same s5).same s6) with ⟨g1, g2⟩ | ⟨g1, g2, g3⟩ | ⟨g1, g2, g3⟩
        · rw [f1] at g1
          cases g1
        · rw [ek g2]
          exact iteT ⟨_, rfl, d, _, dx, _, rfl, s6 _ _ hd5, rfl, no (by decide +kernel), _, rfl, _, rfl, g3⟩
        · rw [ek g2]
          exact iteF ⟨_, rfl, d, _, dx, _, rfl, s6 _ _ hd5, rfl, no (by decide +kernel), _, rfl, _, rfl, g3⟩
end
end Ev

set_option Elab.async false
set_option linter.all false
set_option maxRecDepth 100000
set_option maxHeartbeats 2000000
/-! The law's state: drawing from it. -/
namespace Ev
open PySem PySem.Spec PyProof.Rows L2 He TL
def stD (pt l pd kd : Addr) : List (Key × V) := [(.inr "pool", .ref pt), (.inr "coins", .ref l), (.inr "programs", .ref pd), (.inr "keepers", .ref kd)]
section
variable {H : Hp} {p pt l pd kd : Addr}
theorem sg_pool (h : H p = some (.dK (stD pt l pd kd))) : DGet H p (.str "pool") (some (.ref pt)) := DGet.k (k := Sum.inr "pool") h
theorem sg_coins (h : H p = some (.dK (stD pt l pd kd))) : DGet H p (.str "coins") (some (.ref l)) := DGet.k (k := Sum.inr "coins") h
theorem sg_progs (h : H p = some (.dK (stD pt l pd kd))) : DGet H p (.str "programs") (some (.ref pd)) := DGet.k (k := Sum.inr "programs") h
theorem sg_keeps (h : H p = some (.dK (stD pt l pd kd))) : DGet H p (.str "keepers") (some (.ref kd)) := DGet.k (k := Sum.inr "keepers") h
theorem sp_pool (h : H p = some (.dK (stD pt l pd kd))) (x : Addr) : DPut H p (.str "pool") (.ref x) (upd H p (.dK (stD x l pd kd))) := DPut.k (k := Sum.inr "pool") h (by show 4 < sizeLine; decide)
theorem sp_coins (h : H p = some (.dK (stD pt l pd kd))) (x : Addr) : DPut H p (.str "coins") (.ref x) (upd H p (.dK (stD pt x pd kd))) := DPut.k (k := Sum.inr "coins") h (by show 4 < sizeLine; decide)
end
/-- the state's pool -/
def PoolL (H : Hp) (p l pd kd : Addr) (q : Pool) : Prop := (∃ pt, H p = some (.dK (stD pt l pd kd)) ∧ H pt = some (.tup [.int q.size, .int q.num])) ∧ H l = some (.lst (q.coins.map .int)) ∧ q.Ok
theorem PoolL.same {H H' : Hp} {p l pd kd : Addr} {q : Pool} (h : PoolL H p l pd kd q) (s : Same H H') : PoolL H' p l pd kd q := by
  obtain ⟨⟨pt, h1, h2⟩, h3, h4⟩ := h
  exact ⟨⟨pt, s _ _ h1, s _ _ h2⟩, s _ _ h3, h4⟩
def sp__law_draw (_K : PySem.W.Frag) : Sp := fun vs H Q _ => ∃ (p l pd kd : Addr) (q : Pool) (m : Int), vs = [.ref p, .int m] ∧ PoolL H p l pd kd q ∧ q.coins.length ≤ 100000 ∧ Few m ∧
  (q.draw m = none → ∀ H', Same H H' → Q .non H') ∧ (∀ a q', q.draw m = some (a, q') → ∀ H' l', H l' = none → PoolL H' p l' pd kd q' → Fr (fun b => b = p) H H' → Q (.int a) H')
/-- what both loops keep -/
structure LdW (p : Addr) (cs : List Int) (m : Int) (R : Option (Int × Pool)) (H0 : Hp) (used : Nat) (size num : Int) (pv : Option V) (σ : L2.St) (H : Hp) : Prop where
  s : σ = [some (.ref p), some (.int m), some (.int size), some (.int num), some (.int used), pv]
  h : H0 = H
  u : used ≤ cs.length
  ok : Pool.Ok ⟨size, num, cs.drop used⟩
  r : drawP m (cs.drop used) size num = R
section
variable {P : Program} {w : World} {K : PySem.W.Frag} {mg : Str → Option Value} {base h : Heap}
abbrev N__law_draw : List Str := ["_law_state", "_law_many", "_law_size", "_law_number", "_law_used", "_law_parts"]
abbrev P__law_draw : List Str := ["_law_state", "_law_many"]
theorem sc__law_draw : FnScope N__law_draw P__law_draw (defScope s__law_draw) := ⟨rfl, rfl, rfl, by decide +kernel, rfl, by decide +kernel, by decide +kernel⟩
theorem ok__law_draw (T : Tx w K mg h) : Cal P w K mg base 1 (ga K "_law_draw") (sp__law_draw K) := by
  obtain ⟨fd, F⟩ := T.fn__law_draw
  refine okOf F sc__law_draw (fun _ _ _ _ _ _ us hl => match us, hl with | [_, _], _ => rfl) (fun vs H Q E h => ?_) (fun cdv A outer s H vs Q E hr hsp => ?_)
  · repeat (first | (obtain ⟨h1, _⟩ := h; subst h1; rfl) | (obtain ⟨_, h⟩ := h))
  · obtain ⟨p, l, pd, kd, q, m, rfl, hP, hl5, h3, kn, ks⟩ := hsp
    refine ⟨_, (pss_cons (ps_asg (pe_dget (hu_of hr) (pv 0) pe_str (fun _ _ => rfl)) (pg_tup (by rfl) (pgs_cons (pg_name (i := 2) sc__law_draw.nd rfl (Or.inl rfl)) (pgs_cons (pg_name (i := 3) sc__law_draw.nd rfl (Or.inl rfl)) pgs_nil))))
        (pss_cons (ps_set (i := 4) sc__law_draw.nd rfl (Or.inl rfl) pe_int)
        (pss_one (ps_while powE (pt_val pe_bl)
          (pss_cons (ps_while powE (pt_cmpR op_lt (pv 2) (pv 1) (nomark _))
            (pss_cons (ps_if (pt_cmpR op_eq (pv 4) (pe_callB call_len_seq (by rfl) T.fr_len boot_len (pa_cons (pe_dget (hu_of hr) (pv 0) pe_str (fun _ _ => rfl)) pa_nil)) (nomark _))
              (pss_one (ps_ret pe_non))
              pss_nil)
            (pss_cons (ps_set (i := 2) sc__law_draw.nd rfl (Or.inl rfl) (pe_op op_mul pe_int (pv 2)))
            (pss_cons (ps_set (i := 3) sc__law_draw.nd rfl (Or.inl rfl) (pe_op op_add (pe_op op_mul pe_int (pv 3)) (pe_ix ix_list (pe_dget (hu_of hr) (pv 0) pe_str (fun _ _ => rfl)) (pv 4) (fun _ _ => rfl))))
            (pss_one (ps_set (i := 4) sc__law_draw.nd rfl (Or.inl rfl) (pe_op op_add (pv 4) pe_int)))))))
          (pss_cons (ps_set (i := 5) sc__law_draw.nd rfl (Or.inl rfl) (pe_op op_fdivW (pv 2) (pv 1)))
          (pss_cons (ps_if (pt_cmpR op_lt (pv 3) (pe_op op_mul (pv 5) (pv 1)) (nomark _))
            (pss_cons (ps_dput (hu_of hr) (pv 0) pe_str (pe_tup (pa_cons (pv 5) (pa_cons (pe_op op_fdivW (pv 3) (pv 1)) pa_nil))) rfl)
            (pss_cons (ps_dput (hu_of hr) (pv 0) pe_str (pe_slice sl_list (pe_dget (hu_of hr) (pv 0) pe_str (fun _ _ => rfl)) (po_some (pv 4)) po_none) rfl)
            (pss_one (ps_ret (pe_op op_mod (pv 3) (pv 1))))))
            pss_nil)
          (pss_cons (ps_set (i := 2) sc__law_draw.nd rfl (Or.inl rfl) (pe_op op_sub (pv 2) (pe_op op_mul (pv 5) (pv 1))))
          (pss_one (ps_set (i := 3) sc__law_draw.nd rfl (Or.inl rfl) (pe_op op_sub (pv 3) (pe_op op_mul (pv 5) (pv 1))))))))))))), ?_⟩
    obtain ⟨⟨pt, hp, hpt⟩, hl, hq⟩ := id hP
    have hR : drawP m (q.coins.drop 0) q.size q.num = q.draw m := by rw [List.drop_zero]; rfl
    generalize q.draw m = R at kn ks hR
    refine ⟨_, rfl, p, _, rfl, sg_pool hp, pt, _, rfl, SqT.of hpt, rfl, _, _, rfl, _, _, rfl, rfl, ?_⟩
    refine ⟨fun n σ H2 => ∃ (u : Nat) (sz nm : Int) (pv : Option V), n = 2 * (q.coins.length - u) + (if m ≤ sz then 1 else 0) ∧ LdW p q.coins m R H u sz nm pv σ H2, ⟨_, 0, q.size, q.num, none, rfl, rfl, rfl, Nat.zero_le _, by rw [List.drop_zero]; exact hq, hR⟩, fun n σ H2 hW => ?_⟩
    obtain ⟨u, sz, nm, pv, en, ⟨rfl, rfl, hu, ok, hr1⟩⟩ := hW
    refine ⟨true, rfl, iteT ⟨_, fun _ _ z => z, ?_⟩⟩
    refine ⟨fun n2 σ H9 => ∃ (u2 : Nat) (sz2 nm2 : Int), n2 = q.coins.length - u2 ∧ u ≤ u2 ∧ (sz < m → sz2 = sz ∧ u2 = u ∨ u < u2) ∧ (¬ sz < m → u2 = u ∧ sz2 = sz) ∧ LdW p q.coins m R H u2 sz2 nm2 pv σ H9, ⟨_, u, sz, nm, rfl, Nat.le_refl _, fun _ => .inl ⟨rfl, rfl⟩, fun _ => ⟨rfl, rfl⟩, rfl, rfl, hu, ok, hr1⟩, fun n2 σ H3 hW2 => ?_⟩
    obtain ⟨u2, sz2, nm2, en2, hu2, hlt, hnl, ⟨rfl, rfl, hv, ok2, hr2⟩⟩ := hW2
    have o1 : 1 ≤ sz2 := ok2.one
    have o2 : 0 ≤ nm2 := ok2.low
    have o3 : nm2 < sz2 := ok2.lt
    have o4 : sz2 < 2 ^ 64 := ok2.top
    have m1 := h3.1
    have m2 := h3.2
    refine ⟨_, rfl, _, rfl, _, _, rfl, rfl, _, rfl, ?_⟩
    refine iteD (fun hs => ?_) (fun hs => ?_)
    · refine ⟨_, fun _ _ z => z, ?_⟩
      -- used == len(coins)
      refine ⟨_, rfl, _, rfl, p, _, rfl, sg_coins hp, _, _, rfl, .inl (SqL.of hl), rfl, _, rfl, ?_⟩
      rw [List.length_map]
      refine iteVi (fun e => ?_) (fun e => ?_)
      · have e2 : u2 = q.coins.length := by omega
        rw [e2, drawP_less hs, List.drop_length] at hr2
        exact kn hr2.symm H (Same.refl H)
      · have hl2 : u2 < q.coins.length := by omega
        have ok3 := ok2
        rw [drop_at hl2] at ok3
        refine ⟨_, rfl, _, _, rfl, rfl, .inl ⟨by decide, by decide⟩, ?_⟩
        refine ⟨_, rfl, _, _, rfl, rfl, .inl ⟨by decide, by decide⟩, _, rfl, p, _, rfl, sg_coins hp, _, rfl, l, _, _, _, rfl, rfl, SqL.of hl, lst_at hl2, _, _, rfl, rfl, ?_⟩
        refine ⟨_, rfl, _, _, rfl, rfl, ?_⟩
        refine ⟨_, by omega, u2 + 1, 2 * sz2, 2 * nm2 + q.coins[u2], rfl, by omega, fun _ => .inr (by omega), fun z => by omega, rfl, rfl, by omega, ok_more ok3 (by omega), ?_⟩
        rw [← hr2, drawP_less hs, drop_at hl2]
    · obtain ⟨d1, d2, d3⟩ := div_mul_le (s := sz2) (by omega) m1
      obtain ⟨d4, d5, d6⟩ := div_mul_le (s := nm2) o2 m1
      have q3 : sz2 / m ≤ sz2 := Int.ediv_le_self _ (by omega)
      refine ⟨_, rfl, _, rfl, _, _, rfl, rfl, wide_div (b := 64) (by omega) (by omega) (by decide) (by decide), ?_⟩
      refine ⟨_, rfl, _, rfl, _, rfl, _, _, rfl, rfl, .inl ⟨by omega, by omega⟩, _, _, rfl, rfl, _, rfl, ?_⟩
      refine iteD (fun hy => ?_) (fun hy => ?_)
      · refine ⟨_, rfl, _, rfl, _, rfl, _, _, rfl, rfl, wide_div (b := 64) (by omega) (by omega) (by decide) (by decide), (by show 2 ≤ sizeLine; decide), fun t nt => ?_⟩
        have tp : p ≠ t := ne_of_none hp nt
        have tl_ : l ≠ t := ne_of_none hl nt
        have pl : p ≠ l := ne_of hp hl (by intro z; cases z)
        refine ⟨_, rfl, p, _, rfl, sp_pool (by rw [upd_ne tp]; exact hp) t, ?_⟩
        refine ⟨_, rfl, p, _, rfl, sg_coins upd_same, _, rfl, _, rfl, l, _, rfl, SqL.of (by rw [upd_ne pl.symm, upd_ne tl_]; exact hl), fun c nc => ?_⟩
        rw [cut_from (by rw [List.length_map]; exact hv), ← List.map_drop]
        have cp : c ≠ p := fun z => by rw [z, upd_same] at nc; cases nc
        have ct : c ≠ t := fun z => by rw [z, upd_ne tp.symm, upd_same] at nc; cases nc
        have nc0 : H c = none := by rw [upd_ne cp, upd_ne ct] at nc; exact nc
        refine ⟨_, rfl, p, _, rfl, sp_coins (by rw [upd_ne cp.symm]; exact upd_same) c, _, rfl, _, rfl, _, _, rfl, rfl, by omega, ?_⟩
        refine ks (nm2 % m) ⟨sz2 / m, nm2 / m, q.coins.drop u2⟩ (by rw [← hr2]; exact drawP_yes hs hy) _ c nc0 ⟨⟨t, upd_same, ?_⟩, ?_, ?_⟩ (((((Fr.refl (ch := fun b => b = p)).upd (.inr nt)).upd (.inl rfl)).upd (.inr nc0)).upd (.inl rfl))
        · rw [upd_ne tp.symm, upd_ne ct.symm, upd_ne tp.symm, upd_same]
        · rw [upd_ne cp, upd_same]
        · exact (drawP_ok h3 ok2 (drawP_yes hs hy)).1
      · refine ⟨_, rfl, _, rfl, _, rfl, _, _, rfl, rfl, .inl ⟨by omega, by omega⟩, _, _, rfl, rfl, ?_⟩
        refine ⟨_, rfl, _, rfl, _, rfl, _, _, rfl, rfl, .inl ⟨by omega, by omega⟩, _, _, rfl, rfl, ?_⟩
        have q1 : 1 ≤ sz2 - sz2 / m * m := by omega
        refine ⟨_, ?_, u2, sz2 - sz2 / m * m, nm2 - sz2 / m * m, some (.int (sz2 / m)), rfl, rfl, rfl, hv, ⟨q1, (show 0 ≤ nm2 - sz2 / m * m by omega), (show nm2 - sz2 / m * m < sz2 - sz2 / m * m by omega), (show sz2 - sz2 / m * m < 2 ^ 64 by omega), ok2.coin⟩, ?_⟩
        · rw [en, if_neg (by omega : ¬ m ≤ sz2 - sz2 / m * m)]
          by_cases z : sz < m
          · rcases hlt z with ⟨a, b⟩ | a
            · exact absurd z (by rw [← a]; exact hs)
            · rw [if_neg (by omega)]
              omega
          · obtain ⟨a, b⟩ := hnl z
            rw [if_pos (by omega)]
            omega
        · rw [← hr2]
          exact (drawP_no m1 hs (by omega) hy).symm
end
end Ev

set_option Elab.async false
set_option linter.all false
set_option maxRecDepth 100000
set_option maxHeartbeats 2000000
/-! The law's draws and go. -/
namespace Ev
open PySem PySem.Spec PyProof.Rows L2 He TL
theorem PoolL.p_ne {H : Hp} {p l pd kd : Addr} {q : Pool} (h : PoolL H p l pd kd q) : H p ≠ none := by
  obtain ⟨⟨pt, h1, _⟩, _⟩ := h
  rw [h1]
  exact fun z => nomatch z
def sp__law_draws (_K : PySem.W.Frag) : Sp := fun vs H Q _ => ∃ (p l pd kd ms : Addr) (q : Pool) (mss : List Int), vs = [.ref p, .ref ms] ∧ PoolL H p l pd kd q ∧ H ms = some (.lst (mss.map .int)) ∧ q.coins.length ≤ 100000 ∧ mss.length ≤ 1000000 ∧ (∀ m ∈ mss, Few m) ∧
  (q.draws mss = none → ∀ H', PoolL H' p l pd kd q → Fr (fun b => b = p) H H' → Q .non H') ∧ (∀ as q', q.draws mss = some (as, q') → ∀ H' l' r, (l' = l ∨ H l' = none) → PoolL H' p l' pd kd q' → Fr (fun b => b = p) H H' → H r = none → H' r = some (.lst (as.map .int)) → Q (.ref r) H')
section
variable {P : Program} {w : World} {K : PySem.W.Frag} {mg : Str → Option Value} {base h : Heap}
abbrev N__law_draws : List Str := ["_law_state", "_law_manys", "_law_before", "_law_found", "_law_many", "_law_number"]
abbrev P__law_draws : List Str := ["_law_state", "_law_manys"]
theorem sc__law_draws : FnScope N__law_draws P__law_draws (defScope s__law_draws) := ⟨rfl, rfl, rfl, by decide +kernel, rfl, by decide +kernel, by decide +kernel⟩
theorem ok__law_draws (T : Tx w K mg h) : Cal P w K mg base 2 (ga K "_law_draws") (sp__law_draws K) := by
  obtain ⟨fd, F⟩ := T.fn__law_draws
  refine okOf F sc__law_draws (fun _ _ _ _ _ _ us hl => match us, hl with | [_, _], _ => rfl) (fun vs H Q E h => ?_) (fun cdv A outer s H vs Q E hr hsp => ?_)
  · repeat (first | (obtain ⟨h1, _⟩ := h; subst h1; rfl) | (obtain ⟨_, h⟩ := h))
  · obtain ⟨p, l, pd, kd, ms, q, mss, rfl, hP, hms, hl5, hm5, hm, kn, ks⟩ := hsp
    refine ⟨_, (pss_cons (ps_set (i := 2) sc__law_draws.nd rfl (Or.inl rfl) (pe_tup (pa_cons (pe_dget (hu_of hr) (pv 0) pe_str (fun _ _ => rfl)) (pa_cons (pe_dget (hu_of hr) (pv 0) pe_str (fun _ _ => rfl)) pa_nil))))
        (pss_cons (ps_set (i := 3) sc__law_draws.nd rfl (Or.inl rfl) (pe_lst pa_nil))
        (pss_cons (ps_for powE rfl (pi_list (pv 1)) (pg_name (i := 4) sc__law_draws.nd rfl (Or.inl rfl))
          (pss_cons (ps_set (i := 5) sc__law_draws.nd rfl (Or.inl rfl) (pc_f (ok__law_draw T) hr (by decide) T.gl__law_draw tkE (pa_cons (pv 0) (pa_cons (pv 4) pa_nil))))
          (pss_cons (ps_if (pt_cmpR op_isN (pv 5) pe_non (nomark _))
            (pss_cons (ps_asg (pv 2) (pg_tup (by rfl) (pgs_cons (pg_sub (pv 0) pe_str (set_dict (hu_of hr))) (pgs_cons (pg_sub (pv 0) pe_str (set_dict (hu_of hr))) pgs_nil))))
            (pss_one (ps_ret pe_non)))
            pss_nil)
          (pss_one (ps_expr (pe_bm PySem.F.plainAttrs_list PySem.F.slot_list_append PySem.F.type_list_append mt_append (pv 3) (pa_cons (pv 5) pa_nil)))))))
        (pss_one (ps_ret (pv 3)))))), ?_⟩
    obtain ⟨⟨pt, hp, hpt⟩, hl, hq⟩ := id hP
    refine ⟨_, rfl, p, _, rfl, sg_pool hp, _, rfl, p, _, rfl, sg_coins hp, by show 2 ≤ sizeLine; decide, fun bf nbf => ?_⟩
    refine ⟨by show 0 ≤ sizeLine; decide, fun fo nfo => ?_⟩
    have bfo : bf ≠ fo := ne_of_none upd_same nfo
    have nfo0 : H fo = none := by rw [upd_ne bfo.symm] at nfo; exact nfo
    have s2 : Same H (upd (upd H bf (.tup [.ref pt, .ref l])) fo (.lst [])) := ((Same.refl H).upd nbf).upd nfo
    have pfo : p ≠ fo := ne_of_none hp nfo0
    have pbf : p ≠ bf := ne_of_none hp nbf
    have pms : ms ≠ p := ne_of hms hp (by intro z; cases z)
    refine ⟨_, rfl, ms, rfl, ⟨_, SqL.of (s2 _ _ hms)⟩, for_list (K := K) (a := ms) (xs := mss.map V.int) (fun i σ H2 => ∃ (l2 : Addr) (q2 : Pool) (as : List Int) (v1 v2 : Option V), σ = [some (.ref p), some (.ref ms), some (.ref bf), some (.ref fo), v1, v2] ∧ (l2 = l ∨ H l2 = none) ∧ PoolL H2 p l2 pd kd q2 ∧ Fr (fun b => b = p) H H2 ∧ H2 fo = some (.lst (as.map .int)) ∧ H2 bf = some (.tup [.ref pt, .ref l]) ∧ as.length ≤ i ∧ q2.coins.length ≤ q.coins.length ∧ q.draws mss = (q2.draws (mss.drop i)).map fun y => (as ++ y.1, y.2))
      ⟨l, q, [], none, none, rfl, .inl rfl, hP.same s2, s2.fr, upd_same, by rw [upd_ne bfo, upd_same], Nat.le_refl _, Nat.le_refl _, ?_⟩ (fun i σ H2 _ ⟨_, _, _, _, _, _, _, _, f2, _⟩ => SqL.of (f2 _ _ hms pms)) ?_ ?_⟩
    · rw [List.drop_zero]
      cases q.draws mss with
      | none => rfl
      | some z => rfl
    · rintro i y σ H2 hi ⟨l2, q2, as, v1, v2, rfl, hl2, hP2, f2, hfo, hbf, hal, hql, hd⟩
      have him : i < mss.length := by
        have z := (List.getElem?_eq_some_iff.mp hi).1
        rw [List.length_map] at z
        exact z
      rw [List.getElem?_map, List.getElem?_eq_getElem him] at hi
      cases hi
      have hm1 := hm _ (List.getElem_mem him)
      rw [List.drop_eq_getElem_cons him, draws_cons] at hd
      refine ⟨_, rfl, _, rfl, p, l2, pd, kd, q2, mss[i], rfl, hP2, by omega, hm1, fun z H3 s3 => ?_, fun a q3 z H3 l3 nl3 hP3 f3 => ?_⟩
      · -- None: the state as before
        rw [z] at hd
        refine ⟨_, rfl, rfl, _, rfl, iteT ?_⟩
        obtain ⟨⟨pt2, hp2, hpt2⟩, hll2, hq2⟩ := hP2
        refine ⟨_, rfl, bf, _, rfl, SqT.of (s3 _ _ hbf), rfl, _, _, rfl, _, rfl, p, _, rfl, sp_pool (s3 _ _ hp2) pt, _, _, rfl, _, rfl, p, _, rfl, sp_coins upd_same l, rfl, ?_⟩
        have f3 : Fr (fun b => b = p) H (upd (upd H3 p (.dK (stD pt l2 pd kd))) p (.dK (stD pt l pd kd))) := ((f2.trans s3.fr).upd (.inl rfl)).upd (.inl rfl)
        have ptp : pt ≠ p := ne_of hpt hp (by intro z; cases z)
        have lp : l ≠ p := ne_of hl hp (by intro z; cases z)
        exact kn hd _ ⟨⟨pt, upd_same, f3 _ _ hpt ptp⟩, f3 _ _ hl lp, hq⟩ f3
      · rw [z] at hd
        obtain ⟨g1, g2, g3, g4, g5⟩ := Pool.draw_ok hm1 hP2.2.2 z
        refine ⟨_, rfl, rfl, _, rfl, iteF ?_⟩
        have hfo3 := f3 _ _ hfo pfo.symm
        refine ⟨_, rfl, .inl ⟨rfl, _, .inl (.inl hfo3)⟩, _, rfl, fo, _, _, rfl, rfl, hfo3, (by rw [List.length_map, sizeLine_eq]; omega), ?_⟩
        have nl30 : H l3 = none := f2.freeP hP2.p_ne nl3
        obtain ⟨⟨pt3, hp3, hpt3⟩, hl3, hq3⟩ := hP3
        have pt3f : pt3 ≠ fo := ne_of hpt3 hfo3 (by intro z; cases z)
        have l3f : l3 ≠ fo := fun z => by rw [z, hfo] at nl3; cases nl3
        refine ⟨l3, q3, as ++ [a], _, _, rfl, .inr nl30, ⟨⟨pt3, by rw [upd_ne pfo]; exact hp3, by rw [upd_ne pt3f]; exact hpt3⟩, by rw [upd_ne l3f]; exact hl3, hq3⟩, (f2.trans f3).upd (.inr nfo0), (by rw [upd_same, List.map_append]; rfl), (by rw [upd_ne bfo]; exact f3 _ _ hbf pbf.symm), (by rw [List.length_append]; show as.length + 1 ≤ i + 1; omega), by omega, ?_⟩
        rw [hd]
        show ((q3.draws (mss.drop (i + 1))).map fun y => (a :: y.1, y.2)).map (fun y => (as ++ y.1, y.2)) = (q3.draws (mss.drop (i + 1))).map fun y => ((as ++ [a]) ++ y.1, y.2)
        rw [Option.map_map]
        congr 1
        funext y
        show (as ++ a :: y.1, y.2) = ((as ++ [a]) ++ y.1, y.2)
        rw [List.append_assoc]
        rfl
    · rintro σ H2 ⟨l2, q2, as, v1, v2, rfl, hl2, hP2, f2, hfo, hbf, hal, hql, hd⟩
      rw [List.length_map, List.drop_of_length_le (Nat.le_refl _)] at hd
      have hd2 : q.draws mss = some (as, q2) := by
        rw [hd]
        show some (as ++ [], q2) = _
        rw [List.append_nil]
      exact ⟨_, rfl, ks as q2 hd2 H2 l2 fo hl2 hP2 f2 nfo0 hfo⟩
end
end Ev

set_option Elab.async false
set_option linter.all false
set_option maxRecDepth 100000
set_option maxHeartbeats 2000000
/-! The law's go. -/
namespace Ev
open PySem PySem.Spec PyProof.Rows L2 He TL
theorem dig_num {n : Nat} (h : n < 10) : dig n = num n := by
  match n, h with
  | 0, _ => decide +kernel
  | 1, _ => decide +kernel
  | 2, _ => decide +kernel
  | 3, _ => decide +kernel
  | 4, _ => decide +kernel
  | 5, _ => decide +kernel
  | 6, _ => decide +kernel
  | 7, _ => decide +kernel
  | 8, _ => decide +kernel
  | 9, _ => decide +kernel
def sp__law_go (_K : PySem.W.Frag) : Sp := fun vs H Q _ => ∃ (p l pd kd : Addr) (q : Pool) (k : Nat), vs = [.ref p, .str (txt k)] ∧ PoolL H p l pd kd q ∧ q.coins.length ≤ 100000 ∧ k < 4 ∧
  (wk (prg k) 0 q.coins = none → ∀ H' r, Same H H' → H' r = some (.tup [.int 2, .int q.coins.length]) → Q (.ref r) H') ∧
  (∀ x n, wk (prg k) 0 q.coins = some (x, n) → ∀ H' l' r, H l' = none → PoolL H' p l' pd kd ⟨q.size, q.num, q.coins.drop n⟩ → Fr (fun b => b = p) H H' → H' r = some (.tup [.int (-1), .str (num x)]) → Q (.ref r) H')
section
variable {P : Program} {w : World} {K : PySem.W.Frag} {mg : Str → Option Value} {base h : Heap}
abbrev N__law_go : List Str := ["_law_state", "_law_text", "_law_nodes", "_law_at", "_law_used", "_law_row_here"]
abbrev P__law_go : List Str := ["_law_state", "_law_text"]
theorem sc__law_go : FnScope N__law_go P__law_go (defScope s__law_go) := ⟨rfl, rfl, rfl, by decide +kernel, rfl, by decide +kernel, by decide +kernel⟩
theorem ok__law_go (T : Tx w K mg h) : Cal P w K mg base 1 (ga K "_law_go") (sp__law_go K) := by
  obtain ⟨fd, F⟩ := T.fn__law_go
  refine okOf F sc__law_go (fun _ _ _ _ _ _ us hl => match us, hl with | [_, _], _ => rfl) (fun vs H Q E h => ?_) (fun cdv A outer s H vs Q E hr hsp => ?_)
  · repeat (first | (obtain ⟨h1, _⟩ := h; subst h1; rfl) | (obtain ⟨_, h⟩ := h))
  · obtain ⟨p, l, pd, kd, q, k, rfl, hP, hl5, k4, kn, ks⟩ := hsp
    refine ⟨_, (pss_cons (ps_setLc (i := 2) (g := _) (own := [("_law_row_here", 5)]) rfl sc__law_go.nd rfl rfl (sw_true rfl rfl rfl (by decide +kernel)) (pi_list (pe_split (pv 1) pe_str)) (blkOk_by (own := [("_law_row_here", 5)]) (N := N__law_go) (sc := defScope s__law_go) (by decide +kernel)) (fun _ _ _ _ _ => (pg_name (i := 5) sc__law_go.nd rfl (Or.inl rfl))) (fun _ _ _ _ _ => pts_nil) (fun _ _ _ _ _ => (pe_split (pv 5) pe_str)))
        (pss_cons (ps_set (i := 3) sc__law_go.nd rfl (Or.inl rfl) pe_int)
        (pss_cons (ps_set (i := 4) sc__law_go.nd rfl (Or.inl rfl) pe_int)
        (pss_cons (ps_while powE (pt_cmpR op_eq (pe_ix ix_list (pe_ix ix_list (pv 2) (pv 3) (fun _ _ => rfl)) pe_int (fun _ _ => rfl)) pe_str (nomark _))
          (pss_cons (ps_if (pt_cmpR op_eq (pv 4) (pe_callB call_len_seq (by rfl) T.fr_len boot_len (pa_cons (pe_dget (hu_of hr) (pv 0) pe_str (fun _ _ => rfl)) pa_nil)) (nomark _))
            (pss_one (ps_ret (pe_tup (pa_cons pe_int (pa_cons (pv 4) pa_nil)))))
            pss_nil)
          (pss_cons (ps_set (i := 3) sc__law_go.nd rfl (Or.inl rfl) (pe_callTy call_int_str (by rfl) T.fr_int boot_int (pa_cons (pe_ix ix_list (pe_ix ix_list (pv 2) (pv 3) (fun _ _ => rfl)) (pe_op op_add pe_int (pe_ix ix_list (pe_dget (hu_of hr) (pv 0) pe_str (fun _ _ => rfl)) (pv 4) (fun _ _ => rfl))) (fun _ _ => rfl)) pa_nil)))
          (pss_one (ps_set (i := 4) sc__law_go.nd rfl (Or.inl rfl) (pe_op op_add (pv 4) pe_int))))))
        (pss_cons (ps_dput (hu_of hr) (pv 0) pe_str (pe_slice sl_list (pe_dget (hu_of hr) (pv 0) pe_str (fun _ _ => rfl)) (po_some (pv 4)) po_none) rfl)
        (pss_one (ps_ret (pe_tup (pa_cons (pe_un un_neg pe_int) (pa_cons (pe_ix ix_list (pe_ix ix_list (pv 2) (pv 3) (fun _ _ => rfl)) pe_int (fun _ _ => rfl)) pa_nil)))))))))), ?_⟩
    obtain ⟨⟨pt, hp, hpt⟩, hl, hq⟩ := id hP
    obtain ⟨t1, t2, _⟩ := txt_all k k4
    obtain ⟨F, pk⟩ := pgOk k k4
    have few := pk.few
    have pok := pk.ok
    have p1 : 0 < (prg k).length := Nat.pos_of_ne_zero fun z => pk.one (List.length_eq_zero_iff.mp z)
    have prow := prg_rows k4
    generalize prg k = pr at *
    refine ⟨_, rfl, ⟨_, rfl⟩, _, _, rfl, rfl, rfl, (by rw [sizeLine_eq]; omega), fun W nW => ?_⟩
    rw [t1]
    have sW : Same H (upd H W (.lst ((pr.map rowT).map V.str))) := (Same.refl H).upd nW
    have hW : upd H W (.lst ((pr.map rowT).map V.str)) W = some (.lst ((pr.map rowT).map V.str)) := upd_same
    generalize upd H W (.lst ((pr.map rowT).map V.str)) = H1 at sW hW ⊢
    refine ⟨W, rfl, ⟨_, SqL.of hW⟩, fun D nD => lc_it (walk_list (xs := (pr.map rowT).map V.str)) (fun i H2 => Same H1 H2 ∧ ∃ bs : List Addr, bs.length = i ∧ H2 D = some (.lst (bs.map .ref)) ∧ ∀ (j : Nat) (nd : Nd), j < i → pr[j]? = some nd → ∃ b, bs[j]? = some b ∧ H2 b = some (.lst (nd.words.map V.str)) ∧ b ≠ D) ⟨(Same.refl H1).upd nD, [], rfl, upd_same, fun j nd z => absurd z (Nat.not_lt_zero _)⟩ (fun i H2 _ s2 => SqL.of (s2.1 _ _ hW)) (fun i x H2 H3 hi s2 y => ?_) fun H2 s2 => ?_⟩
    · obtain ⟨s2, bs, bl, hD, hb⟩ := s2
      obtain ⟨rfl, y⟩ := y
      rw [List.length_map, List.length_map] at hi
      rw [List.getElem?_map, List.getElem?_map, List.getElem?_eq_getElem hi] at y
      cases y
      obtain ⟨m1, m2, m3⟩ := prow _ (List.getElem_mem hi)
      refine ⟨rfl, _, rfl, ⟨_, rfl⟩, _, _, rfl, rfl, rfl, (by rw [sizeLine_eq]; omega), fun b nb => ?_⟩
      rw [m2]
      have bD : b ≠ D := fun z => by rw [z, hD] at nb; cases nb
      have sb : Same H3 (upd H3 b (.lst (pr[i].words.map V.str))) := (Same.refl H3).upd nb
      refine ⟨_, sb _ _ hD, by rw [List.length_map, sizeLine_eq]; omega, ?_, bs ++ [b], by rw [List.length_append, bl]; rfl, by rw [upd_same, List.map_append]; rfl, fun j nd hj e => ?_⟩
      · intro c o e
        rw [upd_ne (ne_of_none e nD)]
        exact sb _ _ (s2 _ _ e)
      · by_cases z : j < i
        · obtain ⟨b', e1, e2, e3⟩ := hb j nd z e
          refine ⟨b', by rw [List.getElem?_append_left (by omega)]; exact e1, ?_, e3⟩
          rw [upd_ne e3]
          exact sb _ _ e2
        · have ej : j = i := by omega
          subst ej
          rw [List.getElem?_eq_getElem hi] at e
          cases e
          refine ⟨b, by rw [List.getElem?_append_right (by omega), bl, Nat.sub_self]; rfl, ?_, bD⟩
          rw [upd_ne bD, upd_same]
    · obtain ⟨s2, bs, bl, hD, hb⟩ := s2
      rw [List.length_map, List.length_map] at bl hb
      have s3 := sW.trans s2
      have hp3 := s3 _ _ hp
      have hl3 := s3 _ _ hl
      refine ⟨fun n σ H3 => ∃ (i sp : Nat), n = q.coins.length - sp ∧ σ = [some (.ref p), some (.str (txt k)), some (.ref D), some (.int i), some (.int sp), none] ∧ H2 = H3 ∧ i < pr.length ∧ sp ≤ q.coins.length ∧ wk pr 0 q.coins = (wk pr i (q.coins.drop sp)).map (fun z => (z.1, z.2 + sp)), ⟨_, 0, 0, rfl, rfl, rfl, p1, Nat.zero_le _, ?_⟩, fun n σ H3 hW3 => ?_⟩
      · rw [List.drop_zero]
        cases wk pr 0 q.coins with
        | none => rfl
        | some z => rfl
      obtain ⟨i, sp, en, rfl, rfl, hi, hsp, hwk⟩ := hW3
      obtain ⟨b, b1, b2, b3⟩ := hb i _ hi (List.getElem?_eq_getElem hi)
      have ai : atI (bs.map V.ref) ((i : Nat) : Int) = some (.ref b) := atI_nat (by rw [List.getElem?_map, b1]; rfl)
      have gd : pr.getD i (.give 0) = pr[i] := by rw [List.getD_eq_getElem?_getD, List.getElem?_eq_getElem hi]; rfl
      have sml := (prow _ (List.getElem_mem hi)).1
      cases hnd : pr[i] with
      | give x =>
        rw [hnd] at b2 gd sml
        have hx : x < 10 := of_decide_eq_true sml
        refine ⟨_, rfl, _, rfl, D, _, _, _, rfl, rfl, SqL.of hD, ai, b, _, _, .str "give", rfl, rfl, SqL.of b2, rfl, rfl, _, rfl, ?_⟩
        rw [show decide (V.str "give" = V.str "coin") = false by decide +kernel]
        refine iteF ?_
        have pD : p ≠ D := ne_of hp3 hD (by intro z; cases z)
        refine ⟨_, rfl, p, _, rfl, sg_coins hp3, _, rfl, _, rfl, l, _, rfl, SqL.of hl3, fun c nc => ?_⟩
        rw [cut_from (by rw [List.length_map]; exact hsp), ← List.map_drop]
        have pc : p ≠ c := ne_of_none hp3 nc
        have nc0 : H c = none := s3.free nc
        refine ⟨_, rfl, p, _, rfl, sp_coins (by rw [upd_ne pc]; exact hp3) c, ?_⟩
        have bp : b ≠ p := ne_of b2 hp3 (by intro z; cases z)
        have bc : b ≠ c := ne_of_none b2 nc
        have Dc : D ≠ c := ne_of_none hD nc
        refine ⟨_, rfl, _, rfl, _, rfl, D, _, _, _, rfl, rfl, SqL.of (by rw [upd_ne pD.symm, upd_ne Dc]; exact hD), ai, b, _, _, .str (dig x), rfl, rfl, SqL.of (by rw [upd_ne bp, upd_ne bc]; exact b2), rfl, by show 2 ≤ sizeLine; decide, fun r nr => ?_⟩
        rw [wk_give gd] at hwk
        have rp : r ≠ p := fun z => by rw [z, upd_same] at nr; cases nr
        have rc : r ≠ c := fun z => by rw [z, upd_ne pc.symm, upd_same] at nr; cases nr
        have nr0 : H r = none := by
          rw [upd_ne rp, upd_ne rc] at nr
          exact s3.free nr
        have pt3 := s3 _ _ hpt
        have ptp : pt ≠ p := ne_of hpt hp (by intro z; cases z)
        have ptc : pt ≠ c := ne_of_none pt3 nc
        have ptr : pt ≠ r := ne_of_none hpt nr0
        refine ks x sp (by rw [hwk]; show some (x, 0 + sp) = _; rw [Nat.zero_add]) _ c r nc0 ⟨⟨pt, by rw [upd_ne rp.symm, upd_same], by rw [upd_ne ptr, upd_ne ptp, upd_ne ptc]; exact pt3⟩, by rw [upd_ne rc.symm, upd_ne pc.symm, upd_same], ⟨hq.one, hq.low, hq.lt, hq.top, fun z hz => hq.coin z (List.mem_of_mem_drop hz)⟩⟩ ((((s3.fr (ch := fun b => b = p)).upd (.inr nc0)).upd (.inl rfl)).upd (.inr nr0)) (by rw [upd_same, dig_num hx])
      | coin ca cb =>
        rw [hnd] at b2 gd sml
        have ha : ca < 10 := of_decide_eq_true (Bool.and_eq_true_iff.mp sml).1
        have hb' : cb < 10 := of_decide_eq_true (Bool.and_eq_true_iff.mp sml).2
        refine ⟨_, rfl, _, rfl, D, _, _, _, rfl, rfl, SqL.of hD, ai, b, _, _, .str "coin", rfl, rfl, SqL.of b2, rfl, rfl, _, rfl, ?_⟩
        rw [show decide (V.str "coin" = V.str "coin") = true by decide +kernel]
        refine iteT ⟨_, fun _ _ z => z, ?_⟩
        refine ⟨_, rfl, _, rfl, p, _, rfl, sg_coins hp3, _, _, rfl, .inl (SqL.of hl3), rfl, _, rfl, ?_⟩
        rw [List.length_map]
        refine iteVi (fun e => ?_) (fun e => ?_)
        · have e2 : sp = q.coins.length := by omega
          rw [e2, List.drop_length, wk_none gd] at hwk
          subst e2
          exact ⟨_, rfl, by show 2 ≤ sizeLine; decide, fun r nr => kn hwk _ r (s3.upd nr) upd_same⟩
        · have hlt : sp < q.coins.length := by omega
          obtain ⟨oa, ob⟩ : ca < pr.length ∧ cb < pr.length := pok (.coin ca cb) (by rw [← hnd]; exact List.getElem_mem hi)
          have dr : q.coins.drop sp = q.coins[sp] :: q.coins.drop (sp + 1) := List.drop_eq_getElem_cons hlt
          have c01 := hq.coin _ (List.getElem_mem hlt)
          have cj : atI (q.coins.map V.int) ((sp : Nat) : Int) = some (.int q.coins[sp]) := lst_at hlt
          have nx : atI [V.str "coin", .str (dig ca), .str (dig cb)] (1 + q.coins[sp]) = some (.str (dig (if q.coins[sp] = 0 then ca else cb))) := by
            rcases c01 with z | z
            · rw [z]; rfl
            · rw [z]; rfl
          have d10 : (if q.coins[sp] = 0 then ca else cb) < 10 := by split <;> assumption
          refine ⟨_, rfl, _, rfl, D, _, _, _, rfl, rfl, SqL.of hD, ai, _, rfl, p, _, rfl, sg_coins hp3, _, rfl, l, _, _, _, rfl, rfl, SqL.of hl3, cj, _, _, rfl, rfl, b, _, _, _, rfl, rfl, SqL.of b2, nx, _, _, rfl, dig_int d10, (by show 1 ≤ 640; decide), ?_⟩
          refine ⟨_, rfl, _, _, rfl, rfl, ?_⟩
          refine ⟨_, by rw [en]; show q.coins.length - (sp + 1) < _; omega, _, sp + 1, rfl, rfl, rfl, ?_, hlt, ?_⟩
          · split
            · exact oa
            · exact ob
          · rw [hwk, dr, wk_coin gd, Option.map_map]
            congr 1
            funext z
            show (z.1, z.2 + 1 + sp) = (z.1, z.2 + (sp + 1))
            rw [Nat.add_assoc, Nat.add_comm 1 sp]
end
end Ev

set_option Elab.async false
set_option linter.all false
set_option maxRecDepth 100000
set_option maxHeartbeats 2000000
/-! The law's keepers: one sees, one is cut. -/
namespace Ev
open PySem PySem.Spec PyProof.Rows L2 He TL
def mostV : Option Int → V
  | none => .non
  | some m => .int m
def kpD (k : Kp) (t : Addr) : List (Key × V) := [(.inr "most", mostV k.most), (.inr "things", .ref t), (.inr "count", .int k.count), (.inr "total", .int k.total)]
section
variable {H : Hp} {o t : Addr} {k : Kp}
theorem kg_most (h : H o = some (.dK (kpD k t))) : DGet H o (.str "most") (some (mostV k.most)) := DGet.k (k := Sum.inr "most") h
theorem kg_things (h : H o = some (.dK (kpD k t))) : DGet H o (.str "things") (some (.ref t)) := DGet.k (k := Sum.inr "things") h
theorem kg_count (h : H o = some (.dK (kpD k t))) : DGet H o (.str "count") (some (.int k.count)) := DGet.k (k := Sum.inr "count") h
theorem kg_total (h : H o = some (.dK (kpD k t))) : DGet H o (.str "total") (some (.int k.total)) := DGet.k (k := Sum.inr "total") h
theorem kp_things (h : H o = some (.dK (kpD k t))) (x : Addr) : DPut H o (.str "things") (.ref x) (upd H o (.dK (kpD k x))) := DPut.k (k := Sum.inr "things") h (by show 4 < sizeLine; decide)
theorem kp_count (h : H o = some (.dK (kpD k t))) (x : Int) : DPut H o (.str "count") (.int x) (upd H o (.dK (kpD { k with count := x } t))) := DPut.k (k := Sum.inr "count") h (by show 4 < sizeLine; decide)
theorem kp_total (h : H o = some (.dK (kpD k t))) (x : Int) : DPut H o (.str "total") (.int x) (upd H o (.dK (kpD { k with total := x } t))) := DPut.k (k := Sum.inr "total") h (by show 4 < sizeLine; decide)
theorem kp_most (h : H o = some (.dK (kpD k t))) (x : Int) : DPut H o (.str "most") (.int x) (upd H o (.dK (kpD { k with most := some x } t))) := DPut.k (k := Sum.inr "most") h (by show 4 < sizeLine; decide)
end
/-- a keeper of the law's -/
def KL (H : Hp) (o t : Addr) (k : Kp) : Prop := H o = some (.dK (kpD k t)) ∧ H t = some (.lst (k.things.map .str))
/-- too few coins -/
def LShort (H : Hp) (q : Pool) (Q : VK) : Prop := ∀ H' r, Same H H' → H' r = some (.tup [.int 2, .int q.coins.length]) → Q (.ref r) H'
/-- ok -/
def LOk (H : Hp) (p l pd kd o t : Addr) (q' : Pool) (k' : Kp) (Q : VK) : Prop := ∀ H' l' t' r, (l' = l ∨ H l' = none) → (t' = t ∨ H t' = none) → t' ≠ l' → PoolL H' p l' pd kd q' → KL H' o t' k' → Fr (fun b => b = p ∨ b = o ∨ b = t) H H' → H' r = some (.tup [.int (-1), .str "ok"]) → Q (.ref r) H'
def sp__law_see (_K : PySem.W.Frag) : Sp := fun vs H Q _ => ∃ (p l pd kd o t : Addr) (q : Pool) (k : Kp) (z : Str) (wv : V), vs = [.ref p, .ref o, .str z, wv] ∧ PoolL H p l pd kd q ∧ KL H o t k ∧ t ≠ l ∧ o ≠ p ∧ 0 ≤ k.count ∧ k.count < 2 ^ 63 ∧ q.coins.length ≤ 100000 ∧ k.things.length ≤ 100000 ∧
  ((∃ m, wv = .non ∧ k.most = some m ∧ 1 ≤ m ∧ (k.things.length : Int) = min k.count m ∧ (seeD q k.count m k.things z = none → LShort H q Q) ∧ ∀ q' ths', seeD q k.count m k.things z = some (q', ths') → LOk H p l pd kd o t q' ⟨ths', k.count + 1, k.most, k.total⟩ Q) ∨
   (∃ w, wv = .int w ∧ k.most = none ∧ 1 ≤ w ∧ 0 ≤ k.total ∧ k.total + w ≤ 2 ^ 63 ∧ (seeW q k.count k.total k.things z w = none → LShort H q Q) ∧ ∀ q' ths', seeW q k.count k.total k.things z w = some (q', ths') → LOk H p l pd kd o t q' ⟨ths', k.count + 1, k.most, k.total + w⟩ Q))
section
variable {P : Program} {w : World} {K : PySem.W.Frag} {mg : Str → Option Value} {base h : Heap}
abbrev N__law_see : List Str := ["_law_state", "_law_keeper", "_law_thing", "_law_weight", "_law_count", "_law_place"]
abbrev P__law_see : List Str := ["_law_state", "_law_keeper", "_law_thing", "_law_weight"]
theorem sc__law_see : FnScope N__law_see P__law_see (defScope s__law_see) := ⟨rfl, rfl, rfl, by decide +kernel, rfl, by decide +kernel, by decide +kernel⟩
theorem ok__law_see (T : Tx w K mg h) : Cal P w K mg base 2 (ga K "_law_see") (sp__law_see K) := by
  obtain ⟨fd, F⟩ := T.fn__law_see
  refine okOf F sc__law_see (fun _ _ _ _ _ _ us hl => match us, hl with | [_, _, _, _], _ => rfl) (fun vs H Q E h => ?_) (fun cdv A outer s H vs Q E hr hsp => ?_)
  · repeat (first | (obtain ⟨h1, _⟩ := h; subst h1; rfl) | (obtain ⟨_, h⟩ := h))
  · obtain ⟨p, l, pd, kd, o, t, q, k, z, wv, rfl, hP, ⟨ho, ht⟩, tl_, op, c0, c1, hl5, hk5, hc⟩ := hsp
    refine ⟨_, (pss_cons (ps_set (i := 4) sc__law_see.nd rfl (Or.inl rfl) (pe_dget (hu_of hr) (pv 1) pe_str (fun _ _ => rfl)))
        (pss_cons (ps_set (i := 5) sc__law_see.nd rfl (Or.inl rfl) (pv 4))
        (pss_cons (ps_if (PW.pt (pw_and (pt_cmpR op_isN (pv 3) pe_non (nomark _)) (pw_and1 (pt_cmpR op_ge (pv 4) (pe_dget (hu_of hr) (pv 1) pe_str (fun _ _ => rfl)) (nomark _)))))
          (pss_one (ps_set (i := 5) sc__law_see.nd rfl (Or.inl rfl) (pc_f (ok__law_draw T) hr (by decide) T.gl__law_draw tkE (pa_cons (pv 0) (pa_cons (pe_op op_add (pv 4) pe_int) pa_nil)))))
          pss_nil)
        (pss_cons (ps_if (PW.pt (pw_and (pt_cmpR op_notN (pv 3) pe_non (nomark _)) (pw_and1 (pt_cmpR op_gt (pv 4) pe_int (nomark _)))))
          (pss_one (ps_set (i := 5) sc__law_see.nd rfl (Or.inl rfl) (pc_f (ok__law_draw T) hr (by decide) T.gl__law_draw tkE (pa_cons (pv 0) (pa_cons (pe_op op_add (pe_dget (hu_of hr) (pv 1) pe_str (fun _ _ => rfl)) (pv 3)) pa_nil)))))
          pss_nil)
        (pss_cons (ps_if (pt_cmpR op_isN (pv 5) pe_non (nomark _))
          (pss_one (ps_ret (pe_tup (pa_cons pe_int (pa_cons (pe_callB call_len_seq (by rfl) T.fr_len boot_len (pa_cons (pe_dget (hu_of hr) (pv 0) pe_str (fun _ _ => rfl)) pa_nil)) pa_nil)))))
          pss_nil)
        (pss_cons (ps_if (PW.pt (pw_and (pt_cmpR op_notN (pv 3) pe_non (nomark _)) (pw_and1 (PW.pt (pw_or (pt_cmpR op_eq (pv 4) pe_int (nomark _)) (pw_or1 (pt_cmpR op_lt (pv 5) (pv 3) (nomark _))))))))
          (pss_one (ps_dput (hu_of hr) (pv 1) pe_str (pe_lst (pa_cons (pv 2) pa_nil)) rfl))
          pss_nil)
        (pss_cons (ps_if (PW.pt (pw_and (pt_cmpR op_isN (pv 3) pe_non (nomark _)) (pw_and1 (pt_cmpR op_lt (pv 4) (pe_dget (hu_of hr) (pv 1) pe_str (fun _ _ => rfl)) (nomark _)))))
          (pss_one (ps_expr (pe_bm PySem.F.plainAttrs_list PySem.F.slot_list_append PySem.F.type_list_append mt_append (pe_dget (hu_of hr) (pv 1) pe_str (fun _ _ => rfl)) (pa_cons (pv 2) pa_nil))))
          (pss_one (ps_if (PW.pt (pw_and (pt_cmpR op_isN (pv 3) pe_non (nomark _)) (pw_and1 (pt_cmpR op_lt (pv 5) (pe_dget (hu_of hr) (pv 1) pe_str (fun _ _ => rfl)) (nomark _)))))
            (pss_one (ps_asg (pv 2) (pg_sub (pe_dget (hu_of hr) (pv 1) pe_str (fun _ _ => rfl)) (pv 5) set_list)))
            pss_nil)))
        (pss_cons (ps_dput (hu_of hr) (pv 1) pe_str (pe_op op_add (pv 4) pe_int) rfl)
        (pss_cons (ps_if (pt_cmpR op_notN (pv 3) pe_non (nomark _))
          (pss_one (ps_dput (hu_of hr) (pv 1) pe_str (pe_op op_add (pe_dget (hu_of hr) (pv 1) pe_str (fun _ _ => rfl)) (pv 3)) rfl))
          pss_nil)
        (pss_one (ps_ret (pe_tup (pa_cons (pe_un un_neg pe_int) (pa_cons pe_str pa_nil)))))))))))))), ?_⟩
    obtain ⟨⟨pt, hp, hpt⟩, hl, hq⟩ := id hP
    have to : t ≠ o := ne_of ht ho (by intro z; cases z)
    have tp : t ≠ p := ne_of ht hp (by intro z; cases z)
    have lp : l ≠ p := ne_of hl hp (by intro z; cases z)
    have lo : l ≠ o := ne_of hl ho (by intro z; cases z)
    refine ⟨_, rfl, o, _, rfl, kg_count ho, _, rfl, ?_⟩
    rcases hc with ⟨m, rfl, hm, m1, hlen, kn, ks⟩ | ⟨wt, rfl, hm, w1, t0, tw, kn, ks⟩
    · -- the end: count; return
      have fin : ∀ (H1 : Hp) (l' : Addr) (q' : Pool) (ths' : List Str) (pv : Option V), (l' = l ∨ H l' = none) → seeD q k.count m k.things z = some (q', ths') → PoolL H1 p l' pd kd q' → H1 o = some (.dK (kpD k t)) → H1 t = some (.lst (ths'.map .str)) → t ≠ l' → Fr (fun b => b = p ∨ b = o ∨ b = t) H H1 →
          ∀ r, upd H1 o (.dK (kpD ⟨k.things, k.count + 1, k.most, k.total⟩ t)) r = none → Q (.ref r) (upd (upd H1 o (.dK (kpD ⟨k.things, k.count + 1, k.most, k.total⟩ t))) r (.tup [.int (-1), .str "ok"])) := by
        intro H1 l' q' ths' pv hl' e hP1 ho1 ht1 tl1 f1 r nr
        have ro : r ≠ o := fun z => by rw [z, upd_same] at nr; cases nr
        have nr1 : H1 r = none := by rw [upd_ne ro] at nr; exact nr
        obtain ⟨⟨pt1, hp1, hpt1⟩, hl1, hq1⟩ := hP1
        have rt : r ≠ t := (ne_of_none ht1 nr1).symm
        have kp' : ∀ b u, H1 b = some u → b ≠ o → upd (upd H1 o (.dK (kpD ⟨k.things, k.count + 1, k.most, k.total⟩ t))) r (.tup [.int (-1), .str "ok"]) b = some u := fun b u e bo => by
          rw [upd_ne (ne_of_none e nr1), upd_ne bo]
          exact e
        have pt1o : pt1 ≠ o := ne_of hpt1 ho1 (by intro z; cases z)
        have l1o : l' ≠ o := ne_of hl1 ho1 (by intro z; cases z)
        refine ks q' ths' e _ l' t r hl' (.inl rfl) tl1 ⟨⟨pt1, kp' _ _ hp1 op.symm, kp' _ _ hpt1 pt1o⟩, kp' _ _ hl1 l1o, hq1⟩ ⟨?_, kp' _ _ ht1 to⟩ ?_ upd_same
        · rw [upd_ne ro.symm, upd_same]
          rfl
        · intro b u e nb
          exact kp' _ _ (f1 _ _ e nb) fun z => nb (.inr (.inl z))
      refine ⟨_, rfl, rfl, _, rfl, iteT ⟨_, rfl, _, rfl, o, _, rfl, kg_most ho, ?_⟩⟩
      rw [hm]
      refine ⟨_, _, rfl, rfl, _, rfl, ?_⟩
      refine iteD (fun hge => ?_) (fun hlt => ?_)
      · -- a place is drawn
        have hnc : ¬ k.count < m := by omega
        refine ⟨_, rfl, _, rfl, _, _, rfl, rfl, p, l, pd, kd, q, k.count + 1, rfl, hP, hl5, ⟨by omega, by omega⟩, fun hn H1 s1 => ?_, fun a q' hd H1 l' nl' hP1 f1 => ?_⟩
        · refine ⟨_, rfl, rfl, _, rfl, iteF ?_⟩
          refine ⟨_, rfl, rfl, _, rfl, iteT ?_⟩
          refine ⟨_, rfl, p, _, rfl, sg_coins (s1 _ _ hp), _, _, rfl, .inl (SqL.of (s1 _ _ hl)), by show 2 ≤ sizeLine; decide, fun r nr => ?_⟩
          rw [List.length_map]
          exact kn (by unfold seeD; rw [if_neg hnc, hn]; rfl) _ r (s1.upd nr) upd_same
        · have ho1 := f1 _ _ ho op
          have ht1 := f1 _ _ ht tp
          have tl1 : t ≠ l' := ne_of_none ht nl'
          obtain ⟨g1, g2, g3, _⟩ := Pool.draw_ok ⟨by omega, by omega⟩ hq hd
          have f1' : Fr (fun b => b = p ∨ b = o ∨ b = t) H H1 := f1.mono fun b e => .inl e
          have sd : ∀ ths', (if a < m then k.things.set a.toNat z else k.things) = ths' → seeD q k.count m k.things z = some (q', ths') := fun ths' e => by
            unfold seeD
            rw [if_neg hnc, hd]
            show some (q', if a < m then k.things.set a.toNat z else k.things) = _
            rw [e]
          refine ⟨_, rfl, rfl, _, rfl, iteF ?_⟩
          refine ⟨_, rfl, rfl, _, rfl, iteF ?_⟩
          refine ⟨_, rfl, rfl, _, rfl, iteF ?_⟩
          refine ⟨_, rfl, rfl, _, rfl, iteT ⟨_, rfl, _, rfl, o, _, rfl, kg_most ho1, ?_⟩⟩
          rw [hm]
          refine ⟨_, _, rfl, rfl, _, rfl, ?_⟩
          rw [decide_eq_false hnc]
          refine iteF ?_
          refine ⟨_, rfl, rfl, _, rfl, iteT ⟨_, rfl, _, rfl, o, _, rfl, kg_most ho1, ?_⟩⟩
          rw [hm]
          refine ⟨_, _, rfl, rfl, _, rfl, ?_⟩
          refine iteD (fun ha => ?_) (fun ha => ?_)
          · refine ⟨_, rfl, _, rfl, o, _, rfl, kg_things ho1, _, rfl, t, _, _, a.toNat, rfl, rfl, ht1, ixN_nat g2 (by rw [List.length_map]; omega), ?_⟩
            refine ⟨_, rfl, _, _, rfl, rfl, _, rfl, o, _, rfl, kp_count (by rw [upd_ne to.symm]; exact ho1) _, ?_⟩
            refine ⟨_, rfl, rfl, _, rfl, iteF ⟨_, rfl, by show 2 ≤ sizeLine; decide, fun r nr => ?_⟩⟩
            obtain ⟨⟨pt1, hp1, hpt1⟩, hl1, hq1⟩ := hP1
            exact fin (upd H1 t (.lst ((k.things.map V.str).set a.toNat (.str z)))) l' q' (k.things.set a.toNat z) none (.inr nl') (sd _ (if_pos ha)) ⟨⟨pt1, by rw [upd_ne tp.symm]; exact hp1, by rw [upd_ne (ne_of hpt1 ht1 (by intro z; cases z))]; exact hpt1⟩, by rw [upd_ne tl1.symm]; exact hl1, hq1⟩ (by rw [upd_ne to.symm]; exact ho1) (by rw [upd_same, List.map_set]) tl1 (f1'.upd (.inl (.inr (.inr rfl)))) r nr
          · refine ⟨_, rfl, _, _, rfl, rfl, _, rfl, o, _, rfl, kp_count ho1 _, ?_⟩
            refine ⟨_, rfl, rfl, _, rfl, iteF ⟨_, rfl, by show 2 ≤ sizeLine; decide, fun r nr => ?_⟩⟩
            exact fin H1 l' q' k.things none (.inr nl') (sd _ (if_neg ha)) hP1 ho1 ht1 tl1 f1' r nr
      · have hc' : k.count < m := by omega
        refine ⟨_, rfl, rfl, _, rfl, iteF ?_⟩
        refine ⟨_, rfl, rfl, _, rfl, iteF ?_⟩
        refine ⟨_, rfl, rfl, _, rfl, iteF ?_⟩
        refine ⟨_, rfl, rfl, _, rfl, iteT ⟨_, rfl, _, rfl, o, _, rfl, kg_most ho, ?_⟩⟩
        rw [hm]
        refine ⟨_, _, rfl, rfl, _, rfl, ?_⟩
        rw [decide_eq_true hc']
        refine iteT ⟨_, rfl, o, _, rfl, kg_things ho, .inl ⟨rfl, _, .inl (.inl ht)⟩, _, rfl, t, _, _, rfl, rfl, ht, (by rw [List.length_map, sizeLine_eq]; omega), ?_⟩
        refine ⟨_, rfl, _, _, rfl, rfl, _, rfl, o, _, rfl, kp_count (by rw [upd_ne to.symm]; exact ho) _, ?_⟩
        refine ⟨_, rfl, rfl, _, rfl, iteF ⟨_, rfl, by show 2 ≤ sizeLine; decide, fun r nr => ?_⟩⟩
        exact fin (upd H t (.lst ((k.things.map V.str) ++ [.str z]))) l q (k.things ++ [z]) none (.inl rfl) (by unfold seeD; rw [if_pos hc']) ⟨⟨pt, by rw [upd_ne tp.symm]; exact hp, by rw [upd_ne (ne_of hpt ht (by intro z; cases z))]; exact hpt⟩, by rw [upd_ne tl_.symm]; exact hl, hq⟩ (by rw [upd_ne to.symm]; exact ho) (by rw [upd_same, List.map_append]; rfl) tl_ (Fr.refl.upd (.inl (.inr (.inr rfl)))) r nr
    · -- the end: things, count, total
      have fin : ∀ (H1 : Hp) (l' t' : Addr) (q' : Pool) (ths' : List Str), (l' = l ∨ H l' = none) → (t' = t ∨ H t' = none) → t' ≠ l' → seeW q k.count k.total k.things z wt = some (q', ths') → PoolL H1 p l' pd kd q' → H1 o = some (.dK (kpD k t')) → H1 t' = some (.lst (ths'.map .str)) → Fr (fun b => b = p ∨ b = o ∨ b = t) H H1 →
          ∀ r, upd (upd H1 o (.dK (kpD ⟨k.things, k.count + 1, k.most, k.total⟩ t'))) o (.dK (kpD ⟨k.things, k.count + 1, k.most, k.total + wt⟩ t')) r = none → Q (.ref r) (upd (upd (upd H1 o (.dK (kpD ⟨k.things, k.count + 1, k.most, k.total⟩ t'))) o (.dK (kpD ⟨k.things, k.count + 1, k.most, k.total + wt⟩ t'))) r (.tup [.int (-1), .str "ok"])) := by
        intro H1 l' t' q' ths' hl' ht' tl1 e hP1 ho1 ht1 f1 r nr
        have ro : r ≠ o := fun z => by rw [z, upd_same] at nr; cases nr
        have nr1 : H1 r = none := by rw [upd_ne ro, upd_ne ro] at nr; exact nr
        obtain ⟨⟨pt1, hp1, hpt1⟩, hl1, hq1⟩ := hP1
        have kp' : ∀ b u, H1 b = some u → b ≠ o → upd (upd (upd H1 o (.dK (kpD ⟨k.things, k.count + 1, k.most, k.total⟩ t'))) o (.dK (kpD ⟨k.things, k.count + 1, k.most, k.total + wt⟩ t'))) r (.tup [.int (-1), .str "ok"]) b = some u := fun b u e bo => by
          rw [upd_ne (ne_of_none e nr1), upd_ne bo, upd_ne bo]
          exact e
        have pt1o : pt1 ≠ o := ne_of hpt1 ho1 (by intro z; cases z)
        have l1o : l' ≠ o := ne_of hl1 ho1 (by intro z; cases z)
        have t1o : t' ≠ o := ne_of ht1 ho1 (by intro z; cases z)
        refine ks q' ths' e _ l' t' r hl' ht' tl1 ⟨⟨pt1, kp' _ _ hp1 op.symm, kp' _ _ hpt1 pt1o⟩, kp' _ _ hl1 l1o, hq1⟩ ⟨?_, kp' _ _ ht1 t1o⟩ ?_ upd_same
        · rw [upd_ne ro.symm, upd_same]
          rfl
        · intro b u e nb
          exact kp' _ _ (f1 _ _ e nb) fun z => nb (.inr (.inl z))
      refine ⟨_, rfl, rfl, _, rfl, iteF (iteF ?_)⟩
      refine ⟨_, rfl, rfl, _, rfl, iteT ⟨_, rfl, _, _, rfl, rfl, _, rfl, ?_⟩⟩
      refine iteD (fun hgt => ?_) (fun hle => ?_)
      · have hc : ¬ k.count = 0 := by omega
        refine ⟨_, rfl, _, rfl, o, _, rfl, kg_total ho, _, rfl, _, _, rfl, rfl, p, l, pd, kd, q, k.total + wt, rfl, hP, hl5, ⟨by omega, by omega⟩, fun hn H1 s1 => ?_, fun a q' hd H1 l' nl' hP1 f1 => ?_⟩
        · refine ⟨_, rfl, rfl, _, rfl, iteT ?_⟩
          refine ⟨_, rfl, p, _, rfl, sg_coins (s1 _ _ hp), _, _, rfl, .inl (SqL.of (s1 _ _ hl)), by show 2 ≤ sizeLine; decide, fun r nr => ?_⟩
          rw [List.length_map]
          exact kn (by unfold seeW; rw [if_neg hc, hn]; rfl) _ r (s1.upd nr) upd_same
        · have ho1 := f1 _ _ ho op
          have ht1 := f1 _ _ ht tp
          have tl1 : t ≠ l' := ne_of_none ht nl'
          have f1' : Fr (fun b => b = p ∨ b = o ∨ b = t) H H1 := f1.mono fun b e => .inl e
          have sd : ∀ ths', (if a < wt then [z] else k.things) = ths' → seeW q k.count k.total k.things z wt = some (q', ths') := fun ths' e => by
            unfold seeW
            rw [if_neg hc, hd]
            show some (q', if a < wt then [z] else k.things) = _
            rw [e]
          refine ⟨_, rfl, rfl, _, rfl, iteF ?_⟩
          refine ⟨_, rfl, rfl, _, rfl, iteT ⟨_, rfl, rfl, _, rfl, ?_⟩⟩
          rw [decide_eq_false fun z => hc (vint_eq.mp z)]
          refine iteF ⟨_, rfl, _, rfl, _, _, rfl, rfl, _, rfl, ?_⟩
          refine iteD (fun ha => ?_) (fun ha => ?_)
          · refine ⟨_, rfl, by show 1 ≤ sizeLine; decide, fun x nx => ?_⟩
            have ox : o ≠ x := ne_of_none ho1 nx
            refine ⟨_, rfl, o, _, rfl, kp_things (by rw [upd_ne ox]; exact ho1) x, ?_⟩
            refine ⟨_, rfl, rfl, _, rfl, iteF (iteF ⟨_, rfl, rfl, _, rfl, iteF (iteF ?_)⟩)⟩
            refine ⟨_, rfl, _, _, rfl, rfl, _, rfl, o, _, rfl, kp_count upd_same _, ?_⟩
            refine ⟨_, rfl, rfl, _, rfl, iteT ⟨_, rfl, o, _, rfl, kg_total upd_same, _, rfl, _, _, rfl, rfl, _, rfl, o, _, rfl, kp_total upd_same _, _, rfl, by show 2 ≤ sizeLine; decide, fun r nr => ?_⟩⟩
            obtain ⟨⟨pt1, hp1, hpt1⟩, hl1, hq1⟩ := hP1
            have nx0 : H x = none := f1.freeP (by rw [hp1]; exact fun z => nomatch z) nx
            have xl : x ≠ l' := (ne_of_none hl1 nx).symm
            have xo : x ≠ o := ox.symm
            exact fin (upd (upd H1 x (.lst [.str z])) o (.dK (kpD k x))) l' x q' [z] (.inr nl') (.inr nx0) xl (sd _ (if_pos ha)) ⟨⟨pt1, by rw [upd_ne op.symm, upd_ne (ne_of_none hp1 nx)]; exact hp1, by rw [upd_ne (ne_of hpt1 ho1 (by intro z; cases z)), upd_ne (ne_of_none hpt1 nx)]; exact hpt1⟩, by rw [upd_ne (ne_of hl1 ho1 (by intro z; cases z)), upd_ne xl.symm]; exact hl1, hq1⟩ upd_same (by rw [upd_ne xo, upd_same]; rfl) ((f1'.upd (.inr nx0)).upd (.inl (.inr (.inl rfl)))) r nr
          · refine ⟨_, rfl, rfl, _, rfl, iteF (iteF ⟨_, rfl, rfl, _, rfl, iteF (iteF ?_)⟩)⟩
            refine ⟨_, rfl, _, _, rfl, rfl, _, rfl, o, _, rfl, kp_count ho1 _, ?_⟩
            refine ⟨_, rfl, rfl, _, rfl, iteT ⟨_, rfl, o, _, rfl, kg_total upd_same, _, rfl, _, _, rfl, rfl, _, rfl, o, _, rfl, kp_total upd_same _, _, rfl, by show 2 ≤ sizeLine; decide, fun r nr => ?_⟩⟩
            exact fin H1 l' t q' k.things (.inr nl') (.inl rfl) tl1 (sd _ (if_neg ha)) hP1 ho1 ht1 f1' r nr
      · have hc : k.count = 0 := by omega
        refine ⟨_, rfl, rfl, _, rfl, iteF ?_⟩
        refine ⟨_, rfl, rfl, _, rfl, iteT ⟨_, rfl, rfl, _, rfl, ?_⟩⟩
        rw [decide_eq_true (vint_eq.mpr hc)]
        refine iteT (iteT ⟨_, rfl, by show 1 ≤ sizeLine; decide, fun x nx => ?_⟩)
        have ox : o ≠ x := ne_of_none ho nx
        refine ⟨_, rfl, o, _, rfl, kp_things (by rw [upd_ne ox]; exact ho) x, ?_⟩
        refine ⟨_, rfl, rfl, _, rfl, iteF (iteF ⟨_, rfl, rfl, _, rfl, iteF (iteF ?_)⟩)⟩
        refine ⟨_, rfl, _, _, rfl, rfl, _, rfl, o, _, rfl, kp_count upd_same _, ?_⟩
        refine ⟨_, rfl, rfl, _, rfl, iteT ⟨_, rfl, o, _, rfl, kg_total upd_same, _, rfl, _, _, rfl, rfl, _, rfl, o, _, rfl, kp_total upd_same _, _, rfl, by show 2 ≤ sizeLine; decide, fun r nr => ?_⟩⟩
        have xl : x ≠ l := (ne_of_none hl nx).symm
        have xo : x ≠ o := ox.symm
        exact fin (upd (upd H x (.lst [.str z])) o (.dK (kpD k x))) l x q [z] (.inl rfl) (.inr nx) xl (by unfold seeW; rw [if_pos hc]) ⟨⟨pt, by rw [upd_ne op.symm, upd_ne (ne_of_none hp nx)]; exact hp, by rw [upd_ne (ne_of hpt ho (by intro z; cases z)), upd_ne (ne_of_none hpt nx)]; exact hpt⟩, by rw [upd_ne lo, upd_ne xl.symm]; exact hl, hq⟩ upd_same (by rw [upd_ne xo, upd_same]; rfl) ((Fr.refl.upd (.inr nx)).upd (.inl (.inr (.inl rfl)))) r nr
end
end Ev

set_option Elab.async false
set_option linter.all false
set_option maxRecDepth 100000
set_option maxHeartbeats 2000000
/-! The law's cut. -/
namespace Ev
open PySem PySem.Spec PyProof.Rows L2 He TL
def LNo (H : Hp) (n : Int) (Q : VK) : Prop := ∀ H' r, Same H H' → H' r = some (.tup [.int n, .non]) → Q (.ref r) H'
/-- too few coins, found out late: the state is as it was -/
def LShort2 (H : Hp) (p l pd kd : Addr) (q : Pool) (Q : VK) : Prop := ∀ H' r, PoolL H' p l pd kd q → Fr (fun b => b = p) H H' → H' r = some (.tup [.int 2, .int q.coins.length]) → Q (.ref r) H'
def sp__law_cut (_K : PySem.W.Frag) : Sp := fun vs H Q _ => ∃ (p l pd kd o t : Addr) (q : Pool) (k : Kp) (m n : Int), vs = [.ref p, .ref o, .int n] ∧ PoolL H p l pd kd q ∧ KL H o t k ∧ t ≠ l ∧ o ≠ p ∧ k.most = some m ∧ q.coins.length ≤ 100000 ∧ k.things.length ≤ 100000 ∧ ((n < 1 ∨ n > m) → LNo H 4 Q) ∧
  (¬ (n < 1 ∨ n > m) → (q.draws (dn k.things.length n) = none → LShort2 H p l pd kd q Q) ∧ ∀ as q', q.draws (dn k.things.length n) = some (as, q') → LOk H p l pd kd o t q' ⟨pops k.things as, k.count, some n, k.total⟩ Q)
theorem dn_nil {i j : Int} (h : i ≤ j) : dn i j = [] := by
  unfold dn
  rw [show (i - j).toNat = 0 by omega]
  rfl
theorem dn_cons {i j : Int} (h : j < i) : dn i j = i :: dn (i - 1) j := by
  unfold dn
  rw [show (i - j).toNat = (i - 1 - j).toNat + 1 by omega, List.range_succ_eq_map, List.map_cons, List.map_map]
  congr 1
  · show i - ((0 : Nat) : Int) = i
    omega
  · refine List.map_congr_left fun k _ => ?_
    show i - ((k + 1 : Nat) : Int) = i - 1 - (k : Int)
    omega
section
variable {P : Program} {w : World} {K : PySem.W.Frag} {mg : Str → Option Value} {base h : Heap}
abbrev N__law_cut : List Str := ["_law_state", "_law_keeper", "_law_many", "_law_things", "_law_before", "_law_place"]
abbrev P__law_cut : List Str := ["_law_state", "_law_keeper", "_law_many"]
theorem sc__law_cut : FnScope N__law_cut P__law_cut (defScope s__law_cut) := ⟨rfl, rfl, rfl, by decide +kernel, rfl, by decide +kernel, by decide +kernel⟩
theorem ok__law_cut (T : Tx w K mg h) : Cal P w K mg base 2 (ga K "_law_cut") (sp__law_cut K) := by
  obtain ⟨fd, F⟩ := T.fn__law_cut
  refine okOf F sc__law_cut (fun _ _ _ _ _ _ us hl => match us, hl with | [_, _, _], _ => rfl) (fun vs H Q E h => ?_) (fun cdv A outer s H vs Q E hr hsp => ?_)
  · repeat (first | (obtain ⟨h1, _⟩ := h; subst h1; rfl) | (obtain ⟨_, h⟩ := h))
  · obtain ⟨p, l, pd, kd, o, t, q, k, m, n, rfl, hP, ⟨ho, ht⟩, tl_, op, hm, hl5, hk5, kn, ks⟩ := hsp
    refine ⟨_, (pss_cons (ps_if (PW.pt (pw_or (pt_cmpR op_lt (pv 2) pe_int (nomark _)) (pw_or1 (pt_cmpR op_gt (pv 2) (pe_dget (hu_of hr) (pv 1) pe_str (fun _ _ => rfl)) (nomark _)))))
          (pss_one (ps_ret (pe_tup (pa_cons pe_int (pa_cons pe_non pa_nil)))))
          pss_nil)
        (pss_cons (ps_set (i := 3) sc__law_cut.nd rfl (Or.inl rfl) (pe_callTy call_list_of (by rfl) T.fr_list boot_list (pa_cons (pe_dget (hu_of hr) (pv 1) pe_str (fun _ _ => rfl)) pa_nil)))
        (pss_cons (ps_set (i := 4) sc__law_cut.nd rfl (Or.inl rfl) (pe_tup (pa_cons (pe_dget (hu_of hr) (pv 0) pe_str (fun _ _ => rfl)) (pa_cons (pe_dget (hu_of hr) (pv 0) pe_str (fun _ _ => rfl)) pa_nil))))
        (pss_cons (ps_while powE (pt_cmpR op_gt (pe_callB call_len_seq (by rfl) T.fr_len boot_len (pa_cons (pv 3) pa_nil)) (pv 2) (nomark _))
          (pss_cons (ps_set (i := 5) sc__law_cut.nd rfl (Or.inl rfl) (pc_f (ok__law_draw T) hr (by decide) T.gl__law_draw tkE (pa_cons (pv 0) (pa_cons (pe_callB call_len_seq (by rfl) T.fr_len boot_len (pa_cons (pv 3) pa_nil)) pa_nil))))
          (pss_cons (ps_if (pt_cmpR op_isN (pv 5) pe_non (nomark _))
            (pss_cons (ps_asg (pv 4) (pg_tup (by rfl) (pgs_cons (pg_sub (pv 0) pe_str (set_dict (hu_of hr))) (pgs_cons (pg_sub (pv 0) pe_str (set_dict (hu_of hr))) pgs_nil))))
            (pss_one (ps_ret (pe_tup (pa_cons pe_int (pa_cons (pe_callB call_len_seq (by rfl) T.fr_len boot_len (pa_cons (pe_dget (hu_of hr) (pv 0) pe_str (fun _ _ => rfl)) pa_nil)) pa_nil))))))
            pss_nil)
          (pss_one (ps_expr (pe_bm PySem.F.plainAttrs_list PySem.F.slot_list_pop PySem.F.type_list_pop mt_popAt (pv 3) (pa_cons (pv 5) pa_nil)))))))
        (pss_cons (ps_dput (hu_of hr) (pv 1) pe_str (pv 3) rfl)
        (pss_cons (ps_dput (hu_of hr) (pv 1) pe_str (pv 2) rfl)
        (pss_one (ps_ret (pe_tup (pa_cons (pe_un un_neg pe_int) (pa_cons pe_str pa_nil))))))))))), ?_⟩
    obtain ⟨⟨pt, hp, hpt⟩, hl, hq⟩ := id hP
    have to : t ≠ o := ne_of ht ho (by intro z; cases z)
    have tp : t ≠ p := ne_of ht hp (by intro z; cases z)
    refine ⟨_, rfl, _, _, rfl, rfl, _, rfl, ?_⟩
    refine iteD (fun h1 => ?_) (fun h1 => ?_)
    · exact iteT ⟨by show 2 ≤ sizeLine; decide, fun r nr => kn (.inl h1) _ r ((Same.refl H).upd nr) upd_same⟩
    refine ⟨_, rfl, _, rfl, o, _, rfl, kg_most ho, ?_⟩
    rw [hm]
    refine ⟨_, _, rfl, rfl, _, rfl, ?_⟩
    refine iteD (fun h2 => ?_) (fun h2 => ?_)
    · exact ⟨by show 2 ≤ sizeLine; decide, fun r nr => kn (.inr h2) _ r ((Same.refl H).upd nr) upd_same⟩
    obtain ⟨k1, k2⟩ := ks (by omega)
    refine ⟨_, rfl, o, _, rfl, kg_things ho, _, _, rfl, .inl (SqL.of ht), fun x nx => ?_⟩
    have s1 : Same H (upd H x (.lst (k.things.map .str))) := (Same.refl H).upd nx
    refine ⟨_, rfl, p, _, rfl, sg_pool (s1 _ _ hp), _, rfl, p, _, rfl, sg_coins (s1 _ _ hp), by show 2 ≤ sizeLine; decide, fun bf nbf => ?_⟩
    have s2 := s1.upd (o := .tup [.ref pt, .ref l]) nbf
    have xbf : x ≠ bf := ne_of_none upd_same nbf
    have nbf0 : H bf = none := s1.free nbf
    have xp : x ≠ p := (ne_of_none hp nx).symm
    have bp : bf ≠ p := (ne_of_none hp nbf0).symm
    have xo : x ≠ o := (ne_of_none ho nx).symm
    -- while len(things) > many
    refine ⟨fun c σ H2 => ∃ (l2 : Addr) (q2 : Pool) (as : List Int) (v : Option V), c = (pops k.things as).length ∧ σ = [some (.ref p), some (.ref o), some (.int n), some (.ref x), some (.ref bf), v] ∧ (l2 = l ∨ H l2 = none) ∧ x ≠ l2 ∧ PoolL H2 p l2 pd kd q2 ∧ Fr (fun b => b = p) H H2 ∧ H2 x = some (.lst ((pops k.things as).map .str)) ∧ H2 bf = some (.tup [.ref pt, .ref l]) ∧ (pops k.things as).length ≤ k.things.length ∧ q2.coins.length ≤ q.coins.length ∧ q.draws (dn k.things.length n) = (q2.draws (dn (pops k.things as).length n)).map fun y => (as ++ y.1, y.2),
      ⟨_, l, q, [], none, rfl, rfl, .inl rfl, (ne_of_none hl nx).symm, hP.same s2, s2.fr, by rw [upd_ne xbf, upd_same]; rfl, upd_same, Nat.le_refl _, Nat.le_refl _, ?_⟩, fun c σ H2 hW => ?_⟩
    · show q.draws (dn k.things.length n) = (q.draws (dn k.things.length n)).map fun y => ([] ++ y.1, y.2)
      cases q.draws (dn k.things.length n) with
      | none => rfl
      | some z => rfl
    obtain ⟨l2, q2, as, v, rfl, rfl, hl2, xl2, hP2, f2, hx2, hbf2, hln, hql, hd⟩ := hW
    have ho2 := f2 _ _ ho op
    have ht2 := f2 _ _ ht tp
    refine ⟨_, rfl, _, _, rfl, .inl (SqL.of hx2), _, rfl, _, _, rfl, rfl, _, rfl, ?_⟩
    rw [List.length_map]
    refine iteD (fun hgt => ?_) (fun hle => ?_)
    · refine ⟨_, fun _ _ z => z, ?_⟩
      rw [dn_cons (i := ((pops k.things as).length : Int)) (j := n) (by omega), draws_cons q2] at hd
      refine ⟨_, rfl, _, rfl, _, _, rfl, .inl (SqL.of hx2), p, l2, pd, kd, q2, _, rfl, hP2, by omega, (by rw [List.length_map]; exact ⟨by omega, by omega⟩), fun hn H3 s3 => ?_, fun a q3 hn H3 l3 nl3 hP3 f3 => ?_⟩
      · rw [List.length_map] at hn
        rw [hn] at hd
        refine ⟨_, rfl, rfl, _, rfl, iteT ?_⟩
        obtain ⟨⟨pt2, hp2, hpt2⟩, hll2, hq2⟩ := hP2
        refine ⟨_, rfl, bf, _, rfl, SqT.of (s3 _ _ hbf2), rfl, _, _, rfl, _, rfl, p, _, rfl, sp_pool (s3 _ _ hp2) pt, _, _, rfl, _, rfl, p, _, rfl, sp_coins upd_same l, rfl, ?_⟩
        have f3 : Fr (fun b => b = p) H (upd (upd H3 p (.dK (stD pt l2 pd kd))) p (.dK (stD pt l pd kd))) := ((f2.trans s3.fr).upd (.inl rfl)).upd (.inl rfl)
        have ptp : pt ≠ p := ne_of hpt hp (by intro z; cases z)
        have lp : l ≠ p := ne_of hl hp (by intro z; cases z)
        refine ⟨_, rfl, p, _, rfl, sg_coins upd_same, _, _, rfl, .inl (SqL.of (f3 _ _ hl lp)), by show 2 ≤ sizeLine; decide, fun r nr => ?_⟩
        rw [List.length_map]
        have rp : p ≠ r := ne_of_none upd_same nr
        have nr0 : H r = none := f3.freeP (by rw [upd_same]; exact fun z => nomatch z) nr
        have f4 := f3.upd (a := r) (o := .tup [.int 2, .int q.coins.length]) (.inr nr0)
        exact k1 hd _ r ⟨⟨pt, by rw [upd_ne rp]; exact upd_same, f4 _ _ hpt ptp⟩, f4 _ _ hl lp, hq⟩ f4 upd_same
      · rw [List.length_map] at hn
        obtain ⟨g1, g2, g3, g4, _⟩ := Pool.draw_ok ⟨by omega, by omega⟩ hP2.2.2 hn
        rw [hn] at hd
        refine ⟨_, rfl, rfl, _, rfl, iteF ?_⟩
        have hx3 := f3 _ _ hx2 xp
        have hlt : a.toNat < (pops k.things as).length := by omega
        refine ⟨_, rfl, .inl ⟨rfl, _, .inl (.inl hx3)⟩, _, rfl, x, _, _, a.toNat, _, rfl, rfl, hx3, by omega, by omega, seq_nat g2 (by rw [List.length_map]; omega), (by rw [List.getElem?_map, List.getElem?_eq_getElem hlt]; rfl), ?_⟩
        have nl30 : H l3 = none := f2.freeP hP2.p_ne nl3
        have xl3 : x ≠ l3 := ne_of_none hx2 nl3
        obtain ⟨⟨pt3, hp3, hpt3⟩, hl3, hq3⟩ := hP3
        have et : pops k.things (as ++ [a]) = (pops k.things as).eraseIdx a.toNat := pops_append _ _ _
        have el : (pops k.things (as ++ [a])).length = (pops k.things as).length - 1 := by rw [et, List.length_eraseIdx_of_lt hlt]
        refine ⟨_, ?_, l3, q3, as ++ [a], _, rfl, rfl, .inr nl30, xl3, ⟨⟨pt3, by rw [upd_ne xp.symm]; exact hp3, by rw [upd_ne (ne_of hpt3 hx3 (by intro z; cases z))]; exact hpt3⟩, by rw [upd_ne xl3.symm]; exact hl3, hq3⟩, (f2.trans f3).upd (.inr nx), by rw [upd_same, et, map_erase], by rw [upd_ne xbf.symm]; exact f3 _ _ hbf2 bp, by omega, by omega, ?_⟩
        · rw [el]
          omega
        · rw [hd, el]
          show ((q3.draws (dn (((pops k.things as).length : Int) - 1) n)).map fun y => (a :: y.1, y.2)).map (fun y => (as ++ y.1, y.2)) = (q3.draws (dn (((pops k.things as).length - 1 : Nat) : Int) n)).map fun y => ((as ++ [a]) ++ y.1, y.2)
          rw [Option.map_map, show ((((pops k.things as).length - 1 : Nat) : Int)) = ((pops k.things as).length : Int) - 1 by omega]
          congr 1
          funext y
          show (as ++ a :: y.1, y.2) = ((as ++ [a]) ++ y.1, y.2)
          rw [List.append_assoc]
          rfl
    · rw [dn_nil (i := ((pops k.things as).length : Int)) (j := n) (by omega)] at hd
      have hd2 : q.draws (dn k.things.length n) = some (as, q2) := by
        rw [hd]
        show some (as ++ [], q2) = _
        rw [List.append_nil]
      refine ⟨_, rfl, _, rfl, o, _, rfl, kp_things ho2 x, ?_⟩
      refine ⟨_, rfl, _, rfl, o, _, rfl, kp_most upd_same n, _, rfl, by show 2 ≤ sizeLine; decide, fun r nr => ?_⟩
      have ro : r ≠ o := fun z => by rw [z, upd_same] at nr; cases nr
      have nr2 : H2 r = none := by rw [upd_ne ro, upd_ne ro] at nr; exact nr
      have kp' : ∀ b u, H2 b = some u → b ≠ o → upd (upd (upd H2 o (.dK (kpD k x))) o (.dK (kpD { k with most := some n } x))) r (.tup [.int (-1), .str "ok"]) b = some u := fun b u e bo => by
        rw [upd_ne (ne_of_none e nr2), upd_ne bo, upd_ne bo]
        exact e
      obtain ⟨⟨pt2, hp2, hpt2⟩, hll2, hq2⟩ := hP2
      refine k2 as q2 hd2 _ l2 x r hl2 (.inr nx) xl2 ⟨⟨pt2, kp' _ _ hp2 op.symm, kp' _ _ hpt2 (ne_of hpt2 ho2 (by intro z; cases z))⟩, kp' _ _ hll2 (ne_of hll2 ho2 (by intro z; cases z)), hq2⟩ ⟨?_, kp' _ _ hx2 xo⟩ ?_ upd_same
      · rw [upd_ne ro.symm, upd_same]
        rfl
      · intro b u e nb
        exact kp' _ _ (f2 _ _ e fun z => nb (.inl z)) fun z => nb (.inr (.inl z))
end
end Ev

set_option Elab.async false
set_option linter.all false
set_option maxRecDepth 100000
set_option maxHeartbeats 2000000
/-! The law's poured. -/
namespace Ev
open PySem PySem.Spec PyProof.Rows L2 He TL
def sp__law_poured (_K : PySem.W.Frag) : Sp := fun vs H Q _ => ∃ (p l pd kd o1 o2 t1 t2 : Addr) (q : Pool) (k1 k2 : Kp), vs = [.ref p, .ref o1, .ref o2] ∧ PoolL H p l pd kd q ∧ KL H o1 t1 k1 ∧ KL H o2 t2 k2 ∧ o1 ≠ p ∧ o2 ≠ p ∧ q.coins.length ≤ 100000 ∧ 0 ≤ k1.count ∧ 0 ≤ k2.count ∧ k1.count + k2.count ≤ 2 ^ 63 ∧ k1.things.length ≤ 100000 ∧ k2.things.length ≤ 100000 ∧
  ((∃ m, k1.most = some m ∧ k2.most = some m ∧ 1 ≤ m ∧ (k1.things.length : Int) = min k1.count m ∧ (k2.things.length : Int) = min k2.count m ∧ (q.draws (manysD k1.things.length k2.things.length m (k1.count + k2.count)) = none → ∀ H', PoolL H' p l pd kd q → Fr (fun b => b = p) H H' → Q .non H') ∧
    ∀ as q', q.draws (manysD k1.things.length k2.things.length m (k1.count + k2.count)) = some (as, q') → ∀ H' l' r, (l' = l ∨ H l' = none) → PoolL H' p l' pd kd q' → Fr (fun b => b = p) H H' → H' r = some (.lst ((pourTh k1.things k2.things k1.count as).map .str)) → Q (.ref r) H') ∨
   (k1.most = none ∧ k2.most = none ∧ k1.total + k2.total ≤ 2 ^ 63 ∧ (0 < k1.count → 0 < k2.count → 1 ≤ k1.total + k2.total) ∧ (k1.count = 0 → k1.things = []) ∧ (k2.count = 0 → k2.things = []) ∧ (pourW q k1.count k2.count k1.total k2.total k1.things k2.things = none → ∀ H', PoolL H' p l pd kd q → Fr (fun b => b = p) H H' → Q .non H') ∧
    ∀ q' ths, pourW q k1.count k2.count k1.total k2.total k1.things k2.things = some (q', ths) → ∀ H' l' r, (l' = l ∨ H l' = none) → PoolL H' p l' pd kd q' → Fr (fun b => b = p) H H' → H' r = some (.lst (ths.map .str)) → Q (.ref r) H'))
section
variable {P : Program} {w : World} {K : PySem.W.Frag} {mg : Str → Option Value} {base h : Heap}
abbrev N__law_poured : List Str := ["_law_state", "_law_one", "_law_other", "_law_number", "_law_left_here", "_law_together", "_law_turns", "_law_answers", "_law_cut_here", "_law_ones", "_law_others", "_law_found", "_law_k"]
abbrev P__law_poured : List Str := ["_law_state", "_law_one", "_law_other"]
theorem sc__law_poured : FnScope N__law_poured P__law_poured (defScope s__law_poured) := ⟨rfl, rfl, rfl, by decide +kernel, rfl, by decide +kernel, by decide +kernel⟩
theorem ok__law_poured (T : Tx w K mg h) : Cal P w K mg base 3 (ga K "_law_poured") (sp__law_poured K) := by
  obtain ⟨fd, F⟩ := T.fn__law_poured
  refine okOf F sc__law_poured (fun _ _ _ _ _ _ us hl => match us, hl with | [_, _, _], _ => rfl) (fun vs H Q E h => ?_) (fun cdv A outer s H vs Q E hr hsp => ?_)
  · repeat (first | (obtain ⟨h1, _⟩ := h; subst h1; rfl) | (obtain ⟨_, h⟩ := h))
  · obtain ⟨p, l, pd, kd, o1, o2, t1, t2, q, k1, k2, rfl, hP, ⟨ho1, ht1⟩, ⟨ho2, ht2⟩, o1p, o2p, hl5, c10, c20, hc, hk1, hk2, hcase⟩ := hsp
    refine ⟨_, (pss_cons (ps_if (pt_cmpR op_isN (pe_dget (hu_of hr) (pv 1) pe_str (fun _ _ => rfl)) pe_non (nomark _))
          (pss_cons (ps_if (PW.pt (pw_or (pt_cmpR op_eq (pe_dget (hu_of hr) (pv 1) pe_str (fun _ _ => rfl)) pe_int (nomark _)) (pw_or1 (pt_cmpR op_eq (pe_dget (hu_of hr) (pv 2) pe_str (fun _ _ => rfl)) pe_int (nomark _)))))
            (pss_one (ps_ret (pe_op op_cat (pe_dget (hu_of hr) (pv 1) pe_str (fun _ _ => rfl)) (pe_dget (hu_of hr) (pv 2) pe_str (fun _ _ => rfl)))))
            pss_nil)
          (pss_cons (ps_set (i := 3) sc__law_poured.nd rfl (Or.inl rfl) (pc_f (ok__law_draws T) hr (by decide) T.gl__law_draws tkE (pa_cons (pv 0) (pa_cons (pe_lst (pa_cons (pe_op op_add (pe_dget (hu_of hr) (pv 1) pe_str (fun _ _ => rfl)) (pe_dget (hu_of hr) (pv 2) pe_str (fun _ _ => rfl))) pa_nil)) pa_nil))))
          (pss_cons (ps_if (pt_cmpR op_isN (pv 3) pe_non (nomark _))
            (pss_one (ps_ret pe_non))
            pss_nil)
          (pss_one (ps_ret (pe_ix ix_list (pe_lst (pa_cons (pe_dget (hu_of hr) (pv 2) pe_str (fun _ _ => rfl)) (pa_cons (pe_dget (hu_of hr) (pv 1) pe_str (fun _ _ => rfl)) pa_nil))) (pe_callTy call_int1 (by rfl) T.fr_int boot_int (pa_cons (pe_cmpR op_lt (pe_ix ix_list (pv 3) pe_int (fun _ _ => rfl)) (pe_dget (hu_of hr) (pv 1) pe_str (fun _ _ => rfl)) (nomark _)) pa_nil)) (fun _ _ => rfl)))))))
          pss_nil)
        (pss_cons (ps_set (i := 4) sc__law_poured.nd rfl (Or.inl rfl) (pe_dget (hu_of hr) (pv 1) pe_str (fun _ _ => rfl)))
        (pss_cons (ps_set (i := 5) sc__law_poured.nd rfl (Or.inr rfl) (pe_op op_add (pv 4) (pe_dget (hu_of hr) (pv 2) pe_str (fun _ _ => rfl))))
        (pss_cons (ps_set (i := 6) sc__law_poured.nd rfl (Or.inl rfl) (pe_op op_cat (pe_lrg rfl (by rfl) T.fr_list (by rfl) T.fr_range (pa_cons (pe_callB call_len_seq (by rfl) T.fr_len boot_len (pa_cons (pe_dget (hu_of hr) (pv 1) pe_str (fun _ _ => rfl)) pa_nil)) (pa_cons pe_int (pa_cons (pe_un un_neg pe_int) pa_nil)))) (pe_lrg rfl (by rfl) T.fr_list (by rfl) T.fr_range (pa_cons (pe_callB call_len_seq (by rfl) T.fr_len boot_len (pa_cons (pe_dget (hu_of hr) (pv 2) pe_str (fun _ _ => rfl)) pa_nil)) (pa_cons pe_int (pa_cons (pe_un un_neg pe_int) pa_nil))))))
        (pss_cons (ps_set (i := 7) sc__law_poured.nd rfl (Or.inl rfl) (pc_f (ok__law_draws T) hr (by decide) T.gl__law_draws tkE (pa_cons (pv 0) (pa_cons (pe_op op_cat (pv 6) (pe_lc (own := [("_law_k", 12)]) rfl sc__law_poured.nd (pi_range1 (by rfl) T.fr_range (pa_cons (pe_callB (call_min2 rfl) (by rfl) T.fr_min boot_min (pa_cons (pe_dget (hu_of hr) (pv 1) pe_str (fun _ _ => rfl)) (pa_cons (pv 5) pa_nil))) pa_nil)) (blkOk_by (own := [("_law_k", 12)]) (N := N__law_poured) (sc := defScope s__law_poured) (by decide +kernel)) (fun _ _ _ _ _ => (pg_name (i := 12) sc__law_poured.nd rfl (Or.inl rfl))) (fun _ _ _ _ _ => pts_nil) (fun _ _ _ _ _ => (pe_op op_sub (pv 5) (pv 12))))) pa_nil))))
        (pss_cons (ps_if (pt_cmpR op_isN (pv 7) pe_non (nomark _))
          (pss_one (ps_ret pe_non))
          pss_nil)
        (pss_cons (ps_set (i := 8) sc__law_poured.nd rfl (Or.inl rfl) (pe_callB (call_max2 rfl) (by rfl) T.fr_max boot_max (pa_cons pe_int (pa_cons (pe_op op_sub (pe_callB call_len_seq (by rfl) T.fr_len boot_len (pa_cons (pe_dget (hu_of hr) (pv 1) pe_str (fun _ _ => rfl)) pa_nil)) pe_int) pa_nil))))
        (pss_cons (ps_set (i := 9) sc__law_poured.nd rfl (Or.inl rfl) (pc_f (ok__law_shuffled T) hr (by decide) T.gl__law_shuffled tkE (pa_cons (pe_dget (hu_of hr) (pv 1) pe_str (fun _ _ => rfl)) (pa_cons (pe_slice sl_list (pv 7) po_none (po_some (pv 8))) pa_nil))))
        (pss_cons (ps_set (i := 10) sc__law_poured.nd rfl (Or.inl rfl) (pc_f (ok__law_shuffled T) hr (by decide) T.gl__law_shuffled tkE (pa_cons (pe_dget (hu_of hr) (pv 2) pe_str (fun _ _ => rfl)) (pa_cons (pe_slice sl_list (pv 7) (po_some (pv 8)) (po_some (pe_callB call_len_seq (by rfl) T.fr_len boot_len (pa_cons (pv 6) pa_nil)))) pa_nil))))
        (pss_cons (ps_set (i := 11) sc__law_poured.nd rfl (Or.inl rfl) (pe_lst pa_nil))
        (pss_cons (ps_for powE rfl (pi_list (pe_slice sl_list (pv 7) (po_some (pe_callB call_len_seq (by rfl) T.fr_len boot_len (pa_cons (pv 6) pa_nil))) po_none)) (pg_name (i := 3) sc__law_poured.nd rfl (Or.inl rfl))
          (pss_one (ps_if (pt_cmpR op_lt (pv 3) (pv 4) (nomark _))
            (pss_cons (ps_expr (pe_bm PySem.F.plainAttrs_list PySem.F.slot_list_append PySem.F.type_list_append mt_append (pv 11) (pa_cons (pe_bm PySem.F.plainAttrs_list PySem.F.slot_list_pop PySem.F.type_list_pop mt_popAt (pv 9) (pa_cons pe_int pa_nil)) pa_nil)))
            (pss_one (ps_set (i := 4) sc__law_poured.nd rfl (Or.inl rfl) (pe_op op_sub (pv 4) pe_int))))
            (pss_one (ps_expr (pe_bm PySem.F.plainAttrs_list PySem.F.slot_list_append PySem.F.type_list_append mt_append (pv 11) (pa_cons (pe_bm PySem.F.plainAttrs_list PySem.F.slot_list_pop PySem.F.type_list_pop mt_popAt (pv 10) (pa_cons pe_int pa_nil)) pa_nil)))))))
        (pss_one (ps_ret (pv 11)))))))))))))), ?_⟩
    obtain ⟨⟨pt, hp, hpt⟩, hl, hq⟩ := id hP
    have t1p : t1 ≠ p := ne_of ht1 hp (by intro z; cases z)
    have t2p : t2 ≠ p := ne_of ht2 hp (by intro z; cases z)
    refine ⟨_, rfl, o1, _, rfl, kg_most ho1, ?_⟩
    rcases hcase with ⟨m, em1, em2, m1, hn1, hn2, kn, ks⟩ | ⟨em1, em2, hs, hs1, z1, z2, kn, ks⟩
    · rw [em1]
      refine ⟨rfl, _, rfl, iteF ?_⟩
      refine ⟨_, rfl, o1, _, rfl, kg_count ho1, ?_⟩
      refine ⟨_, rfl, _, rfl, o2, _, rfl, kg_count ho2, _, _, rfl, rfl, ?_⟩
      -- turns
      refine ⟨_, rfl, o1, _, rfl, kg_things ho1, _, _, rfl, .inl (SqL.of ht1), _, rfl, _, _, rfl, ⟨by omega, by rw [List.length_map]; omega, by omega, by omega⟩, fun a1 na1 => ?_⟩
      rw [List.length_map]
      have s1 := (Same.refl H).upd (o := .lst (dnV k1.things.length 1)) na1
      refine ⟨_, rfl, o2, _, rfl, kg_things (s1 _ _ ho2), _, _, rfl, .inl (SqL.of (s1 _ _ ht2)), _, rfl, _, _, rfl, ⟨by omega, by rw [List.length_map]; omega, by omega, by omega⟩, fun a2 na2 => ?_⟩
      rw [List.length_map]
      have a12 : a1 ≠ a2 := ne_of_none upd_same na2
      refine ⟨_, _, _, _, rfl, rfl, (by rw [upd_ne a12]; exact upd_same), upd_same, (by rw [dnV_length, dnV_length, sizeLine_eq]; omega), fun a3 na3 => ?_⟩
      have s3 := (s1.upd (o := .lst (dnV k2.things.length 1)) na2).upd (o := .lst (dnV k1.things.length 1 ++ dnV k2.things.length 1)) na3
      have ha3 : upd (upd (upd H a1 (.lst (dnV k1.things.length 1))) a2 (.lst (dnV k2.things.length 1))) a3 (.lst (dnV k1.things.length 1 ++ dnV k2.things.length 1)) a3 = some (.lst (dnV k1.things.length 1 ++ dnV k2.things.length 1)) := upd_same
      generalize upd (upd (upd H a1 (.lst (dnV k1.things.length 1))) a2 (.lst (dnV k2.things.length 1))) a3 (.lst (dnV k1.things.length 1 ++ dnV k2.things.length 1)) = H3 at s3 ha3 ⊢
      -- answers
      refine ⟨_, rfl, _, rfl, _, rfl, o1, _, rfl, kg_most (s3 _ _ ho1), ?_⟩
      rw [em1]
      have emm : (if k1.count + k2.count < m then k1.count + k2.count else m) = min m (k1.count + k2.count) := by
        by_cases z : k1.count + k2.count < m
        · rw [if_pos z]; omega
        · rw [if_neg z]; omega
      refine ⟨_, rfl, _, _, rfl, _, rfl, (by rw [emm]; omega), (by rw [emm]; omega), fun D nD => lc_mapR (f := fun k => .int (k1.count + k2.count - (0 + (k : Nat)))) nD (by rw [emm]; omega) (fun i H9 hi s9 R S hR => ⟨rfl, _, rfl, _, rfl, _, _, rfl, rfl, hR _ (Same.refl _)⟩) fun H4 s4 hl4 => ?_⟩
      rw [emm] at hl4
      have ml : dnV k1.things.length 1 ++ dnV k2.things.length 1 ++ ((List.range (min m (k1.count + k2.count)).toNat).map fun k => V.int (k1.count + k2.count - (0 + (k : Nat)))) = (manysD k1.things.length k2.things.length m (k1.count + k2.count)).map V.int := by
        unfold manysD
        rw [List.map_append, List.map_append, dnV_map, dnV_map, List.map_map]
        congr 1
        exact List.map_congr_left fun k _ => by
          show V.int _ = V.int _
          rw [Int.zero_add]
      refine ⟨_, _, _, _, rfl, rfl, s4 _ _ ha3, hl4, (by rw [List.length_append, dnV_length, dnV_length, List.length_map, List.length_range, sizeLine_eq]; omega), fun a4 na4 => ?_⟩
      rw [ml]
      have s5 := (s3.trans s4).upd (o := .lst ((manysD k1.things.length k2.things.length m (k1.count + k2.count)).map V.int)) na4
      have ha4 : upd H4 a4 (.lst ((manysD k1.things.length k2.things.length m (k1.count + k2.count)).map V.int)) a4 = some (.lst ((manysD k1.things.length k2.things.length m (k1.count + k2.count)).map V.int)) := upd_same
      have ha35 : upd H4 a4 (.lst ((manysD k1.things.length k2.things.length m (k1.count + k2.count)).map V.int)) a3 = some (.lst (dnV k1.things.length 1 ++ dnV k2.things.length 1)) := by rw [upd_ne (ne_of_none (s4 _ _ ha3) na4)]; exact s4 _ _ ha3
      generalize upd H4 a4 (.lst ((manysD k1.things.length k2.things.length m (k1.count + k2.count)).map V.int)) = H5 at s5 ha4 ha35 ⊢
      have few : ∀ x ∈ manysD k1.things.length k2.things.length m (k1.count + k2.count), Few x := fun x hx => by
        have := manysD_mem hx
        exact ⟨by omega, by omega⟩
      refine ⟨p, l, pd, kd, a4, q, _, rfl, hP.same s5, ha4, hl5, (by rw [manysD_length]; omega), few, fun hn H6 hP6 f6 => ?_, fun as q' hd H6 l' ra hl' hP6 f6 nra hra => ?_⟩
      · exact ⟨_, rfl, rfl, _, rfl, iteT (kn hn H6 hP6 (s5.fr.trans f6))⟩
      have an := ansOk (by omega) (by omega) hc hq hd
      have fr6 : Fr (fun b => b = p) H H6 := s5.fr.trans f6
      have hpn := hP6.p_ne
      have ho16 := fr6 _ _ ho1 o1p
      have ho26 := fr6 _ _ ho2 o2p
      have ht16 := fr6 _ _ ht1 t1p
      have ht26 := fr6 _ _ ht2 t2p
      have a3p : a3 ≠ p := ne_of ha35 (s5 _ _ hp) (by intro z; cases z)
      have ha36 := f6 _ _ ha35 a3p
      have len1 := an.len
      have emx : (if (k1.things.length : Int) - 1 > 0 then (k1.things.length : Int) - 1 else 0) = ((k1.things.length - 1 : Nat) : Int) := by
        by_cases z : (k1.things.length : Int) - 1 > 0
        · rw [if_pos z]; omega
        · rw [if_neg z]; omega
      have tlen : (dnV k1.things.length 1 ++ dnV k2.things.length 1).length = k1.things.length - 1 + (k2.things.length - 1) := by
        rw [List.length_append, dnV_length, dnV_length]
        omega
      refine ⟨_, rfl, rfl, _, rfl, iteF ?_⟩
      -- cut_here
      refine ⟨_, rfl, o1, _, rfl, kg_things ho16, _, _, rfl, .inl (SqL.of ht16), _, _, rfl, rfl, _, _, rfl, ?_⟩
      rw [List.length_map]
      -- ones
      refine ⟨_, rfl, o1, _, rfl, kg_things ho16, _, rfl, _, rfl, _, rfl, ra, _, rfl, SqL.of hra, fun r4 nr4 => ?_⟩
      refine ⟨t1, r4, k1.things, as.take (k1.things.length - 1), rfl, (by rw [upd_ne (ne_of_none ht16 nr4)]; exact ht16), SqL.of (by rw [upd_same]; show some (HO.lst (cutV (as.map V.int) none (some (if (k1.things.length : Int) - 1 > 0 then (k1.things.length : Int) - 1 else 0)))) = _; rw [emx, cut_to, List.map_take]), hk1, an.s1, fun H8 f8 s8 nf8 hf8 => ?_⟩
      have s68 : Same H6 H8 := ((Same.refl H6).upd nr4).trans s8
      have nf80 : H6 f8 = none := ((Same.refl H6).upd nr4).free nf8
      -- others
      refine ⟨_, rfl, o2, _, rfl, kg_things (s68 _ _ ho26), _, rfl, _, rfl, _, rfl, _, rfl, _, _, rfl, .inl (SqL.of (s68 _ _ ha36)), _, rfl, ra, _, rfl, SqL.of (s68 _ _ hra), fun r6 nr6 => ?_⟩
      refine ⟨t2, r6, k2.things, (as.drop (k1.things.length - 1)).take (k2.things.length - 1), rfl, (by rw [upd_ne (ne_of_none (s68 _ _ ht26) nr6)]; exact s68 _ _ ht26), SqL.of ?_, hk2, an.s2, fun H10 f10 s10 nf10 hf10 => ?_⟩
      · rw [upd_same, tlen]
        show some (HO.lst (cutV (as.map V.int) (some (if (k1.things.length : Int) - 1 > 0 then (k1.things.length : Int) - 1 else 0)) (some (((k1.things.length - 1 + (k2.things.length - 1) : Nat) : Int))))) = _
        rw [emx, cut_mid (by rw [List.length_map]; omega) (by rw [List.length_map]; omega), List.map_take, List.map_drop, show k1.things.length - 1 + (k2.things.length - 1) - (k1.things.length - 1) = k2.things.length - 1 by omega]
      have s810 : Same H8 H10 := ((Same.refl H8).upd nr6).trans s10
      have nf100 : H8 f10 = none := ((Same.refl H8).upd nr6).free nf10
      have hf8' := s810 _ _ hf8
      have s610 := s68.trans s810
      have f810 : f8 ≠ f10 := ne_of_none hf8 nf100
      -- found
      refine ⟨by show 0 ≤ sizeLine; decide, fun t nt => ?_⟩
      have s11 := (Same.refl H10).upd (o := .lst []) nt
      generalize hxs : shuf k1.things (as.take (k1.things.length - 1)) = xs at *
      generalize hys : shuf k2.things ((as.drop (k1.things.length - 1)).take (k2.things.length - 1)) = ys at *
      generalize hns : as.drop ((k1.things.length - 1) + (k2.things.length - 1)) = ns at *
      have lxs : xs.length = k1.things.length := by rw [← hxs, shuf_length]
      have lys : ys.length = k2.things.length := by rw [← hys, shuf_length]
      have lns : ns.length = (min m (k1.count + k2.count)).toNat := by rw [← hns, List.length_drop]; omega
      have hinv : ∀ i, i ≤ ns.length → _ := mrg_inv (xs := xs) (ys := ys) c10 c20 (by rw [← hns]; exact an.s3)
      refine ⟨_, rfl, _, rfl, _, _, rfl, .inl (SqL.of (s11 _ _ (s610 _ _ ha36))), _, rfl, ra, _, rfl, SqL.of (s11 _ _ (s610 _ _ hra)), fun r7 nr7 => ?_⟩
      rw [tlen]
      have e7 : cutV (as.map V.int) (some (((k1.things.length - 1 + (k2.things.length - 1) : Nat) : Int))) none = ns.map V.int := by
        rw [cut_from (by rw [List.length_map]; omega), ← List.map_drop, hns]
      rw [e7]
      have s12 : Same H10 (upd (upd H10 t (.lst [])) r7 (.lst (ns.map .int))) := s11.upd nr7
      have h7 : upd (upd H10 t (.lst [])) r7 (.lst (ns.map .int)) r7 = some (.lst (ns.map .int)) := upd_same
      have tr7 : t ≠ r7 := ne_of_none upd_same nr7
      have ht12 : upd (upd H10 t (.lst [])) r7 (.lst (ns.map .int)) t = some (.lst []) := by rw [upd_ne tr7, upd_same]
      have n7 : H10 r7 = none := s11.free nr7
      have tf8 : t ≠ f8 := (ne_of_none hf8' nt).symm
      have tf10 : t ≠ f10 := (ne_of_none hf10 nt).symm
      have r7f8 : r7 ≠ f8 := (ne_of_none hf8' n7).symm
      have r7f10 : r7 ≠ f10 := (ne_of_none hf10 n7).symm
      have hf12 := s12 _ _ hf8'
      have hf12' := s12 _ _ hf10
      generalize upd (upd H10 t (.lst [])) r7 (.lst (ns.map .int)) = H12 at s12 h7 ht12 hf12 hf12' ⊢
      refine ⟨r7, rfl, ⟨_, SqL.of h7⟩, for_list (K := K) (a := r7) (xs := ns.map V.int) (fun i σ H2 => ∃ v cv, σ = [some (.ref p), some (.ref o1), some (.ref o2), v, some (.int (k1.count - (mrg k1.count xs ys (ns.take i)).1)), some (.int (k1.count + k2.count)), some (.ref a3), some (.ref ra), cv, some (.ref f8), some (.ref f10), some (.ref t), none] ∧
          H2 f8 = some (.lst ((xs.drop (mrg k1.count xs ys (ns.take i)).1).map .str)) ∧ H2 f10 = some (.lst ((ys.drop (mrg k1.count xs ys (ns.take i)).2.1).map .str)) ∧ H2 t = some (.lst ((mrg k1.count xs ys (ns.take i)).2.2.map .str)) ∧ Fr (fun b => b = f8 ∨ b = f10 ∨ b = t) H12 H2)
          ⟨none, some (.int (if (k1.things.length : Int) - 1 > 0 then (k1.things.length : Int) - 1 else 0)), ?_, hf12, hf12', ht12, Fr.refl⟩ (fun i σ H2 _ ⟨_, _, _, _, _, _, f2⟩ => SqL.of (f2 _ _ h7 (by intro z; rcases z with z | z | z; exact r7f8 z; exact r7f10 z; exact tr7 z.symm))) ?_ ?_⟩
      · show _ = [some (V.ref p), some (V.ref o1), some (V.ref o2), none, some (V.int (k1.count - ((0 : Nat) : Int))), some (V.int (k1.count + k2.count)), some (V.ref a3), some (V.ref ra), some (.int (if (k1.things.length : Int) - 1 > 0 then (k1.things.length : Int) - 1 else 0)), some (V.ref f8), some (V.ref f10), some (V.ref t), none]
        rw [show k1.count - ((0 : Nat) : Int) = k1.count by omega]
        rfl
      · rintro i y σ H2 hi ⟨v, cv, rfl, hf2, hf2', ht2', f2⟩
        have him : i < ns.length := by
          have z := (List.getElem?_eq_some_iff.mp hi).1
          rw [List.length_map] at z
          exact z
        have hni := List.getElem?_eq_getElem him
        rw [List.getElem?_map, hni] at hi
        cases hi
        obtain ⟨n0, n1⟩ := an.s3 i _ (by rw [hns]; exact hni)
        obtain ⟨q1, q2, q3, q4⟩ := hinv i (by omega)
        rw [mrg_step hni]
        generalize mrg k1.count xs ys (ns.take i) = st at *
        refine ⟨_, rfl, _, rfl, _, _, rfl, rfl, _, rfl, ?_⟩
        refine iteD (fun hlt => ?_) (fun hlt => ?_)
        · have hs1 : st.1 < xs.length := by omega
          refine ⟨_, rfl, .inl ⟨rfl, _, .inl (.inl ht2')⟩, _, rfl, .inl ⟨rfl, _, .inl (.inl hf2)⟩, f8, _, 0, 0, _, rfl, rfl, hf2, by decide, by decide, seq_nat (Int.le_refl _) (by rw [List.length_map, List.length_drop]; omega), head_map hs1, t, _, _, rfl, rfl, (by rw [upd_ne tf8]; exact ht2'), (by rw [List.length_map, sizeLine_eq]; omega), ?_⟩
          rw [erase_head]
          refine ⟨_, rfl, _, _, rfl, rfl, ?_⟩
          have em : mg1 k1.count xs ys st ns[i] = (st.1 + 1, st.2.1, st.2.2 ++ [xs.getD st.1 ""]) := if_pos hlt
          rw [em]
          refine ⟨some (.int ns[i]), cv, ?_, ?_, ?_, ?_, (f2.upd (.inl (.inl rfl))).upd (.inl (.inr (.inr rfl)))⟩
          · rw [show k1.count - ((st.1 + 1 : Nat) : Int) = k1.count - (st.1 : Int) - 1 by omega]
            rfl
          · rw [upd_ne tf8.symm, upd_same]
          · rw [upd_ne tf10.symm, upd_ne f810.symm]
            exact hf2'
          · rw [upd_same, List.map_append]
            rfl
        · have hs2 : st.2.1 < ys.length := by omega
          refine ⟨_, rfl, .inl ⟨rfl, _, .inl (.inl ht2')⟩, _, rfl, .inl ⟨rfl, _, .inl (.inl hf2')⟩, f10, _, 0, 0, _, rfl, rfl, hf2', by decide, by decide, seq_nat (Int.le_refl _) (by rw [List.length_map, List.length_drop]; omega), head_map hs2, t, _, _, rfl, rfl, (by rw [upd_ne tf10]; exact ht2'), (by rw [List.length_map, sizeLine_eq]; omega), ?_⟩
          rw [erase_head]
          have em : mg1 k1.count xs ys st ns[i] = (st.1, st.2.1 + 1, st.2.2 ++ [ys.getD st.2.1 ""]) := if_neg hlt
          rw [em]
          refine ⟨some (.int ns[i]), cv, rfl, ?_, ?_, ?_, (f2.upd (.inl (.inr (.inl rfl)))).upd (.inl (.inr (.inr rfl)))⟩
          · rw [upd_ne tf8.symm, upd_ne f810]
            exact hf2
          · rw [upd_ne tf10.symm, upd_same]
          · rw [upd_same, List.map_append]
            rfl
      · rintro σ H2 ⟨v, cv, rfl, hf2, hf2', ht2', f2⟩
        rw [List.length_map, List.take_length] at ht2'
        have keep : Same H6 H2 := fun b o e => by
          have e10 := s610 _ _ e
          refine f2 _ _ (s12 _ _ e10) ?_
          intro z
          rcases z with z | z | z
          · rw [z, nf80] at e
            cases e
          · rw [z, s68.free nf100] at e
            cases e
          · rw [z, nt] at e10
            cases e10
        refine ⟨_, rfl, ks as q' hd H2 l' t (hl'.imp id fun z => s5.free z) (hP6.same keep) (fr6.trans keep.fr) ?_⟩
        unfold pourTh
        rw [hxs, hys, hns]
        exact ht2'
    · rw [em1]
      refine ⟨rfl, _, rfl, iteT ?_⟩
      refine ⟨_, rfl, o1, _, rfl, kg_count ho1, rfl, _, rfl, ?_⟩
      have cat : (k1.count = 0 ∨ k2.count = 0) → ∀ ths, (if k1.count = 0 then k2.things else k1.things) = ths → (k1.things.map V.str) ++ (k2.things.map V.str) = ths.map V.str := fun h ths e => by
        by_cases z : k1.count = 0
        · rw [if_pos z] at e
          rw [z1 z, ← e]
          rfl
        · rw [if_neg z] at e
          rw [z2 (h.resolve_left z), ← e]
          exact List.append_nil _
      have done : (k1.count = 0 ∨ k2.count = 0) → ∀ r, H r = none → Q (.ref r) (upd H r (.lst ((k1.things.map V.str) ++ (k2.things.map V.str)))) := fun h r nr => by
        refine ks q _ (by unfold pourW; rw [if_neg (by omega)]) _ l r (.inl rfl) (hP.same ((Same.refl H).upd nr)) (Fr.refl.upd (.inr nr)) ?_
        rw [upd_same, cat h _ rfl]
      refine iteVi (fun e1 => ?_) (fun e1 => ?_)
      · refine iteT ⟨_, rfl, o1, _, rfl, kg_things ho1, _, rfl, o2, _, rfl, kg_things ho2, t1, t2, _, _, rfl, rfl, ht1, ht2, (by rw [List.length_map, List.length_map, sizeLine_eq]; omega), fun r nr => done (.inl e1) r nr⟩
      refine ⟨_, rfl, o2, _, rfl, kg_count ho2, rfl, _, rfl, ?_⟩
      refine iteVi (fun e2 => ?_) (fun e2 => ?_)
      · exact ⟨_, rfl, o1, _, rfl, kg_things ho1, _, rfl, o2, _, rfl, kg_things ho2, t1, t2, _, _, rfl, rfl, ht1, ht2, (by rw [List.length_map, List.length_map, sizeLine_eq]; omega), fun r nr => done (.inr e2) r nr⟩
      have pw : pourW q k1.count k2.count k1.total k2.total k1.things k2.things = (q.draw (k1.total + k2.total)).map fun y => (y.2, if k1.total ≤ y.1 then k2.things else k1.things) := by unfold pourW; rw [if_pos ⟨by omega, by omega⟩]
      have hs1' := hs1 (by omega) (by omega)
      refine ⟨_, rfl, _, rfl, o1, _, rfl, kg_total ho1, _, rfl, o2, _, rfl, kg_total ho2, _, _, rfl, rfl, by show 1 ≤ sizeLine; decide, fun ms nms => ?_⟩
      have s1 := (Same.refl H).upd (o := .lst [.int (k1.total + k2.total)]) nms
      refine ⟨p, l, pd, kd, ms, q, [k1.total + k2.total], rfl, hP.same s1, upd_same, hl5, by show 1 ≤ 1000000; decide, fun x hx => by rw [List.mem_singleton.mp hx]; exact ⟨hs1', hs⟩, fun hn H1 hP1 f1 => ?_, fun as q' hn H1 l' ra hl' hP1 f1 nra hra => ?_⟩
      · rw [draw_draws, Option.map_eq_none_iff] at hn
        exact ⟨_, rfl, rfl, _, rfl, iteT (kn (by rw [pw, hn]; rfl) H1 hP1 (s1.fr.trans f1))⟩
      · rw [draw_draws, Option.map_eq_some_iff] at hn
        obtain ⟨y, hy, e⟩ := hn
        cases e
        have f2 : Fr (fun b => b = p) H H1 := s1.fr.trans f1
        refine ⟨_, rfl, rfl, _, rfl, iteF ?_⟩
        refine ⟨_, rfl, o2, _, rfl, kg_things (f2 _ _ ho2 o2p), _, rfl, o1, _, rfl, kg_things (f2 _ _ ho1 o1p), by show 2 ≤ sizeLine; decide, fun x nx => ?_⟩
        have sx := (Same.refl H1).upd (o := .lst [.ref t2, .ref t1]) nx
        refine ⟨_, rfl, ra, _, 0, _, rfl, rfl, SqL.of (sx _ _ hra), rfl, _, rfl, o1, _, rfl, kg_total (sx _ _ (f2 _ _ ho1 o1p)), _, _, rfl, rfl, .inr ⟨_, rfl, x, _, _, .ref (if k1.total ≤ y.1 then t2 else t1), rfl, rfl, SqL.of upd_same, ?_, ?_⟩⟩
        · by_cases z : k1.total ≤ y.1
          · rw [if_pos z, decide_eq_false (by omega)]
            rfl
          · rw [if_neg z, decide_eq_true (by omega)]
            rfl
        · have pw2 : pourW q k1.count k2.count k1.total k2.total k1.things k2.things = some (y.2, if k1.total ≤ y.1 then k2.things else k1.things) := by rw [pw, hy]; rfl
          refine ks _ _ pw2 _ l' _ (hl'.imp id fun z => s1.free z) (hP1.same sx) (f2.trans sx.fr) ?_
          by_cases z : k1.total ≤ y.1
          · rw [if_pos z, if_pos z]
            exact sx _ _ (f2 _ _ ht2 t2p)
          · rw [if_neg z, if_neg z]
            exact sx _ _ (f2 _ _ ht1 t1p)
end
end Ev

set_option Elab.async false
set_option linter.all false
set_option maxRecDepth 100000
set_option maxHeartbeats 2000000
/-! The law's state as a side. -/
namespace Ev
open PySem PySem.Spec PyProof.Rows L2 He TL
def cL : Cfg := ⟨fun _ d p l pd kd q H => d = p ∧ PoolL H p l pd kd q, fun _ t k o => o = .dK (kpD k t), fun v k _ => k < 4 ∧ v = .str (txt k)⟩
theorem nl_dK {kvs : List (Key × V)} : Nl (.dK kvs) := ⟨(fun _ z => nomatch z), (fun _ z => nomatch z)⟩
theorem PoolL.fr {H H' : Hp} {p l pd kd : Addr} {q : Pool} {ch : Addr → Prop} (h : PoolL H p l pd kd q) (f : Fr ch H H') (hp : ¬ ch p) (hl : ¬ ch l) (nt : Nt ch H) : PoolL H' p l pd kd q := by
  obtain ⟨⟨pt, h1, h2⟩, h3, h4⟩ := h
  exact ⟨⟨pt, f _ _ h1 hp, f _ _ h2 fun z => nt _ _ z h2⟩, f _ _ h3 hl, h4⟩
theorem cL_ok : CfgOk cL where
  fr := fun {N d p l pd kd q H H' ch} h f hd hp hl nt => ⟨h.1, h.2.fr f hp hl nt⟩
  mono := fun h _ => h
  tr := fun {N d p l pd kd q H} h => by
    obtain ⟨rfl, ⟨pt, h1, _⟩, h3, _⟩ := h
    exact ⟨⟨_, h1, nl_dK⟩, ⟨_, h1, nl_dK⟩, ⟨_, h3⟩⟩
  ko := fun {p t k o} h => by
    have h : o = .dK (kpD k t) := h
    rw [h]
    exact nl_dK
  pv := fun h f nt => h
structure LawAt (H : Hp) (d : Addr) (g : Gk) (N : Nat) (S : Sx) : Prop where
  x : Side cL H d g N S
  ok : SxOk N S
theorem LawAt.same {H H' : Hp} {d : Addr} {g : Gk} {N : Nat} {S : Sx} (D : LawAt H d g N S) (s : Same H H') : LawAt H' d g N S := ⟨D.x.same cL_ok s, D.ok⟩
section
variable {H H' : Hp} {d : Addr} {g : Gk} {N : Nat} {S : Sx}
theorem LawAt.kpAt (D : LawAt H d g N S) {z : Str} {k : Kp} (e : S.keeps z = some k) : KpOk N k ∧ k.count ≤ 2 ^ 62 ∧ KL H (g.ko z) (g.th z) k ∧ g.ko z ≠ g.p ∧ g.th z ≠ g.l := by
  obtain ⟨kvs, h1, h2, h3⟩ := D.x.keep
  obtain ⟨e1, ⟨o, e2, e3⟩, e4⟩ := (h3 z).2 k e
  have kp := D.ok.kp z k e
  have nz : S.keeps z ≠ none := by rw [e]; exact fun z => nomatch z
  have e3 : o = .dK (kpD k (g.th z)) := e3
  rw [e3] at e2
  exact ⟨kp, Int.le_trans kp.c1 (pow62 D.ok.n62), ⟨e2, e4⟩, (D.x.inj.o1 z nz).1, D.x.inj.tl z nz⟩
theorem LawAt.stay (D : LawAt H d g N S) (s : Same H H') : Next cL H H' d g g (N + 1) S S := ⟨(D.x.same cL_ok s).mono cL_ok (Nat.le_succ _), s.fr, fun _ h => .inl h⟩
theorem LawAt.pool (D : LawAt H d g N S) {l' : Addr} {q' : Pool} (hP : PoolL H' g.p l' g.pd g.kd q') (f : Fr (fun b => b = g.p) H H') (hl : l' = g.l ∨ H l' = none) :
    Next cL H H' d g { g with l := l' } (N + 1) S { S with pool := q' } := D.x.pool cL_ok (Nat.le_succ _) ⟨D.x.main.1, hP⟩ f hl
/-- the state as it was, its pool laid anew -/
theorem LawAt.back (D : LawAt H d g N S) (hP : PoolL H' g.p g.l g.pd g.kd S.pool) (f : Fr (fun b => b = g.p) H H') : Next cL H H' d g g (N + 1) S S := D.pool hP f (.inl rfl)
theorem LawAt.keep (D : LawAt H d g N S) {z : Str} {k k' : Kp} {q' : Pool} {t' l' : Addr} (e : S.keeps z = some k) (hl : l' = g.l ∨ H l' = none) (ht : t' = g.th z ∨ H t' = none) (htl : t' ≠ l') (hP : PoolL H' g.p l' g.pd g.kd q') (hK : KL H' (g.ko z) t' k')
    (f : Fr (fun b => b = g.p ∨ b = g.ko z ∨ b = g.th z) H H') : Next cL H H' d g ⟨g.p, l', g.pd, g.kd, setA g.ko z (g.ko z), setA g.th z t'⟩ (N + 1) S { S with pool := q', keeps := setK S.keeps z k' } := by
  obtain ⟨kvs, h1, h2, h3⟩ := D.x.keep
  obtain ⟨e1, ⟨o, e2, e3⟩, e4⟩ := (h3 z).2 k e
  have nz : S.keeps z ≠ none := by rw [e]; exact fun z => nomatch z
  have kT : g.kd ≠ g.th z := ne_of h1 e4 (by intro w; cases w)
  refine D.x.putN cL_ok (Nat.le_succ _) ⟨D.x.main.1, hP⟩ (f.mono fun b w => ?_) hl (.inl ⟨rfl, nz⟩) (ht.imp (fun w => ⟨w, nz⟩) id) htl h1 (f _ _ h1 fun w => ?_) (Nat.le_succ_of_le h2) (fun m _ => rfl) e1 ⟨_, hK.1, rfl⟩ hK.2
  · rcases w with w | w | w
    · exact .inl w
    · exact .inr (.inr ⟨nz, .inl w⟩)
    · exact .inr (.inr ⟨nz, .inr w⟩)
  · rcases w with w | w | w
    · exact D.x.inj.pk w.symm
    · exact (D.x.inj.o1 z nz).2.2 w.symm
    · exact kT w
theorem LawAt.made {H1 : Hp} (D : LawAt H d g N S) {z : Str} {k' : Kp} {q' : Pool} {o t l' : Addr} {kvs : List (Key × V)} (h1 : H g.kd = some (.dK kvs)) (hl : l' = g.l ∨ H l' = none) (no : H o = none) (nt : H t = none) (tl : t ≠ l') (hK : KL H1 o t k') (hP : PoolL H1 g.p l' g.pd g.kd q') (f : Fr (fun b => b = g.p) H H1) :
    Next cL H (upd H1 g.kd (.dK (putK kvs (.inr z : Key) (.ref o)))) d g ⟨g.p, l', g.pd, g.kd, setA g.ko z o, setA g.th z t⟩ (N + 1) S { S with pool := q', keeps := setK S.keeps z k' } := by
  obtain ⟨kvs0, g1, g2, g3⟩ := D.x.keep
  rw [h1] at g1
  cases g1
  have tk : t ≠ g.kd := (ne_of_none h1 nt).symm
  have ok_ : o ≠ g.kd := (ne_of_none h1 no).symm
  have hkd := f _ _ h1 D.x.inj.pk.symm
  obtain ⟨⟨pt, q1, q2⟩, q3, q4⟩ := hP
  refine D.x.putN cL_ok (Nat.le_succ _) ⟨D.x.main.1, ⟨pt, by rw [upd_ne D.x.inj.pk]; exact q1, by rw [upd_ne (ne_of q2 hkd (by intro w; cases w))]; exact q2⟩, by rw [upd_ne (ne_of q3 hkd (by intro w; cases w))]; exact q3, q4⟩ ((f.mono fun b w => .inl w).upd (.inl (.inr (.inl rfl)))) hl (.inr no) (.inr nt) tl h1 upd_same
    (Nat.le_trans (DSub.putK_len kvs (.inr z : Key) (.ref o)) (Nat.succ_le_succ g2)) (fun m hm => ?_) ?_ ⟨_, by rw [upd_ne ok_]; exact hK.1, rfl⟩ (by rw [upd_ne tk]; exact hK.2)
  · rw [valV_put, if_neg fun w => hm (by injection w)]
  · rw [valV_put, if_pos rfl]
end
/-- what the law's answer is -/
def dueV : Out → List V
  | .ok t => [.int (-1), .str t]
  | .ex (.short n) => [.int 2, .int n]
  | .ex .nodraw => [.int 4, .non]
  | .ex .noname => [.int 6, .non]
def ResL (H : Hp) (d : Addr) (g : Gk) (N : Nat) (S : Sx) (r : Row) (Q : VK) : Prop := ∀ u S', stepS S r = (u, S') → ∀ H' g' a, Next cL H H' d g g' (N + 1) S S' → H' a = some (.tup (dueV u)) → Q (.ref a) H'
theorem ResL.same {H H1 : Hp} {d : Addr} {g : Gk} {N : Nat} {S : Sx} {r : Row} {Q : VK} (R : ResL H d g N S r Q) (s : Same H H1) : ResL H1 d g N S r Q := fun u S' e H' g' a n h => R u S' e H' g' a (n.from s) h
end Ev

set_option Elab.async false
set_option linter.all false
set_option maxRecDepth 100000
set_option maxHeartbeats 2000000
/-! The law's rows about keepers. -/
namespace Ev
open PySem PySem.Spec PyProof.Rows L2 He TL
theorem Next.andThen {c : Cfg} {H H' H2 : Hp} {d : Addr} {g g' : Gk} {N' : Nat} {S S' : Sx} (C : CfgOk c) (n : Next c H H' d g g' N' S S') (s : Same H' H2) : Next c H H2 d g g' N' S S' := ⟨n.x.same C s, n.f.trans s.fr, n.o⟩
def sp__law_new (_K : PySem.W.Frag) : Sp := fun vs H Q _ => ∃ (d : Addr) (g : Gk) (N : Nat) (S : Sx) (z : Str), LawAt H d g N S ∧ ((∃ n : Nat, vs = [.ref d, .str z, .int n] ∧ ResL H d g N S (.drawer z n) Q) ∨ (vs = [.ref d, .str z, .non] ∧ ResL H d g N S (.weigher z) Q))
section
variable {P : Program} {w : World} {K : PySem.W.Frag} {mg : Str → Option Value} {base h : Heap}
abbrev N__law_new : List Str := ["_law_state", "_law_name", "_law_most"]
abbrev P__law_new : List Str := ["_law_state", "_law_name", "_law_most"]
theorem sc__law_new : FnScope N__law_new P__law_new (defScope s__law_new) := ⟨rfl, rfl, rfl, by decide +kernel, rfl, by decide +kernel, by decide +kernel⟩
theorem ok__law_new (T : Tx w K mg h) : Cal P w K mg base 1 (ga K "_law_new") (sp__law_new K) := by
  obtain ⟨fd, F⟩ := T.fn__law_new
  refine okOf F sc__law_new (fun _ _ _ _ _ _ us hl => match us, hl with | [_, _, _], _ => rfl) (fun vs H Q E h => ?_) (fun cdv A outer s H vs Q E hr hsp => ?_)
  · obtain ⟨d, g, N, S, z, D, ⟨n, rfl, _⟩ | ⟨rfl, _⟩⟩ := h
    · rfl
    · rfl
  · obtain ⟨d, g, N, S, z, D, hc⟩ := hsp
    have dg := D.x.main.1
    obtain ⟨⟨pt, hp, hpt⟩, hl, hq⟩ := id D.x.main.2
    obtain ⟨kvs, hk, hkl, hkn⟩ := D.x.keep
    have n62 := D.ok.n62
    have hd : H d = some (.dK (stD pt g.l g.pd g.kd)) := by rw [dg]; exact hp
    -- the new keeper is put in
    have fin : ∀ (mo : Option Int) (x tl : Addr), H x = none → upd H x (.dK []) tl = none → ∀ (H9 : Hp) (r : Addr), Same (upd (upd (upd (upd H x (.dK [])) tl (.lst [])) x (.dK (kpD ⟨[], 0, mo, 0⟩ tl))) g.kd (.dK (putK kvs (.inr z : Key) (.ref x)))) H9 →
        Next cL H H9 d g ⟨g.p, g.l, g.pd, g.kd, setA g.ko z x, setA g.th z tl⟩ (N + 1) S { S with pool := S.pool, keeps := setK S.keeps z ⟨[], 0, mo, 0⟩ } := by
      intro mo x tl nx ntl H9 r s9
      have tx : tl ≠ x := fun w => by rw [w, upd_same] at ntl; cases ntl
      have ntl0 : H tl = none := by rw [upd_ne tx] at ntl; exact ntl
      have s1 : Same H (upd (upd (upd H x (.dK [])) tl (.lst [])) x (.dK (kpD ⟨[], 0, mo, 0⟩ tl))) := fun b u e => by
        rw [upd_ne (ne_of_none e nx), upd_ne (ne_of_none e ntl0), upd_ne (ne_of_none e nx)]
        exact e
      exact (D.made hk (.inl rfl) nx ntl0 (ne_of_none hl ntl0).symm ⟨upd_same, by rw [upd_ne tx, upd_same]; rfl⟩ (D.x.main.2.same s1) s1.fr).andThen cL_ok s9
    rcases hc with ⟨n, rfl, R⟩ | ⟨rfl, R⟩
    · refine ⟨_, (pss_cons (ps_if (pt_cmpR op_eq (pv 2) pe_int (nomark _))
            (pss_one (ps_ret (pe_tup (pa_cons pe_int (pa_cons pe_non pa_nil)))))
            pss_nil)
          (pss_cons (ps_dput (hu_of hr) (pe_dget (hu_of hr) (pv 0) pe_str (fun _ _ => rfl)) (pv 1) (pe_disp (pps_cons pe_str (pv 2) (pps_cons pe_str (pe_lst pa_nil) (pps_cons pe_str pe_int (pps_cons pe_str pe_int pps_nil)))) (by rfl) (by rfl) (fun z => by cases z) (by decide)) rfl)
          (pss_one (ps_ret (pe_tup (pa_cons (pe_un un_neg pe_int) (pa_cons pe_str pa_nil))))))), ?_⟩
      refine ⟨_, rfl, rfl, _, rfl, ?_⟩
      refine iteVi (fun e => ?_) (fun e => ?_)
      · have e : n = 0 := by omega
        subst e
        exact ⟨by show 2 ≤ sizeLine; decide, fun r nr => R _ _ st_drawer0 _ _ _ (D.stay ((Same.refl H).upd nr)) upd_same⟩
      · refine fun x nx => ⟨_, rfl, by show 0 ≤ sizeLine; decide, fun tl ntl => ?_⟩
        have tx : tl ≠ x := fun w => by rw [w, upd_same] at ntl; cases ntl
        have ntl0 : H tl = none := by rw [upd_ne tx] at ntl; exact ntl
        have px : g.p ≠ x := ne_of_none hp nx
        have kx : g.kd ≠ x := ne_of_none hk nx
        refine ⟨by rw [upd_ne tx.symm, upd_same], kpD ⟨[], 0, some (n : Int), 0⟩ tl, rfl, by show 4 ≤ 15; decide, ?_⟩
        have dx : d ≠ x := ne_of_none hd nx
        have dtl : d ≠ tl := ne_of_none hd ntl0
        have ktl : g.kd ≠ tl := ne_of_none hk ntl0
        refine ⟨_, rfl, d, _, rfl, sg_keeps (by rw [upd_ne dx, upd_ne dtl, upd_ne dx]; exact hd), _, rfl, g.kd, _, rfl, DPut.k (k := Sum.inr z) (by rw [upd_ne kx, upd_ne ktl, upd_ne kx]; exact hk) (by rw [sizeLine_eq]; omega), ?_⟩
        refine ⟨_, rfl, by show 2 ≤ sizeLine; decide, fun r nr => ?_⟩
        exact R _ _ (st_drawer1 (fun w => e (by omega))) _ _ r (fin (some (n : Int)) x tl nx ntl _ r ((Same.refl _).upd nr)) upd_same
    · refine ⟨_, (pss_cons (ps_if (pt_cmpR op_eq (pv 2) pe_int (nomark _))
            (pss_one (ps_ret (pe_tup (pa_cons pe_int (pa_cons pe_non pa_nil)))))
            pss_nil)
          (pss_cons (ps_dput (hu_of hr) (pe_dget (hu_of hr) (pv 0) pe_str (fun _ _ => rfl)) (pv 1) (pe_disp (pps_cons pe_str (pv 2) (pps_cons pe_str (pe_lst pa_nil) (pps_cons pe_str pe_int (pps_cons pe_str pe_int pps_nil)))) (by rfl) (by rfl) (fun z => by cases z) (by decide)) rfl)
          (pss_one (ps_ret (pe_tup (pa_cons (pe_un un_neg pe_int) (pa_cons pe_str pa_nil))))))), ?_⟩
      refine ⟨_, rfl, rfl, _, rfl, iteF ?_⟩
      · refine fun x nx => ⟨_, rfl, by show 0 ≤ sizeLine; decide, fun tl ntl => ?_⟩
        have tx : tl ≠ x := fun w => by rw [w, upd_same] at ntl; cases ntl
        have ntl0 : H tl = none := by rw [upd_ne tx] at ntl; exact ntl
        have kx : g.kd ≠ x := ne_of_none hk nx
        refine ⟨by rw [upd_ne tx.symm, upd_same], kpD ⟨[], 0, none, 0⟩ tl, rfl, by show 4 ≤ 15; decide, ?_⟩
        have dx : d ≠ x := ne_of_none hd nx
        have dtl : d ≠ tl := ne_of_none hd ntl0
        have ktl : g.kd ≠ tl := ne_of_none hk ntl0
        refine ⟨_, rfl, d, _, rfl, sg_keeps (by rw [upd_ne dx, upd_ne dtl, upd_ne dx]; exact hd), _, rfl, g.kd, _, rfl, DPut.k (k := Sum.inr z) (by rw [upd_ne kx, upd_ne ktl, upd_ne kx]; exact hk) (by rw [sizeLine_eq]; omega), ?_⟩
        refine ⟨_, rfl, by show 2 ≤ sizeLine; decide, fun r nr => ?_⟩
        exact R _ _ rfl _ _ r (fin none x tl nx ntl _ r ((Same.refl _).upd nr)) upd_same
end
end Ev

set_option Elab.async false
set_option linter.all false
set_option maxRecDepth 100000
set_option maxHeartbeats 2000000
/-! The law's kept. -/
namespace Ev
open PySem PySem.Spec PyProof.Rows L2 He TL
/-- a row of one keeper -/
def Row.one : Row → Prop
  | .see _ _ | .seew _ _ _ | .held _ | .cut _ _ => True
  | _ => False
def sp__law_kept (_K : PySem.W.Frag) : Sp := fun vs H Q _ => ∃ (d ws : Addr) (g : Gk) (N : Nat) (S : Sx) (r : Row), vs = [.ref d, .ref ws] ∧ LawAt H d g N S ∧ H ws = some (.lst (r.words.map .str)) ∧ r.one ∧ RowOk S r ∧ ResL H d g N S r Q
theorem num_zero {n : Nat} : num n = "0" ↔ n = 0 := by
  constructor
  · intro h
    have e : numL n = numL 0 := by
      rw [← num_tl, ← num_tl, h]
      decide +kernel
    exact numL_inj e
  · rintro rfl
    decide +kernel
theorem int_of_num {n : Nat} (h : n < 10 ^ 12) : PySem.intText? (num n) = some (n : Int) := int_num (by rw [← num_len]; have := num_len12 h; omega)
section
variable {P : Program} {w : World} {K : PySem.W.Frag} {mg : Str → Option Value} {base h : Heap}
abbrev N__law_kept : List Str := ["_law_state", "_law_words", "_law_keeper", "_law_weighs"]
abbrev P__law_kept : List Str := ["_law_state", "_law_words"]
theorem sc__law_kept : FnScope N__law_kept P__law_kept (defScope s__law_kept) := ⟨rfl, rfl, rfl, by decide +kernel, rfl, by decide +kernel, by decide +kernel⟩
theorem ok__law_kept (T : Tx w K mg h) : Cal P w K mg base 3 (ga K "_law_kept") (sp__law_kept K) := by
  obtain ⟨fd, F⟩ := T.fn__law_kept
  refine okOf F sc__law_kept (fun _ _ _ _ _ _ us hl => match us, hl with | [_, _], _ => rfl) (fun vs H Q E h => ?_) (fun cdv A outer s H vs Q E hr hsp => ?_)
  · repeat (first | (obtain ⟨h1, _⟩ := h; subst h1; rfl) | (obtain ⟨_, h⟩ := h))
  · obtain ⟨d, ws, g, N, S, r, rfl, D, hws, one, ok, R⟩ := hsp
    refine ⟨_, (pss_cons (ps_set (i := 2) sc__law_kept.nd rfl (Or.inl rfl) (pe_dget2 (hu_of hr) (pe_dget (hu_of hr) (pv 0) pe_str (fun _ _ => rfl)) (pe_ix ix_list (pv 1) pe_int (fun _ _ => rfl)) pe_non ⟨rfl, rfl, rfl, rfl⟩))
        (pss_cons (ps_if (pt_cmpR op_isN (pv 2) pe_non (nomark _))
          (pss_one (ps_ret (pe_tup (pa_cons pe_int (pa_cons pe_non pa_nil)))))
          pss_nil)
        (pss_cons (ps_if (pt_cmpR op_eq (pe_ix ix_list (pv 1) pe_int (fun _ _ => rfl)) pe_str (nomark _))
          (pss_one (ps_ret (pe_tup (pa_cons (pe_un un_neg pe_int) (pa_cons (pe_join pe_str (pe_dget (hu_of hr) (pv 2) pe_str (fun _ _ => rfl))) pa_nil)))))
          pss_nil)
        (pss_cons (ps_set (i := 3) sc__law_kept.nd rfl (Or.inl rfl) (pe_cmpR op_eq (pe_callB call_len_seq (by rfl) T.fr_len boot_len (pa_cons (pv 1) pa_nil)) pe_int (nomark _)))
        (pss_cons (ps_if (pt_cmpR op_ne (pv 3) (pe_cmpR op_isN (pe_dget (hu_of hr) (pv 2) pe_str (fun _ _ => rfl)) pe_non (nomark _)) (nomark _))
          (pss_one (ps_ret (pe_tup (pa_cons pe_int (pa_cons pe_non pa_nil)))))
          pss_nil)
        (pss_cons (ps_if (pt_cmpR op_eq (pe_ix ix_list (pv 1) pe_int (fun _ _ => rfl)) pe_str (nomark _))
          (pss_one (ps_ret (pc_f (ok__law_cut T) hr (by decide) T.gl__law_cut tkE (pa_cons (pv 0) (pa_cons (pv 2) (pa_cons (pe_callTy call_int_str (by rfl) T.fr_int boot_int (pa_cons (pe_ix ix_list (pv 1) pe_int (fun _ _ => rfl)) pa_nil)) pa_nil))))))
          pss_nil)
        (pss_cons (ps_if (PW.pt (pw_and (pt_val (pv 3)) (pw_and1 (pt_cmpR op_eq (pe_ix ix_list (pv 1) pe_int (fun _ _ => rfl)) pe_str (nomark _)))))
          (pss_one (ps_ret (pe_tup (pa_cons pe_int (pa_cons pe_non pa_nil)))))
          pss_nil)
        (pss_cons (ps_if (pt_val (pv 3))
          (pss_one (ps_ret (pc_f (ok__law_see T) hr (by decide) T.gl__law_see tkE (pa_cons (pv 0) (pa_cons (pv 2) (pa_cons (pe_ix ix_list (pv 1) pe_int (fun _ _ => rfl)) (pa_cons (pe_callTy call_int_str (by rfl) T.fr_int boot_int (pa_cons (pe_ix ix_list (pv 1) pe_int (fun _ _ => rfl)) pa_nil)) pa_nil)))))))
          pss_nil)
        (pss_one (ps_ret (pc_f (ok__law_see T) hr (by decide) T.gl__law_see tkE (pa_cons (pv 0) (pa_cons (pv 2) (pa_cons (pe_ix ix_list (pv 1) pe_int (fun _ _ => rfl)) (pa_cons pe_non pa_nil))))))))))))))), ?_⟩
    have dg := D.x.main.1
    obtain ⟨⟨pt, hp, hpt⟩, hl, hq⟩ := id D.x.main.2
    obtain ⟨kvs, hk, hkl, hkn⟩ := D.x.keep
    have n62 := D.ok.n62
    have few := D.ok.few
    have hd : H d = some (.dK (stD pt g.l g.pd g.kd)) := by rw [dg]; exact hp
    -- the keeper's name is the second word
    obtain ⟨z, w1, hz, hrest⟩ : ∃ (z : Str) (w1 : Str), (r.words.map V.str)[1]? = some (.str z) ∧ (S.keeps z = none → stepS S r = (.ex .noname, S)) := by
      cases r with
      | see z t => exact ⟨z, z, rfl, fun e => st_see0 e⟩
      | seew z t n => exact ⟨z, z, rfl, fun e => st_seew0 e⟩
      | held z => exact ⟨z, z, rfl, fun e => st_held0 e⟩
      | cut z n => exact ⟨z, z, rfl, fun e => st_cut0 e⟩
      | _ => exact one.elim
    refine ⟨_, rfl, d, _, rfl, sg_keeps hd, g.kd, rfl, .inl ⟨_, .inl hk⟩, _, rfl, ws, _, _, _, rfl, rfl, SqL.of hws, atI_nat (j := 1) hz, _, DGet.k (k := Sum.inr z) hk, ?_⟩
    cases ez : S.keeps z with
    | none =>
      rw [(hkn z).1 ez]
      refine ⟨_, rfl, rfl, _, rfl, iteT ⟨by show 2 ≤ sizeLine; decide, fun a na => ?_⟩⟩
      exact R _ _ (hrest ez) _ _ a (D.stay ((Same.refl H).upd na)) upd_same
    | some k =>
      rw [((hkn z).2 k ez).1]
      refine ⟨_, rfl, rfl, _, rfl, iteF ?_⟩
      obtain ⟨kp, c1, ⟨ho, ht⟩, op, tl_⟩ := D.kpAt ez
      have c0 := kp.c0
      have ln := kp.ln
      have isn : ∀ o : Option Int, decide (mostV o = .non) = o.isNone := fun o => by cases o <;> rfl
      have bne : ∀ a b : Bool, (!decide (V.bl a = V.bl b)) = (a != b) := fun a b => by cases a <;> cases b <;> rfl
      cases r with
      | held y =>
        obtain rfl : y = z := by
          have q := Option.some.inj hz
          injection q
        have nsum := names_sum kp.nm
        refine ⟨_, rfl, ws, _, _, .str "held", rfl, rfl, SqL.of hws, rfl, rfl, _, rfl, ?_⟩
        rw [show decide (V.str "held" = V.str "held") = true by decide +kernel]
        refine iteT ⟨_, rfl, ⟨_, rfl⟩, _, rfl, g.ko y, _, rfl, kg_things ho, _, g.th y, k.things, rfl, rfl, .inl (SqL.of ht), ?_, by show 2 ≤ sizeLine; decide, fun a na => ?_⟩
        · rw [show Str.length " " = 1 by decide +kernel]
          omega
        · exact R _ _ (st_held1 ez) _ _ a (D.stay ((Same.refl H).upd na)) upd_same
      | cut y n =>
        obtain rfl : y = z := by
          have q := Option.some.inj hz
          injection q
        have n12 : n < 10 ^ 12 := ok.2
        refine ⟨_, rfl, ws, _, _, .str "cut", rfl, rfl, SqL.of hws, rfl, rfl, _, rfl, ?_⟩
        rw [show decide (V.str "cut" = V.str "held") = false by decide +kernel]
        refine iteF ⟨_, rfl, _, _, rfl, .inl (SqL.of hws), rfl, ?_⟩
        refine ⟨_, rfl, _, rfl, g.ko y, _, rfl, kg_most ho, rfl, rfl, _, rfl, ?_⟩
        rw [isn, bne]
        cases em : k.most with
        | none =>
          refine iteT ⟨by show 2 ≤ sizeLine; decide, fun a na => ?_⟩
          exact R _ _ (st_cut1 ez em) _ _ a (D.stay ((Same.refl H).upd na)) upd_same
        | some m =>
          obtain ⟨q1, q2, q3⟩ := kp.dr m em
          refine iteF ⟨_, rfl, ws, _, _, .str "cut", rfl, rfl, SqL.of hws, rfl, rfl, _, rfl, ?_⟩
          rw [show decide (V.str "cut" = V.str "cut") = true by decide +kernel]
          refine iteT ⟨_, rfl, _, rfl, _, rfl, ws, _, _, .str (num n), rfl, rfl, SqL.of hws, rfl, _, _, rfl, int_of_num n12, by have := num_len12 n12; omega, ?_⟩
          refine ⟨d, g.l, g.pd, g.kd, g.ko y, g.th y, S.pool, k, m, n, rfl, by rw [dg]; exact D.x.main.2, ⟨ho, ht⟩, tl_, by rw [dg]; exact op, em, by omega, by omega, fun w H' a s ha => ?_, fun w => ⟨fun hn H' a hP' f ha => ?_, fun as q' hn H' l' t' a hl' ht' htl hP' hK f ha => ?_⟩⟩
          · exact R _ _ (st_cut2 ez em w) _ _ a (D.stay s) ha
          · rw [dg] at hP' f
            exact R _ _ (st_cut3 ez em w hn) _ _ a (D.back hP' f) ha
          · rw [dg] at hP' f
            exact R _ _ (st_cut4 ez em w hn) _ _ a (D.keep ez hl' ht' htl hP' hK f) ha
      | see y t =>
        obtain rfl : y = z := by
          have q := Option.some.inj hz
          injection q
        refine ⟨_, rfl, ws, _, _, .str "see", rfl, rfl, SqL.of hws, rfl, rfl, _, rfl, ?_⟩
        rw [show decide (V.str "see" = V.str "held") = false by decide +kernel]
        refine iteF ⟨_, rfl, _, _, rfl, .inl (SqL.of hws), rfl, ?_⟩
        refine ⟨_, rfl, _, rfl, g.ko y, _, rfl, kg_most ho, rfl, rfl, _, rfl, ?_⟩
        rw [isn, bne]
        cases em : k.most with
        | none =>
          refine iteT ⟨by show 2 ≤ sizeLine; decide, fun a na => ?_⟩
          exact R _ _ (st_see1 ez em) _ _ a (D.stay ((Same.refl H).upd na)) upd_same
        | some m =>
          obtain ⟨q1, q2, q3⟩ := kp.dr m em
          refine iteF ⟨_, rfl, ws, _, _, .str "see", rfl, rfl, SqL.of hws, rfl, rfl, _, rfl, ?_⟩
          rw [show decide (V.str "see" = V.str "cut") = false by decide +kernel]
          refine iteF ⟨_, rfl, _, rfl, iteF (iteF ⟨_, rfl, _, rfl, iteF ?_⟩)⟩
          refine ⟨_, rfl, _, rfl, _, rfl, ws, _, _, .str t, rfl, rfl, SqL.of hws, rfl, ?_⟩
          refine ⟨d, g.l, g.pd, g.kd, g.ko y, g.th y, S.pool, k, t, .non, rfl, by rw [dg]; exact D.x.main.2, ⟨ho, ht⟩, tl_, by rw [dg]; exact op, c0, by omega, by omega, by omega, .inl ⟨m, rfl, em, q1, q3, fun hn H' a s ha => ?_, fun q' ths' hn H' l' t' a hl' ht' htl hP' hK f ha => ?_⟩⟩
          · exact R _ _ (st_see2 ez em hn) _ _ a (D.stay s) ha
          · rw [dg] at hP' f
            rw [em] at hK
            exact R _ _ (st_see3 ez em hn) _ _ a (D.keep ez hl' ht' htl hP' hK f) ha
      | seew y t n =>
        obtain rfl : y = z := by
          have q := Option.some.inj hz
          injection q
        obtain ⟨_, _, n12, tot⟩ := ok
        have tt := tot k ez
        have t0 := kp.t0
        refine ⟨_, rfl, ws, _, _, .str "see", rfl, rfl, SqL.of hws, rfl, rfl, _, rfl, ?_⟩
        rw [show decide (V.str "see" = V.str "held") = false by decide +kernel]
        refine iteF ⟨_, rfl, _, _, rfl, .inl (SqL.of hws), rfl, ?_⟩
        refine ⟨_, rfl, _, rfl, g.ko y, _, rfl, kg_most ho, rfl, rfl, _, rfl, ?_⟩
        rw [isn, bne]
        cases em : k.most with
        | some m =>
          refine iteT ⟨by show 2 ≤ sizeLine; decide, fun a na => ?_⟩
          exact R _ _ (st_seew1 ez em) _ _ a (D.stay ((Same.refl H).upd na)) upd_same
        | none =>
          refine iteF ⟨_, rfl, ws, _, _, .str "see", rfl, rfl, SqL.of hws, rfl, rfl, _, rfl, ?_⟩
          rw [show decide (V.str "see" = V.str "cut") = false by decide +kernel]
          refine iteF ⟨_, rfl, _, rfl, iteT ⟨_, rfl, ws, _, _, .str (num n), rfl, rfl, SqL.of hws, rfl, rfl, _, rfl, ?_⟩⟩
          refine iteVs (fun e0 => ?_) (fun e0 => ?_)
          · have e0 := num_zero.mp e0
            subst e0
            refine ⟨by show 2 ≤ sizeLine; decide, fun a na => ?_⟩
            exact R _ _ (st_seew2 ez em) _ _ a (D.stay ((Same.refl H).upd na)) upd_same
          · have n0 : ¬ n = 0 := fun w => e0 (num_zero.mpr w)
            refine ⟨_, rfl, _, rfl, iteT ?_⟩
            refine ⟨_, rfl, _, rfl, _, rfl, ws, _, _, .str t, rfl, rfl, SqL.of hws, rfl, _, rfl, ws, _, _, .str (num n), rfl, rfl, SqL.of hws, rfl, _, _, rfl, int_of_num n12, by have := num_len12 n12; omega, ?_⟩
            refine ⟨d, g.l, g.pd, g.kd, g.ko y, g.th y, S.pool, k, t, .int n, rfl, by rw [dg]; exact D.x.main.2, ⟨ho, ht⟩, tl_, by rw [dg]; exact op, c0, by omega, by omega, by omega, .inr ⟨n, rfl, em, by omega, t0, by omega, fun hn H' a s ha => ?_, fun q' ths' hn H' l' t' a hl' ht' htl hP' hK f ha => ?_⟩⟩
            · exact R _ _ (st_seew3 ez em n0 hn) _ _ a (D.stay s) ha
            · rw [dg] at hP' f
              rw [em] at hK
              exact R _ _ (st_seew4 ez em n0 hn) _ _ a (D.keep ez hl' ht' htl hP' hK f) ha
      | _ => exact one.elim
end
end Ev

set_option Elab.async false
set_option linter.all false
set_option maxRecDepth 100000
set_option maxHeartbeats 2000000
/-! The law's pour. -/
namespace Ev
open PySem PySem.Spec PyProof.Rows L2 He TL
def sp__law_pour (_K : PySem.W.Frag) : Sp := fun vs H Q _ => ∃ (d ws : Addr) (g : Gk) (N : Nat) (S : Sx) (z x y : Str), vs = [.ref d, .ref ws] ∧ LawAt H d g N S ∧ H ws = some (.lst ((Row.pour z x y).words.map .str)) ∧ RowOk S (.pour z x y) ∧ ResL H d g N S (.pour z x y) Q
section
variable {P : Program} {w : World} {K : PySem.W.Frag} {mg : Str → Option Value} {base h : Heap}
abbrev N__law_pour : List Str := ["_law_state", "_law_words", "_law_one", "_law_other", "_law_things", "_law_made"]
abbrev P__law_pour : List Str := ["_law_state", "_law_words"]
theorem sc__law_pour : FnScope N__law_pour P__law_pour (defScope s__law_pour) := ⟨rfl, rfl, rfl, by decide +kernel, rfl, by decide +kernel, by decide +kernel⟩
theorem ok__law_pour (T : Tx w K mg h) : Cal P w K mg base 4 (ga K "_law_pour") (sp__law_pour K) := by
  obtain ⟨fd, F⟩ := T.fn__law_pour
  refine okOf F sc__law_pour (fun _ _ _ _ _ _ us hl => match us, hl with | [_, _], _ => rfl) (fun vs H Q E h => ?_) (fun cdv A outer s H vs Q E hr hsp => ?_)
  · repeat (first | (obtain ⟨h1, _⟩ := h; subst h1; rfl) | (obtain ⟨_, h⟩ := h))
  · obtain ⟨d, ws, g, N, S, z, x, y, rfl, D, hws, ok, R⟩ := hsp
    refine ⟨_, (pss_cons (ps_set (i := 2) sc__law_pour.nd rfl (Or.inl rfl) (pe_dget1 (hu_of hr) (pe_dget (hu_of hr) (pv 0) pe_str (fun _ _ => rfl)) (pe_ix ix_list (pv 1) pe_int (fun _ _ => rfl)) ⟨rfl, rfl, rfl, rfl⟩))
        (pss_cons (ps_set (i := 3) sc__law_pour.nd rfl (Or.inl rfl) (pe_dget1 (hu_of hr) (pe_dget (hu_of hr) (pv 0) pe_str (fun _ _ => rfl)) (pe_ix ix_list (pv 1) pe_int (fun _ _ => rfl)) ⟨rfl, rfl, rfl, rfl⟩))
        (pss_cons (ps_if (PW.pt (pw_or (pt_cmpR op_isN (pv 2) pe_non (nomark _)) (pw_or (pt_cmpR op_isN (pv 3) pe_non (nomark _)) (pw_or1 (pt_cmpR op_ne (pe_cmpR op_isN (pe_dget (hu_of hr) (pv 2) pe_str (fun _ _ => rfl)) pe_non (nomark _)) (pe_cmpR op_isN (pe_dget (hu_of hr) (pv 3) pe_str (fun _ _ => rfl)) pe_non (nomark _)) (nomark _))))))
          (pss_one (ps_ret (pe_tup (pa_cons pe_int (pa_cons pe_non pa_nil)))))
          pss_nil)
        (pss_cons (ps_if (pt_cmpR op_ne (pe_dget (hu_of hr) (pv 2) pe_str (fun _ _ => rfl)) (pe_dget (hu_of hr) (pv 3) pe_str (fun _ _ => rfl)) (nomark _))
          (pss_one (ps_ret (pe_tup (pa_cons pe_int (pa_cons pe_non pa_nil)))))
          pss_nil)
        (pss_cons (ps_set (i := 4) sc__law_pour.nd rfl (Or.inl rfl) (pc_f (ok__law_poured T) hr (by decide) T.gl__law_poured tkE (pa_cons (pv 0) (pa_cons (pv 2) (pa_cons (pv 3) pa_nil)))))
        (pss_cons (ps_if (pt_cmpR op_isN (pv 4) pe_non (nomark _))
          (pss_one (ps_ret (pe_tup (pa_cons pe_int (pa_cons (pe_callB call_len_seq (by rfl) T.fr_len boot_len (pa_cons (pe_dget (hu_of hr) (pv 0) pe_str (fun _ _ => rfl)) pa_nil)) pa_nil)))))
          pss_nil)
        (pss_cons (ps_set (i := 5) sc__law_pour.nd rfl (Or.inl rfl) (pe_disp (pps_cons pe_str (pe_dget (hu_of hr) (pv 2) pe_str (fun _ _ => rfl)) (pps_cons pe_str (pe_callTy call_list_of (by rfl) T.fr_list boot_list (pa_cons (pv 4) pa_nil)) (pps_cons pe_str (pe_op op_add (pe_dget (hu_of hr) (pv 2) pe_str (fun _ _ => rfl)) (pe_dget (hu_of hr) (pv 3) pe_str (fun _ _ => rfl))) pps_nil))) (by rfl) (by rfl) (fun z => by cases z) (by decide)))
        (pss_cons (ps_dput (hu_of hr) (pv 5) pe_str (pe_op op_add (pe_dget (hu_of hr) (pv 2) pe_str (fun _ _ => rfl)) (pe_dget (hu_of hr) (pv 3) pe_str (fun _ _ => rfl))) rfl)
        (pss_cons (ps_dput (hu_of hr) (pe_dget (hu_of hr) (pv 0) pe_str (fun _ _ => rfl)) (pe_ix ix_list (pv 1) pe_int (fun _ _ => rfl)) (pv 5) rfl)
        (pss_one (ps_ret (pe_tup (pa_cons (pe_un un_neg pe_int) (pa_cons pe_str pa_nil)))))))))))))), ?_⟩
    have dg := D.x.main.1
    obtain ⟨⟨pt, hp, hpt⟩, hl, hq⟩ := id D.x.main.2
    obtain ⟨kvs, hk, hkl, hkn⟩ := D.x.keep
    have n62 := D.ok.n62
    have few := D.ok.few
    have hd : H d = some (.dK (stD pt g.l g.pd g.kd)) := by rw [dg]; exact hp
    have isn : ∀ o : Option Int, decide (mostV o = .non) = o.isNone := fun o => by cases o <;> rfl
    have bne : ∀ a b : Bool, (!decide (V.bl a = V.bl b)) = (a != b) := fun a b => by cases a <;> cases b <;> rfl
    have a2 : atI ((Row.pour z x y).words.map V.str) (2 : Int) = some (.str x) := rfl
    have a3 : atI ((Row.pour z x y).words.map V.str) (3 : Int) = some (.str y) := rfl
    have a1 : atI ((Row.pour z x y).words.map V.str) (1 : Int) = some (.str z) := rfl
    refine ⟨_, rfl, d, _, rfl, sg_keeps hd, g.kd, rfl, .inl ⟨_, .inl hk⟩, _, rfl, ws, _, _, _, rfl, rfl, SqL.of hws, a2, _, DGet.k (k := Sum.inr x) hk, ?_⟩
    refine ⟨_, rfl, d, _, rfl, sg_keeps hd, g.kd, rfl, .inl ⟨_, .inl hk⟩, _, rfl, ws, _, _, _, rfl, rfl, SqL.of hws, a3, _, DGet.k (k := Sum.inr y) hk, ?_⟩
    cases ex : S.keeps x with
    | none =>
      rw [(hkn x).1 ex]
      refine ⟨_, rfl, rfl, _, rfl, iteT (iteT ⟨by show 2 ≤ sizeLine; decide, fun a na => ?_⟩)⟩
      exact R _ _ (st_pour0 (pk_no1 ex)) _ _ a (D.stay ((Same.refl H).upd na)) upd_same
    | some k1 =>
    rw [((hkn x).2 k1 ex).1]
    refine ⟨_, rfl, rfl, _, rfl, iteF ?_⟩
    cases ey : S.keeps y with
    | none =>
      rw [(hkn y).1 ey]
      refine ⟨_, rfl, rfl, _, rfl, iteT (iteT ⟨by show 2 ≤ sizeLine; decide, fun a na => ?_⟩)⟩
      exact R _ _ (st_pour0 (pk_no2 ex ey)) _ _ a (D.stay ((Same.refl H).upd na)) upd_same
    | some k2 =>
    rw [((hkn y).2 k2 ey).1]
    refine ⟨_, rfl, rfl, _, rfl, iteF ?_⟩
    obtain ⟨kp1, c1, ⟨ho1, ht1⟩, op1, tl1⟩ := D.kpAt ex
    obtain ⟨kp2, c2, ⟨ho2, ht2⟩, op2, tl2⟩ := D.kpAt ey
    have c10 := kp1.c0
    have c20 := kp2.c0
    have l1 := kp1.ln
    have l2 := kp2.ln
    have t10 := kp1.t0
    have t20 := kp2.t0
    have tt := ok.2.2.2.2 _ _ ex ey
    refine ⟨_, rfl, g.ko x, _, rfl, kg_most ho1, rfl, _, rfl, g.ko y, _, rfl, kg_most ho2, rfl, rfl, _, rfl, ?_⟩
    rw [isn, isn, bne]
    have main : ∀ (Qc : VK), k1.most = k2.most → (∀ x', pourK S x y = .inl x' → x' = .short S.pool.coins.length → ∀ H', PoolL H' d g.l g.pd g.kd S.pool → Fr (fun b => b = d) H H' → Qc .non H') →
        (∀ q' ths, pourK S x y = .inr (q', ⟨ths, k1.count + k2.count, k1.most, k1.total + k2.total⟩) → ∀ H6 l' r6, (l' = g.l ∨ H l' = none) → PoolL H6 d l' g.pd g.kd q' → Fr (fun b => b = d) H H6 → H6 r6 = some (.lst (ths.map .str)) → Qc (.ref r6) H6) → sp__law_poured K [.ref d, .ref (g.ko x), .ref (g.ko y)] H Qc E := by
      intro Qc em kn ks
      refine ⟨d, g.l, g.pd, g.kd, g.ko x, g.ko y, g.th x, g.th y, S.pool, k1, k2, rfl, by rw [dg]; exact D.x.main.2, ⟨ho1, ht1⟩, ⟨ho2, ht2⟩, by rw [dg]; exact op1, by rw [dg]; exact op2, by omega, c10, c20, by omega, by omega, by omega, ?_⟩
      cases em1 : k1.most with
      | some m =>
        rw [em1] at em
        obtain ⟨q1, q2, q3⟩ := kp1.dr m em1
        obtain ⟨r1, r2, r3⟩ := kp2.dr m em.symm
        refine .inl ⟨m, rfl, em.symm, q1, q3, r3, fun hn => kn _ (pk_d1 ex ey em1 em.symm hn) rfl, fun as q' hn H' l' r hl' hP' f hr => ?_⟩
        exact ks q' _ (by rw [em1]; exact pk_d2 ex ey em1 em.symm hn) H' l' r hl' hP' f hr
      | none =>
        rw [em1] at em
        obtain ⟨q1, q2, q3⟩ := kp1.wr em1
        obtain ⟨r1, r2, r3⟩ := kp2.wr em.symm
        refine .inr ⟨rfl, em.symm, by omega, fun w1 w2 => by have := q3 w1; omega, q2, r2, fun hn => kn _ (pk_w1 ex ey em1 em.symm hn) rfl, fun q' ths hn H' l' r hl' hP' f hr => ?_⟩
        exact ks q' _ (by rw [em1]; exact pk_w2 ex ey em1 em.symm hn) H' l' r hl' hP' f hr
    have meq : ∀ a b : Option Int, mostV a = mostV b → a = b := fun a b e => by
      cases a <;> cases b
      · rfl
      · cases e
      · cases e
      · injection e with e
        rw [e]
    by_cases h1 : k1.most.isNone = k2.most.isNone
    · rw [show (k1.most.isNone != k2.most.isNone) = false by rw [h1]; exact bne_self_eq_false _]
      refine iteF ?_
      refine ⟨_, rfl, g.ko x, _, rfl, kg_most ho1, _, rfl, g.ko y, _, rfl, kg_most ho2, (by cases k1.most <;> cases k2.most <;> rfl), _, rfl, ?_⟩
      by_cases h2 : k1.most = k2.most
      · rw [show (!decide (mostV k1.most = mostV k2.most)) = false by rw [h2, decide_eq_true rfl]; rfl]
        refine iteF ?_
        refine ⟨_, rfl, _, rfl, _, rfl, ?_⟩
        unfold tNil
        refine main _ h2 (fun x' hx' ex' H' hP' f => ?_) (fun q' ths hpk H6 l' r6 hl' hP' f hr6 => ?_)
        · subst ex'
          refine ⟨_, rfl, rfl, _, rfl, iteT ?_⟩
          obtain ⟨⟨pt6, hp6, hpt6⟩, hl6, hq6⟩ := id hP'
          refine ⟨_, rfl, d, _, rfl, sg_coins hp6, _, _, rfl, .inl (SqL.of hl6), by show 2 ≤ sizeLine; decide, fun a na => ?_⟩
          rw [List.length_map]
          rw [dg] at hP' f
          exact R _ _ (st_pour0 hx') _ _ a ((D.back hP' f).andThen cL_ok ((Same.refl _).upd na)) upd_same
        · refine ⟨_, rfl, rfl, _, rfl, iteF ?_⟩
          have o1d : g.ko x ≠ d := by rw [dg]; exact op1
          have o2d : g.ko y ≠ d := by rw [dg]; exact op2
          have ho16 := f _ _ ho1 o1d
          have ho26 := f _ _ ho2 o2d
          have wd : ws ≠ d := ne_of hws hd (by intro w; cases w)
          have kd_ : g.kd ≠ d := by rw [dg]; exact D.x.inj.pk.symm
          have hws6 := f _ _ hws wd
          have hk6 := f _ _ hk kd_
          obtain ⟨⟨pt6, hp6, hpt6⟩, hl6, hq6⟩ := id hP'
          have hpn : H6 d ≠ none := by rw [hp6]; exact fun w => nomatch w
          intro a na
          have sa : Same H6 (upd H6 a (.dK [])) := (Same.refl H6).upd na
          refine ⟨_, rfl, g.ko x, _, rfl, kg_most (sa _ _ ho16), _, rfl, _, _, rfl, .inl (SqL.of (sa _ _ hr6)), fun tl ntl => ?_⟩
          have sl := sa.upd (o := .lst (ths.map .str)) ntl
          have tla : tl ≠ a := fun w => by rw [w, upd_same] at ntl; cases ntl
          have ntl6 : H6 tl = none := sa.free ntl
          refine ⟨_, rfl, g.ko x, _, rfl, kg_count (sl _ _ ho16), _, rfl, g.ko y, _, rfl, kg_count (sl _ _ ho26), _, _, rfl, rfl, ?_⟩
          refine ⟨by rw [upd_ne tla.symm, upd_same], [(.inr "most", mostV k1.most), (.inr "things", .ref tl), (.inr "count", .int (k1.count + k2.count))], rfl, by show 3 ≤ 15; decide, ?_⟩
          have e3 : ∀ b u, H6 b = some u → upd (upd (upd H6 a (.dK [])) tl (.lst (ths.map .str))) a (.dK (mergeK [] [(.inr "most", mostV k1.most), (.inr "things", .ref tl), (.inr "count", .int (k1.count + k2.count))])) b = some u := fun b u e => by
            rw [upd_ne (ne_of_none e na)]
            exact sl _ _ e
          refine ⟨_, rfl, g.ko x, _, rfl, kg_total (e3 _ _ ho16), _, rfl, g.ko y, _, rfl, kg_total (e3 _ _ ho26), _, _, rfl, rfl, _, rfl, a, _, rfl, DPut.k (k := Sum.inr "total") upd_same (by show 3 < sizeLine; decide), ?_⟩
          have ek : putK (mergeK [] [(.inr "most", mostV k1.most), (.inr "things", .ref tl), (.inr "count", .int (k1.count + k2.count))]) (.inr "total" : Key) (V.int (k1.total + k2.total)) = kpD ⟨ths, k1.count + k2.count, k1.most, k1.total + k2.total⟩ tl := rfl
          have e4 : Same H6 (upd (upd (upd (upd H6 a (.dK [])) tl (.lst (ths.map .str))) a (.dK (mergeK [] [(.inr "most", mostV k1.most), (.inr "things", .ref tl), (.inr "count", .int (k1.count + k2.count))]))) a (.dK (putK (mergeK [] [(.inr "most", mostV k1.most), (.inr "things", .ref tl), (.inr "count", .int (k1.count + k2.count))]) (.inr "total" : Key) (V.int (k1.total + k2.total))))) := fun b u e => by
            rw [upd_ne (ne_of_none e na)]
            exact e3 _ _ e
          have hKa : KL (upd (upd (upd (upd H6 a (.dK [])) tl (.lst (ths.map .str))) a (.dK (mergeK [] [(.inr "most", mostV k1.most), (.inr "things", .ref tl), (.inr "count", .int (k1.count + k2.count))]))) a (.dK (putK (mergeK [] [(.inr "most", mostV k1.most), (.inr "things", .ref tl), (.inr "count", .int (k1.count + k2.count))]) (.inr "total" : Key) (V.int (k1.total + k2.total))))) a tl ⟨ths, k1.count + k2.count, k1.most, k1.total + k2.total⟩ := ⟨by rw [upd_same, ek], by rw [upd_ne tla, upd_ne tla, upd_same]⟩
          refine ⟨_, rfl, _, rfl, d, _, rfl, sg_keeps (e4 _ _ hp6), _, rfl, ws, _, _, _, rfl, rfl, SqL.of (e4 _ _ hws6), a1, g.kd, _, rfl, DPut.k (k := Sum.inr z) (e4 _ _ hk6) (by rw [sizeLine_eq]; omega), ?_⟩
          refine ⟨_, rfl, by show 2 ≤ sizeLine; decide, fun r nr => ?_⟩
          have fe : Fr (fun b => b = d) H _ := f.trans e4.fr
          have hPe := hP'.same e4
          rw [dg] at fe hPe
          exact R _ _ (st_pour1 hpk) _ _ r ((D.made hk hl' (f.freeP hpn na) (f.freeP hpn ntl6) ((ne_of_none hl6 ntl6).symm) hKa hPe fe).andThen cL_ok ((Same.refl _).upd nr)) upd_same
      · rw [show (!decide (mostV k1.most = mostV k2.most)) = true by rw [decide_eq_false fun w => h2 (meq _ _ w)]; rfl]
        refine iteT ⟨by show 2 ≤ sizeLine; decide, fun a na => ?_⟩
        cases em1 : k1.most with
        | none =>
          cases em2 : k2.most with
          | none => rw [em1, em2] at h2; exact absurd rfl h2
          | some m2 => rw [em1, em2] at h1; cases h1
        | some m1 =>
          cases em2 : k2.most with
          | none => rw [em1, em2] at h1; cases h1
          | some m2 => exact R _ _ (st_pour0 (pk_d0 ex ey em1 em2 fun w => h2 (by rw [em1, em2, w]))) _ _ a (D.stay ((Same.refl H).upd na)) upd_same
    · rw [show (k1.most.isNone != k2.most.isNone) = true from bne_iff_ne.mpr h1]
      refine iteT ⟨by show 2 ≤ sizeLine; decide, fun a na => ?_⟩
      cases em1 : k1.most with
      | none =>
        cases em2 : k2.most with
        | none => rw [em1, em2] at h1; exact absurd rfl h1
        | some m2 => exact R _ _ (st_pour0 (pk_mix2 ex ey em1 em2)) _ _ a (D.stay ((Same.refl H).upd na)) upd_same
      | some m1 =>
        cases em2 : k2.most with
        | none => exact R _ _ (st_pour0 (pk_mix1 ex ey em1 em2)) _ _ a (D.stay ((Same.refl H).upd na)) upd_same
        | some m2 => rw [em1, em2] at h1; exact absurd rfl h1
end
end Ev

set_option Elab.async false
set_option linter.all false
set_option maxRecDepth 100000
set_option maxHeartbeats 2000000
/-! Sums of weights beyond. -/
namespace Ev
open PySem PySem.Spec PyProof.Rows L2 He TL
def tot (S : Sx) (n : Str) : Int := match S.keeps n with
  | none => 0
  | some k => k.total
def beyondB (S : Sx) : Row → Bool
  | .pour _ a b => decide (tot S a + (tot S b + 0) > 10 ^ 12)
  | .seew z _ n => match S.keeps z with
    | none => false
    | some k => decide (k.total + n > 10 ^ 12)
  | _ => false
/-- what a row's own words must keep -/
def RowW (r : Row) : Prop := RowOk s0 r
theorem rowOk_of {S : Sx} {r : Row} (h : RowW r) (hb : beyondB S r = false) : RowOk S r := by
  cases r with
  | seew z t n =>
    obtain ⟨h1, h2, h3, _⟩ := h
    refine ⟨h1, h2, h3, fun k e => ?_⟩
    have q := hb
    simp only [beyondB, e] at q
    have := of_decide_eq_false q
    omega
  | pour z a b =>
    obtain ⟨h1, h2, h3, h4, _⟩ := h
    refine ⟨h1, h2, h3, h4, fun k1 k2 e1 e2 => ?_⟩
    have q := hb
    simp only [beyondB, tot, e1, e2] at q
    have := of_decide_eq_false q
    omega
  | coins cs => exact h
  | draw n => exact h
  | go z => exact h
  | program z k => exact h
  | drawer z n => exact h
  | weigher z => exact h
  | see z t => exact h
  | held z => exact h
  | cut z n => exact h
def sp__law_beyond (_K : PySem.W.Frag) : Sp := fun vs H Q _ => ∃ (d ws : Addr) (g : Gk) (N : Nat) (S : Sx) (r : Row), vs = [.ref d, .ref ws] ∧ LawAt H d g N S ∧ H ws = some (.lst (r.words.map .str)) ∧ RowW r ∧ ∀ H', Same H H' → Q (.bl (beyondB S r)) H'
section
variable {P : Program} {w : World} {K : PySem.W.Frag} {mg : Str → Option Value} {base h : Heap}
abbrev N__law_beyond : List Str := ["_law_state", "_law_words", "_law_word"]
abbrev P__law_beyond : List Str := ["_law_state", "_law_words"]
theorem sc__law_beyond : FnScope N__law_beyond P__law_beyond (defScope s__law_beyond) := ⟨rfl, rfl, rfl, by decide +kernel, rfl, by decide +kernel, by decide +kernel⟩
theorem ok__law_beyond (T : Tx w K mg h) : Cal P w K mg base 1 (ga K "_law_beyond") (sp__law_beyond K) := by
  obtain ⟨fd, F⟩ := T.fn__law_beyond
  refine okOf F sc__law_beyond (fun _ _ _ _ _ _ us hl => match us, hl with | [_, _], _ => rfl) (fun vs H Q E h => ?_) (fun cdv A outer s H vs Q E hr hsp => ?_)
  · repeat (first | (obtain ⟨h1, _⟩ := h; subst h1; rfl) | (obtain ⟨_, h⟩ := h))
  · obtain ⟨d, ws, g, N, S, r, rfl, D, hws, ok, kk⟩ := hsp
    refine ⟨_, (pss_cons (ps_if (pt_cmpR op_eq (pe_ix ix_list (pv 1) pe_int (fun _ _ => rfl)) pe_str (nomark _))
          (pss_one (ps_ret (pe_cmpR op_gt (pe_callB (cr_sum rfl) (by rfl) T.fr_sum boot_sum (pa_cons (pe_lc (own := [("_law_word", 2)]) rfl sc__law_beyond.nd (pi_list (pe_slice sl_list (pv 1) (po_some pe_int) po_none)) (blkOk_by (own := [("_law_word", 2)]) (N := N__law_beyond) (sc := defScope s__law_beyond) (by decide +kernel)) (fun _ _ _ _ _ => (pg_name (i := 2) sc__law_beyond.nd rfl (Or.inl rfl))) (fun _ _ _ _ _ => pts_nil) (fun _ _ _ _ _ => (pe_dget (hu_of hr) (pe_dget2 (hu_of hr) (pe_dget (hu_of hr) (pv 0) pe_str (fun _ _ => rfl)) (pv 2) (pe_disp (pps_cons pe_str pe_int pps_nil) (by rfl) (by rfl) (fun z => by cases z) (by decide)) ⟨rfl, rfl, rfl, rfl⟩) pe_str (fun _ _ => rfl)))) pa_nil)) (pe_op op_pow pe_int pe_int) (nomark _))))
          pss_nil)
        (pss_cons (ps_if (PW.pt (pw_and (pt_cmpR op_eq (pe_ix ix_list (pv 1) pe_int (fun _ _ => rfl)) pe_str (nomark _)) (pw_and (pt_cmpR op_eq (pe_callB call_len_seq (by rfl) T.fr_len boot_len (pa_cons (pv 1) pa_nil)) pe_int (nomark _)) (pw_and1 (pt_cmp (pc_din (hu_of hr) (pe_ix ix_list (pv 1) pe_int (fun _ _ => rfl)) (pe_dget (hu_of hr) (pv 0) pe_str (fun _ _ => rfl))))))))
          (pss_one (ps_ret (pe_cmpR op_gt (pe_op op_add (pe_dget (hu_of hr) (pe_dget (hu_of hr) (pe_dget (hu_of hr) (pv 0) pe_str (fun _ _ => rfl)) (pe_ix ix_list (pv 1) pe_int (fun _ _ => rfl)) (fun _ _ => rfl)) pe_str (fun _ _ => rfl)) (pe_callTy call_int_str (by rfl) T.fr_int boot_int (pa_cons (pe_ix ix_list (pv 1) pe_int (fun _ _ => rfl)) pa_nil))) (pe_op op_pow pe_int pe_int) (nomark _))))
          pss_nil)
        (pss_one (ps_ret pe_bl)))), ?_⟩
    have dg := D.x.main.1
    obtain ⟨⟨pt, hp, hpt⟩, hl, hq⟩ := id D.x.main.2
    obtain ⟨kvs, hk, hkl, hkn⟩ := D.x.keep
    have hd : H d = some (.dK (stD pt g.l g.pd g.kd)) := by rw [dg]; exact hp
    obtain ⟨wd, rest, ew⟩ : ∃ wd rest, r.words = wd :: rest := by cases r <;> exact ⟨_, _, rfl⟩
    have a0 : atI (r.words.map V.str) (0 : Int) = some (.str wd) := by rw [ew]; exact atI_nat (j := 0) rfl
    refine ⟨_, rfl, ws, _, _, _, rfl, rfl, SqL.of hws, a0, rfl, _, rfl, ?_⟩
    by_cases hpour : ∃ z x y, r = .pour z x y
    · obtain ⟨z, x, y, rfl⟩ := hpour
      obtain rfl : ("pour" : Str) = wd := by injection ew
      rw [show decide (V.str "pour" = V.str "pour") = true by decide +kernel]
      have cutw : cutV ((Row.pour z x y).words.map V.str) (some 2) none = [V.str x, V.str y] := by
        have q := cut_from (xs := (Row.pour z x y).words.map V.str) (i := 2) (by show 2 ≤ 4; decide)
        exact q
      refine iteT ⟨_, rfl, _, rfl, ws, _, rfl, SqL.of hws, fun L nL => ⟨L, rfl, ⟨_, SqL.of upd_same⟩, fun E' nE => ?_⟩⟩
      rw [cutw] at nE ⊢
      have sL : Same H (upd H L (.lst [V.str x, V.str y])) := (Same.refl H).upd nL
      refine lc_mapL (xs := [x, y]) (e := V.str) (f := fun n => .int (tot S n)) (SqL.of upd_same) nE (by show 2 ≤ 1000000; decide) (fun n H2 hn s2 R Sx hR => ?_) fun H2 s2 hl2 => ?_
      · have s3 := sL.trans s2
        refine ⟨rfl, _, rfl, d, _, rfl, sg_keeps (s3 _ _ hd), g.kd, rfl, .inl ⟨_, .inl (s3 _ _ hk)⟩, _, rfl, fun t nt => ?_⟩
        have st : Same H2 (upd H2 t (.dK [])) := (Same.refl H2).upd nt
        refine ⟨upd_same, [(.inr "total", .int 0)], rfl, by show 1 ≤ 15; decide, ?_⟩
        have st2 : Same H2 (upd (upd H2 t (.dK [])) t (.dK (mergeK [] [(.inr "total", .int 0)]))) := fun b u e => by
          rw [upd_ne (ne_of_none e nt)]
          exact st _ _ e
        refine ⟨_, DGet.k (k := Sum.inr n) (st2 _ _ (s3 _ _ hk)), ?_⟩
        cases en : S.keeps n with
        | none =>
          rw [(hkn n).1 en]
          refine ⟨t, _, rfl, DGet.k (k := Sum.inr "total") upd_same, ?_⟩
          have e0 : tot S n = 0 := by unfold tot; rw [en]
          rw [e0] at hR
          exact hR _ st2
        | some k =>
          rw [((hkn n).2 k en).1]
          obtain ⟨_, _, ⟨ho, _⟩, _⟩ := D.kpAt en
          refine ⟨g.ko n, _, rfl, kg_total (st2 _ _ (s3 _ _ ho)), ?_⟩
          have e0 : tot S n = k.total := by unfold tot; rw [en]
          rw [e0] at hR
          exact hR _ st2
      · exact ⟨E', [tot S x, tot S y], rfl, SqL.of hl2, 10, 12, rfl, rfl, ⟨by decide, by decide, by decide⟩, _, _, rfl, rfl, kk H2 (sL.trans s2)⟩
    · have wp : wd ≠ "pour" := by
        intro e
        subst e
        cases r with
        | pour z x y => exact hpour ⟨z, x, y, rfl⟩
        | coins cs => injection ew with e1; exact absurd e1 (by decide +kernel : ("coins" : Str) ≠ "pour")
        | draw n => injection ew with e1; exact absurd e1 (by decide +kernel : ("draw" : Str) ≠ "pour")
        | go z => injection ew with e1; exact absurd e1 (by decide +kernel : ("go" : Str) ≠ "pour")
        | program z k => injection ew with e1; exact absurd e1 (by decide +kernel : ("program" : Str) ≠ "pour")
        | drawer z n => injection ew with e1; exact absurd e1 (by decide +kernel : ("drawer" : Str) ≠ "pour")
        | weigher z => injection ew with e1; exact absurd e1 (by decide +kernel : ("weigher" : Str) ≠ "pour")
        | see z t => injection ew with e1; exact absurd e1 (by decide +kernel : ("see" : Str) ≠ "pour")
        | seew z t n => injection ew with e1; exact absurd e1 (by decide +kernel : ("see" : Str) ≠ "pour")
        | held z => injection ew with e1; exact absurd e1 (by decide +kernel : ("held" : Str) ≠ "pour")
        | cut z n => injection ew with e1; exact absurd e1 (by decide +kernel : ("cut" : Str) ≠ "pour")
      rw [decide_eq_false fun e => wp (vstr_eq.mp e)]
      refine iteF ⟨_, rfl, ws, _, _, _, rfl, rfl, SqL.of hws, a0, rfl, _, rfl, ?_⟩
      cases r with
      | pour z x y => exact absurd ⟨z, x, y, rfl⟩ hpour
      | seew z t n =>
        obtain rfl : ("see" : Str) = wd := by injection ew
        have n12 : n < 10 ^ 12 := ok.2.2.1
        rw [show decide (V.str "see" = V.str "see") = true by decide +kernel]
        refine iteT ⟨_, rfl, _, _, rfl, .inl (SqL.of hws), rfl, _, rfl, iteT ?_⟩
        refine ⟨_, rfl, ws, _, _, .str z, rfl, rfl, SqL.of hws, rfl, _, rfl, d, _, rfl, sg_keeps hd, g.kd, _, rfl, DGet.k (k := Sum.inr z) hk, _, rfl, ?_⟩
        have bq : beyondB S (.seew z t n) = (match S.keeps z with | none => false | some k => decide (k.total + n > 10 ^ 12)) := rfl
        cases en : S.keeps z with
        | none =>
          rw [(hkn z).1 en]
          rw [en] at bq
          have q := kk H (Same.refl H)
          rw [bq] at q
          exact iteF q
        | some k =>
          rw [((hkn z).2 k en).1]
          rw [en] at bq
          have q := kk H (Same.refl H)
          rw [bq] at q
          obtain ⟨_, _, ⟨ho, _⟩, _⟩ := D.kpAt en
          have dz := DGet.k (k := Sum.inr z) hk
          rw [((hkn z).2 k en).1] at dz
          exact iteT ⟨_, rfl, d, _, rfl, sg_keeps hd, _, rfl, ws, _, _, .str z, rfl, rfl, SqL.of hws, rfl, g.kd, _, rfl, dz, g.ko z, _, rfl, kg_total ho, _, rfl, ws, _, _, .str (num n), rfl, rfl, SqL.of hws, rfl, _, _, rfl, int_of_num n12, by have := num_len12 n12; omega, _, _, rfl, rfl, 10, 12, rfl, rfl, ⟨by decide, by decide, by decide⟩, _, _, rfl, rfl, q⟩
      | see z t =>
        obtain rfl : ("see" : Str) = wd := by injection ew
        rw [show decide (V.str "see" = V.str "see") = true by decide +kernel]
        exact iteT ⟨_, rfl, _, _, rfl, .inl (SqL.of hws), rfl, _, rfl, iteF (iteF (kk H (Same.refl H)))⟩
      | coins cs =>
        obtain rfl : ("coins" : Str) = wd := by injection ew
        rw [show decide (V.str "coins" = V.str "see") = false by decide +kernel]
        exact iteF (iteF (kk H (Same.refl H)))
      | draw n =>
        obtain rfl : ("draw" : Str) = wd := by injection ew
        rw [show decide (V.str "draw" = V.str "see") = false by decide +kernel]
        exact iteF (iteF (kk H (Same.refl H)))
      | go z =>
        obtain rfl : ("go" : Str) = wd := by injection ew
        rw [show decide (V.str "go" = V.str "see") = false by decide +kernel]
        exact iteF (iteF (kk H (Same.refl H)))
      | program z k =>
        obtain rfl : ("program" : Str) = wd := by injection ew
        rw [show decide (V.str "program" = V.str "see") = false by decide +kernel]
        exact iteF (iteF (kk H (Same.refl H)))
      | drawer z n =>
        obtain rfl : ("drawer" : Str) = wd := by injection ew
        rw [show decide (V.str "drawer" = V.str "see") = false by decide +kernel]
        exact iteF (iteF (kk H (Same.refl H)))
      | weigher z =>
        obtain rfl : ("weigher" : Str) = wd := by injection ew
        rw [show decide (V.str "weigher" = V.str "see") = false by decide +kernel]
        exact iteF (iteF (kk H (Same.refl H)))
      | held z =>
        obtain rfl : ("held" : Str) = wd := by injection ew
        rw [show decide (V.str "held" = V.str "see") = false by decide +kernel]
        exact iteF (iteF (kk H (Same.refl H)))
      | cut z n =>
        obtain rfl : ("cut" : Str) = wd := by injection ew
        rw [show decide (V.str "cut" = V.str "see") = false by decide +kernel]
        exact iteF (iteF (kk H (Same.refl H)))
end
end Ev

set_option Elab.async false
set_option linter.all false
set_option maxRecDepth 100000
set_option maxHeartbeats 2000000
/-! The law is told a row. -/
namespace Ev
open PySem PySem.Spec PyProof.Rows L2 He TL
def sp__law_told (_K : PySem.W.Frag) : Sp := fun vs H Q _ => ∃ (d ws : Addr) (g : Gk) (N : Nat) (S : Sx) (r : Row), vs = [.ref d, .ref ws] ∧ LawAt H d g N S ∧ H ws = some (.lst (r.words.map .str)) ∧ RowOk S r ∧ ResL H d g N S r Q
theorem bits_map {cs : List Int} (h : ∀ c ∈ cs, c = 0 ∨ c = 1) : ((bits cs).cps.toList.map fun c => V.int (((c : Nat) : Int) - 48)) = cs.map V.int := by
  rw [bits_tl, List.map_map]
  refine List.map_congr_left fun c hc => ?_
  show V.int (((48 + c.toNat : Nat) : Int) - 48) = V.int c
  rcases h c hc with z | z
  · rw [z]; rfl
  · rw [z]; rfl
section
variable {P : Program} {w : World} {K : PySem.W.Frag} {mg : Str → Option Value} {base h : Heap}
abbrev N__law_told : List Str := ["_law_state", "_law_words", "_law_found", "_law_sign"]
abbrev P__law_told : List Str := ["_law_state", "_law_words"]
theorem sc__law_told : FnScope N__law_told P__law_told (defScope s__law_told) := ⟨rfl, rfl, rfl, by decide +kernel, rfl, by decide +kernel, by decide +kernel⟩
theorem ok__law_told (T : Tx w K mg h) : Cal P w K mg base 5 (ga K "_law_told") (sp__law_told K) := by
  obtain ⟨fd, F⟩ := T.fn__law_told
  refine okOf F sc__law_told (fun _ _ _ _ _ _ us hl => match us, hl with | [_, _], _ => rfl) (fun vs H Q E h => ?_) (fun cdv A outer s H vs Q E hr hsp => ?_)
  · repeat (first | (obtain ⟨h1, _⟩ := h; subst h1; rfl) | (obtain ⟨_, h⟩ := h))
  · obtain ⟨d, ws, g, N, S, r, rfl, D, hws, ok, R⟩ := hsp
    refine ⟨_, (pss_cons (ps_if (pt_cmpR op_eq (pe_ix ix_list (pv 1) pe_int (fun _ _ => rfl)) pe_str (nomark _))
          (pss_cons (ps_dput (hu_of hr) (pv 0) pe_str (pe_op op_cat (pe_dget (hu_of hr) (pv 0) pe_str (fun _ _ => rfl)) (pe_lc (own := [("_law_sign", 3)]) rfl sc__law_told.nd (pi_str (pe_ix ix_list (pv 1) pe_int (fun _ _ => rfl))) (blkOk_by (own := [("_law_sign", 3)]) (N := N__law_told) (sc := defScope s__law_told) (by decide +kernel)) (fun _ _ _ _ _ => (pg_name (i := 3) sc__law_told.nd rfl (Or.inl rfl))) (fun _ _ _ _ _ => pts_nil) (fun _ _ _ _ _ => (pe_callTy call_int_str (by rfl) T.fr_int boot_int (pa_cons (pv 3) pa_nil))))) rfl)
          (pss_one (ps_ret (pe_tup (pa_cons (pe_un un_neg pe_int) (pa_cons pe_str pa_nil))))))
          pss_nil)
        (pss_cons (ps_if (pt_cmpR op_eq (pe_ix ix_list (pv 1) pe_int (fun _ _ => rfl)) pe_str (nomark _))
          (pss_cons (ps_set (i := 2) sc__law_told.nd rfl (Or.inl rfl) pe_non)
          (pss_cons (ps_if (pt_cmpR op_ne (pe_ix ix_list (pv 1) pe_int (fun _ _ => rfl)) pe_str (nomark _))
            (pss_one (ps_set (i := 2) sc__law_told.nd rfl (Or.inl rfl) (pc_f (ok__law_draw T) hr (by decide) T.gl__law_draw tkE (pa_cons (pv 0) (pa_cons (pe_callTy call_int_str (by rfl) T.fr_int boot_int (pa_cons (pe_ix ix_list (pv 1) pe_int (fun _ _ => rfl)) pa_nil)) pa_nil)))))
            pss_nil)
          (pss_cons (ps_if (pt_cmpR op_notN (pv 2) pe_non (nomark _))
            (pss_one (ps_ret (pe_tup (pa_cons (pe_un un_neg pe_int) (pa_cons (pe_callTy call_str_int (by rfl) T.fr_str boot_str (pa_cons (pv 2) pa_nil)) pa_nil)))))
            pss_nil)
          (pss_one (ps_ret (pe_ix ix_list (pe_lst (pa_cons (pe_tup (pa_cons pe_int (pa_cons (pe_callB call_len_seq (by rfl) T.fr_len boot_len (pa_cons (pe_dget (hu_of hr) (pv 0) pe_str (fun _ _ => rfl)) pa_nil)) pa_nil))) (pa_cons (pe_tup (pa_cons pe_int (pa_cons pe_non pa_nil))) pa_nil))) (pe_callTy call_int1 (by rfl) T.fr_int boot_int (pa_cons (pe_cmpR op_eq (pe_ix ix_list (pv 1) pe_int (fun _ _ => rfl)) pe_str (nomark _)) pa_nil)) (fun _ _ => rfl)))))))
          pss_nil)
        (pss_cons (ps_if (pt_cmpR op_eq (pe_ix ix_list (pv 1) pe_int (fun _ _ => rfl)) pe_str (nomark _))
          (pss_cons (ps_dput (hu_of hr) (pe_dget (hu_of hr) (pv 0) pe_str (fun _ _ => rfl)) (pe_ix ix_list (pv 1) pe_int (fun _ _ => rfl)) (pe_join pe_str (pe_slice sl_list (pv 1) (po_some pe_int) po_none)) rfl)
          (pss_one (ps_ret (pe_tup (pa_cons (pe_un un_neg pe_int) (pa_cons pe_str pa_nil))))))
          pss_nil)
        (pss_cons (ps_if (PW.pt (pw_and (pt_cmpR op_eq (pe_ix ix_list (pv 1) pe_int (fun _ _ => rfl)) pe_str (nomark _)) (pw_and1 (pt_cmp (pc_din (hu_of hr) (pe_ix ix_list (pv 1) pe_int (fun _ _ => rfl)) (pe_dget (hu_of hr) (pv 0) pe_str (fun _ _ => rfl)))))))
          (pss_one (ps_ret (pc_f (ok__law_go T) hr (by decide) T.gl__law_go tkE (pa_cons (pv 0) (pa_cons (pe_dget (hu_of hr) (pe_dget (hu_of hr) (pv 0) pe_str (fun _ _ => rfl)) (pe_ix ix_list (pv 1) pe_int (fun _ _ => rfl)) (fun _ _ => rfl)) pa_nil)))))
          pss_nil)
        (pss_cons (ps_if (pt_cmpR op_eq (pe_ix ix_list (pv 1) pe_int (fun _ _ => rfl)) pe_str (nomark _))
          (pss_one (ps_ret (pe_tup (pa_cons pe_int (pa_cons pe_non pa_nil)))))
          pss_nil)
        (pss_cons (ps_if (pt_cmpR op_eq (pe_ix ix_list (pv 1) pe_int (fun _ _ => rfl)) pe_str (nomark _))
          (pss_one (ps_ret (pc_f (ok__law_new T) hr (by decide) T.gl__law_new tkE (pa_cons (pv 0) (pa_cons (pe_ix ix_list (pv 1) pe_int (fun _ _ => rfl)) (pa_cons (pe_callTy call_int_str (by rfl) T.fr_int boot_int (pa_cons (pe_ix ix_list (pv 1) pe_int (fun _ _ => rfl)) pa_nil)) pa_nil))))))
          pss_nil)
        (pss_cons (ps_if (pt_cmpR op_eq (pe_ix ix_list (pv 1) pe_int (fun _ _ => rfl)) pe_str (nomark _))
          (pss_one (ps_ret (pc_f (ok__law_new T) hr (by decide) T.gl__law_new tkE (pa_cons (pv 0) (pa_cons (pe_ix ix_list (pv 1) pe_int (fun _ _ => rfl)) (pa_cons pe_non pa_nil))))))
          pss_nil)
        (pss_cons (ps_if (pt_cmpR op_eq (pe_ix ix_list (pv 1) pe_int (fun _ _ => rfl)) pe_str (nomark _))
          (pss_one (ps_ret (pc_f (ok__law_pour T) hr (by decide) T.gl__law_pour tkE (pa_cons (pv 0) (pa_cons (pv 1) pa_nil)))))
          pss_nil)
        (pss_one (ps_ret (pc_f (ok__law_kept T) hr (by decide) T.gl__law_kept tkE (pa_cons (pv 0) (pa_cons (pv 1) pa_nil))))))))))))), ?_⟩
    have dg := D.x.main.1
    obtain ⟨⟨pt, hp, hpt⟩, hl, hq⟩ := id D.x.main.2
    obtain ⟨kvp, hkp, hkpl, hkpn⟩ := D.x.prog
    have n62 := D.ok.n62
    have few := D.ok.few
    have hd : H d = some (.dK (stD pt g.l g.pd g.kd)) := by rw [dg]; exact hp
    have ld : g.l ≠ d := ne_of hl hd (by intro z; cases z)
    have ptd : pt ≠ d := ne_of hpt hd (by intro z; cases z)
    cases r with
    | coins cs =>
      refine ⟨_, rfl, ws, _, _, .str "coins", rfl, rfl, SqL.of hws, rfl, rfl, _, rfl, ?_⟩
      rw [show decide (V.str "coins" = V.str "coins") = true by decide +kernel]
      obtain ⟨⟨o1, o2, o3⟩, o4⟩ := ok
      refine iteT ⟨_, rfl, d, _, rfl, sg_coins hd, _, rfl, ws, _, _, .str (bits cs), rfl, rfl, SqL.of hws, rfl, _, rfl, fun D1 nD => lc_mapS (f := fun c => .int (((c : Nat) : Int) - 48)) nD (by show (bits cs).length ≤ 1000000; rw [bits_len]; omega) (fun c H2 hc s2 R S hR => ?_) fun H2 s2 hl2 => ?_⟩
      · rw [bits_tl] at hc
        obtain ⟨e, he, rfl⟩ := List.mem_map.mp hc
        rcases o3 e he with z | z
        · subst z
          exact ⟨rfl, _, rfl, _, 0, rfl, by decide +kernel, by decide +kernel, hR _ (Same.refl _)⟩
        · subst z
          exact ⟨rfl, _, rfl, _, 1, rfl, by decide +kernel, by decide +kernel, hR _ (Same.refl _)⟩
      · rw [bits_map o3] at hl2
        refine ⟨g.l, D1, _, _, rfl, rfl, s2 _ _ hl, hl2, (by rw [List.length_map, List.length_map, sizeLine_eq]; omega), fun l' nl' => ?_⟩
        have s3 := s2.upd (o := .lst (S.pool.coins.map V.int ++ cs.map V.int)) nl'
        have dl' : d ≠ l' := ne_of_none (s2 _ _ hd) nl'
        refine ⟨_, rfl, d, _, rfl, sp_coins (s3 _ _ hd) l', _, rfl, by show 2 ≤ sizeLine; decide, fun a na => ?_⟩
        have nl0 : H l' = none := s2.free nl'
        have f4 : Fr (fun b => b = g.p) H (upd (upd H2 l' (.lst (S.pool.coins.map V.int ++ cs.map V.int))) d (.dK (stD pt l' g.pd g.kd))) := s3.fr.upd (.inl dg)
        refine R _ _ rfl _ _ a ((D.pool (l' := l') (q' := ⟨S.pool.size, S.pool.num, S.pool.coins ++ cs⟩) ⟨⟨pt, by rw [← dg]; exact upd_same, by rw [upd_ne ptd]; exact s3 _ _ hpt⟩, by rw [upd_ne dl'.symm, upd_same, List.map_append], ⟨hq.one, hq.low, hq.lt, hq.top, fun z hz => ?_⟩⟩ f4 (.inr nl0)).andThen cL_ok ((Same.refl _).upd na)) upd_same
        rcases List.mem_append.mp hz with hz | hz
        · exact hq.coin z hz
        · exact o3 z hz
    | draw n =>
      refine ⟨_, rfl, ws, _, _, .str "draw", rfl, rfl, SqL.of hws, rfl, rfl, _, rfl, ?_⟩
      rw [show decide (V.str "draw" = V.str "coins") = false by decide +kernel]
      refine iteF ⟨_, rfl, ws, _, _, .str "draw", rfl, rfl, SqL.of hws, rfl, rfl, _, rfl, ?_⟩
      rw [show decide (V.str "draw" = V.str "draw") = true by decide +kernel]
      refine iteT ⟨_, rfl, ws, _, _, .str (num n), rfl, rfl, SqL.of hws, rfl, rfl, _, rfl, ?_⟩
      refine iteNs (fun e0 => ?_) (fun e0 => ?_)
      · have n0 := num_zero.mp e0
        refine ⟨_, rfl, rfl, _, rfl, iteF ?_⟩
        refine ⟨_, rfl, d, _, rfl, sg_coins hd, _, _, rfl, .inl (SqL.of hl), by show 2 ≤ sizeLine; decide, fun t1 nt1 => ⟨by show 2 ≤ sizeLine; decide, fun t2 nt2 => ⟨by show 2 ≤ sizeLine; decide, fun L nL => ?_⟩⟩⟩
        have sA := (((Same.refl H).upd (o := .tup [.int 2, .int (S.pool.coins.map V.int).length]) nt1).upd (o := .tup [.int 4, .non]) nt2).upd (o := .lst [.ref t1, .ref t2]) nL
        refine ⟨_, rfl, ws, _, _, .str (num n), rfl, rfl, SqL.of (sA _ _ hws), rfl, rfl, .inr ⟨_, rfl, L, _, _, .ref t2, rfl, rfl, SqL.of upd_same, ?_, ?_⟩⟩
        · rw [decide_eq_true (vstr_eq.mpr e0)]
          rfl
        · subst n0
          exact R _ _ st_draw0 _ _ t2 (D.stay sA) (by rw [upd_ne (ne_of_none upd_same nL), upd_same]; rfl)
      · have n0 : ¬ n = 0 := fun w => e0 (num_zero.mpr w)
        have n12 : n < 10 ^ 12 := ok
        refine ⟨_, rfl, _, rfl, ws, _, _, .str (num n), rfl, rfl, SqL.of hws, rfl, _, _, rfl, int_of_num n12, by have := num_len12 n12; omega, ?_⟩
        refine ⟨d, g.l, g.pd, g.kd, S.pool, n, rfl, by rw [dg]; exact D.x.main.2, by omega, ⟨by omega, by omega⟩, fun hn H1 s1 => ?_, fun x q' hx H1 l' nl' hP1 f1 => ?_⟩
        · refine ⟨_, rfl, rfl, _, rfl, iteF ?_⟩
          refine ⟨_, rfl, d, _, rfl, sg_coins (s1 _ _ hd), _, _, rfl, .inl (SqL.of (s1 _ _ hl)), by show 2 ≤ sizeLine; decide, fun t1 nt1 => ⟨by show 2 ≤ sizeLine; decide, fun t2 nt2 => ⟨by show 2 ≤ sizeLine; decide, fun L nL => ?_⟩⟩⟩
          have sA := ((s1.upd (o := .tup [.int 2, .int (S.pool.coins.map V.int).length]) nt1).upd (o := .tup [.int 4, .non]) nt2).upd (o := .lst [.ref t1, .ref t2]) nL
          have t12 : t1 ≠ t2 := ne_of_none upd_same nt2
          have t1L : t1 ≠ L := ne_of_none (by rw [upd_ne t12]; exact upd_same) nL
          refine ⟨_, rfl, ws, _, _, .str (num n), rfl, rfl, SqL.of (sA _ _ hws), rfl, rfl, .inr ⟨_, rfl, L, _, _, .ref t1, rfl, rfl, SqL.of upd_same, ?_, ?_⟩⟩
          · rw [decide_eq_false fun w => e0 (vstr_eq.mp w)]
            rfl
          · exact R _ _ (st_draw1 n0 hn) _ _ t1 (D.stay sA) (by rw [upd_ne t1L, upd_ne t12, upd_same, List.length_map]; rfl)
        · obtain ⟨_, x0, x1, _⟩ := Pool.draw_ok ⟨by omega, by omega⟩ hq hx
          refine ⟨_, rfl, rfl, _, rfl, iteT ⟨_, rfl, _, rfl, x, rfl, small_log (by omega), by show 2 ≤ sizeLine; decide, fun a na => ?_⟩⟩
          rw [dg] at hP1 f1
          exact R _ _ (st_draw2 n0 hx) _ _ a ((D.pool hP1 f1 (.inr nl')).andThen cL_ok ((Same.refl _).upd na)) upd_same
    | program z k =>
      obtain ⟨nz, k4⟩ := ok
      obtain ⟨t1, t2, t3, t4, t5, t6, t7⟩ := txt_all k k4
      have a0 : atI ((Row.program z k).words.map V.str) (0 : Int) = some (.str "program") := atI_nat (j := 0) rfl
      have a1 : atI ((Row.program z k).words.map V.str) (1 : Int) = some (.str z) := atI_nat (j := 1) rfl
      refine ⟨_, rfl, ws, _, _, .str "program", rfl, rfl, SqL.of hws, a0, rfl, _, rfl, ?_⟩
      rw [show decide (V.str "program" = V.str "coins") = false by decide +kernel]
      refine iteF ⟨_, rfl, ws, _, _, .str "program", rfl, rfl, SqL.of hws, a0, rfl, _, rfl, ?_⟩
      rw [show decide (V.str "program" = V.str "draw") = false by decide +kernel]
      refine iteF ⟨_, rfl, ws, _, _, .str "program", rfl, rfl, SqL.of hws, a0, rfl, _, rfl, ?_⟩
      rw [show decide (V.str "program" = V.str "program") = true by decide +kernel]
      have cutw : cutV ((Row.program z k).words.map V.str) (some 2) none = (tws k).map V.str := cut_from (xs := (Row.program z k).words.map V.str) (i := 2) (by show 2 ≤ ((("program" : Str) :: z :: tws k).map V.str).length; rw [List.length_map, List.length_cons, List.length_cons]; omega)
      have sm := sum_le (B := 20) (ws := tws k) fun y hy => of_decide_eq_true (List.all_eq_true.mp t7 y hy)
      refine iteT ⟨⟨_, rfl⟩, _, rfl, _, rfl, ws, _, rfl, SqL.of hws, fun L nL => ?_⟩
      rw [cutw]
      have sL : Same H (upd H L (.lst ((tws k).map V.str))) := (Same.refl H).upd nL
      refine ⟨_, L, tws k, rfl, rfl, .inl (SqL.of upd_same), (by rw [show Str.length " " = 1 by decide +kernel]; omega), ?_⟩
      refine ⟨_, rfl, d, _, rfl, sg_progs (sL _ _ hd), _, rfl, ws, _, _, .str z, rfl, rfl, SqL.of (sL _ _ hws), a1, g.pd, _, rfl, DPut.k (k := Sum.inr z) (sL _ _ hkp) (by rw [sizeLine_eq]; omega), ?_⟩
      rw [t3]
      refine ⟨_, rfl, by show 2 ≤ sizeLine; decide, fun a na => ?_⟩
      exact R _ _ rfl _ _ a ((((D.same sL).x.putP cL_ok (n := z) (k := k) (v := .str (txt k)) (sL _ _ hkp) rfl (by rw [dg]; exact D.x.inj.pp) ⟨k4, rfl⟩).from sL).andThen cL_ok ((Same.refl _).upd na)) upd_same
    | go z =>
      refine ⟨_, rfl, ws, _, _, .str "go", rfl, rfl, SqL.of hws, rfl, rfl, _, rfl, ?_⟩
      rw [show decide (V.str "go" = V.str "coins") = false by decide +kernel]
      refine iteF ⟨_, rfl, ws, _, _, .str "go", rfl, rfl, SqL.of hws, rfl, rfl, _, rfl, ?_⟩
      rw [show decide (V.str "go" = V.str "draw") = false by decide +kernel]
      refine iteF ⟨_, rfl, ws, _, _, .str "go", rfl, rfl, SqL.of hws, rfl, rfl, _, rfl, ?_⟩
      rw [show decide (V.str "go" = V.str "program") = false by decide +kernel]
      refine iteF ⟨_, rfl, ws, _, _, .str "go", rfl, rfl, SqL.of hws, rfl, rfl, _, rfl, ?_⟩
      rw [show decide (V.str "go" = V.str "go") = true by decide +kernel]
      refine iteT ⟨_, rfl, ws, _, _, .str z, rfl, rfl, SqL.of hws, rfl, _, rfl, d, _, rfl, sg_progs hd, g.pd, _, rfl, DGet.k (k := Sum.inr z) hkp, _, rfl, ?_⟩
      cases ez : S.progs z with
      | none =>
        rw [(hkpn z).1 ez]
        refine iteF ⟨_, rfl, ws, _, _, .str "go", rfl, rfl, SqL.of hws, rfl, rfl, _, rfl, ?_⟩
        rw [show decide (V.str "go" = V.str "go") = true by decide +kernel]
        exact iteT ⟨by show 2 ≤ sizeLine; decide, fun a na => R _ _ (st_go0 ez) _ _ a (D.stay ((Same.refl H).upd na)) upd_same⟩
      | some k =>
        obtain ⟨v, ev, k4, rfl⟩ := (hkpn z).2 k ez
        rw [ev]
        have dz := DGet.k (k := Sum.inr z) hkp
        rw [ev] at dz
        refine iteT ⟨_, rfl, _, rfl, d, _, rfl, sg_progs hd, _, rfl, ws, _, _, .str z, rfl, rfl, SqL.of hws, rfl, g.pd, _, rfl, dz, ?_⟩
        refine ⟨d, g.l, g.pd, g.kd, S.pool, k, rfl, by rw [dg]; exact D.x.main.2, by omega, k4, fun hw H' a s ha => ?_, fun x n hw H' l' a nl' hP' f ha => ?_⟩
        · exact R _ _ (st_go1 ez hw) _ _ a (D.stay s) ha
        · rw [dg] at hP' f
          exact R _ _ (st_go2 ez hw) _ _ a (D.pool hP' f (.inr nl')) ha
    | drawer z n =>
      refine ⟨_, rfl, ws, _, _, .str "drawer", rfl, rfl, SqL.of hws, rfl, rfl, _, rfl, ?_⟩
      rw [show decide (V.str "drawer" = V.str "coins") = false by decide +kernel]
      refine iteF ⟨_, rfl, ws, _, _, .str "drawer", rfl, rfl, SqL.of hws, rfl, rfl, _, rfl, ?_⟩
      rw [show decide (V.str "drawer" = V.str "draw") = false by decide +kernel]
      refine iteF ⟨_, rfl, ws, _, _, .str "drawer", rfl, rfl, SqL.of hws, rfl, rfl, _, rfl, ?_⟩
      rw [show decide (V.str "drawer" = V.str "program") = false by decide +kernel]
      refine iteF ⟨_, rfl, ws, _, _, .str "drawer", rfl, rfl, SqL.of hws, rfl, rfl, _, rfl, ?_⟩
      rw [show decide (V.str "drawer" = V.str "go") = false by decide +kernel]
      refine iteF (iteF ⟨_, rfl, ws, _, _, .str "drawer", rfl, rfl, SqL.of hws, rfl, rfl, _, rfl, ?_⟩)
      rw [show decide (V.str "drawer" = V.str "go") = false by decide +kernel]
      refine iteF ⟨_, rfl, ws, _, _, .str "drawer", rfl, rfl, SqL.of hws, rfl, rfl, _, rfl, ?_⟩
      rw [show decide (V.str "drawer" = V.str "drawer") = true by decide +kernel]
      have n12 : n < 10 ^ 12 := ok.2
      exact iteT ⟨_, rfl, _, rfl, ws, _, _, .str z, rfl, rfl, SqL.of hws, rfl, _, rfl, ws, _, _, .str (num n), rfl, rfl, SqL.of hws, rfl, _, _, rfl, int_of_num n12, by have := num_len12 n12; omega, d, g, N, S, z, D, .inl ⟨n, rfl, R⟩⟩
    | weigher z =>
      refine ⟨_, rfl, ws, _, _, .str "weigher", rfl, rfl, SqL.of hws, rfl, rfl, _, rfl, ?_⟩
      rw [show decide (V.str "weigher" = V.str "coins") = false by decide +kernel]
      refine iteF ⟨_, rfl, ws, _, _, .str "weigher", rfl, rfl, SqL.of hws, rfl, rfl, _, rfl, ?_⟩
      rw [show decide (V.str "weigher" = V.str "draw") = false by decide +kernel]
      refine iteF ⟨_, rfl, ws, _, _, .str "weigher", rfl, rfl, SqL.of hws, rfl, rfl, _, rfl, ?_⟩
      rw [show decide (V.str "weigher" = V.str "program") = false by decide +kernel]
      refine iteF ⟨_, rfl, ws, _, _, .str "weigher", rfl, rfl, SqL.of hws, rfl, rfl, _, rfl, ?_⟩
      rw [show decide (V.str "weigher" = V.str "go") = false by decide +kernel]
      refine iteF (iteF ⟨_, rfl, ws, _, _, .str "weigher", rfl, rfl, SqL.of hws, rfl, rfl, _, rfl, ?_⟩)
      rw [show decide (V.str "weigher" = V.str "go") = false by decide +kernel]
      refine iteF ⟨_, rfl, ws, _, _, .str "weigher", rfl, rfl, SqL.of hws, rfl, rfl, _, rfl, ?_⟩
      rw [show decide (V.str "weigher" = V.str "drawer") = false by decide +kernel]
      refine iteF ⟨_, rfl, ws, _, _, .str "weigher", rfl, rfl, SqL.of hws, rfl, rfl, _, rfl, ?_⟩
      rw [show decide (V.str "weigher" = V.str "weigher") = true by decide +kernel]
      exact iteT ⟨_, rfl, _, rfl, ws, _, _, .str z, rfl, rfl, SqL.of hws, rfl, d, g, N, S, z, D, .inr ⟨rfl, R⟩⟩
    | pour z x y =>
      refine ⟨_, rfl, ws, _, _, .str "pour", rfl, rfl, SqL.of hws, rfl, rfl, _, rfl, ?_⟩
      rw [show decide (V.str "pour" = V.str "coins") = false by decide +kernel]
      refine iteF ⟨_, rfl, ws, _, _, .str "pour", rfl, rfl, SqL.of hws, rfl, rfl, _, rfl, ?_⟩
      rw [show decide (V.str "pour" = V.str "draw") = false by decide +kernel]
      refine iteF ⟨_, rfl, ws, _, _, .str "pour", rfl, rfl, SqL.of hws, rfl, rfl, _, rfl, ?_⟩
      rw [show decide (V.str "pour" = V.str "program") = false by decide +kernel]
      refine iteF ⟨_, rfl, ws, _, _, .str "pour", rfl, rfl, SqL.of hws, rfl, rfl, _, rfl, ?_⟩
      rw [show decide (V.str "pour" = V.str "go") = false by decide +kernel]
      refine iteF (iteF ⟨_, rfl, ws, _, _, .str "pour", rfl, rfl, SqL.of hws, rfl, rfl, _, rfl, ?_⟩)
      rw [show decide (V.str "pour" = V.str "go") = false by decide +kernel]
      refine iteF ⟨_, rfl, ws, _, _, .str "pour", rfl, rfl, SqL.of hws, rfl, rfl, _, rfl, ?_⟩
      rw [show decide (V.str "pour" = V.str "drawer") = false by decide +kernel]
      refine iteF ⟨_, rfl, ws, _, _, .str "pour", rfl, rfl, SqL.of hws, rfl, rfl, _, rfl, ?_⟩
      rw [show decide (V.str "pour" = V.str "weigher") = false by decide +kernel]
      refine iteF ⟨_, rfl, ws, _, _, .str "pour", rfl, rfl, SqL.of hws, rfl, rfl, _, rfl, ?_⟩
      rw [show decide (V.str "pour" = V.str "pour") = true by decide +kernel]
      exact iteT ⟨_, rfl, _, rfl, d, ws, g, N, S, z, x, y, rfl, D, hws, ok, R⟩
    | held z =>
      refine ⟨_, rfl, ws, _, _, .str "held", rfl, rfl, SqL.of hws, rfl, rfl, _, rfl, ?_⟩
      rw [show decide (V.str "held" = V.str "coins") = false by decide +kernel]
      refine iteF ⟨_, rfl, ws, _, _, .str "held", rfl, rfl, SqL.of hws, rfl, rfl, _, rfl, ?_⟩
      rw [show decide (V.str "held" = V.str "draw") = false by decide +kernel]
      refine iteF ⟨_, rfl, ws, _, _, .str "held", rfl, rfl, SqL.of hws, rfl, rfl, _, rfl, ?_⟩
      rw [show decide (V.str "held" = V.str "program") = false by decide +kernel]
      refine iteF ⟨_, rfl, ws, _, _, .str "held", rfl, rfl, SqL.of hws, rfl, rfl, _, rfl, ?_⟩
      rw [show decide (V.str "held" = V.str "go") = false by decide +kernel]
      refine iteF (iteF ⟨_, rfl, ws, _, _, .str "held", rfl, rfl, SqL.of hws, rfl, rfl, _, rfl, ?_⟩)
      rw [show decide (V.str "held" = V.str "go") = false by decide +kernel]
      refine iteF ⟨_, rfl, ws, _, _, .str "held", rfl, rfl, SqL.of hws, rfl, rfl, _, rfl, ?_⟩
      rw [show decide (V.str "held" = V.str "drawer") = false by decide +kernel]
      refine iteF ⟨_, rfl, ws, _, _, .str "held", rfl, rfl, SqL.of hws, rfl, rfl, _, rfl, ?_⟩
      rw [show decide (V.str "held" = V.str "weigher") = false by decide +kernel]
      refine iteF ⟨_, rfl, ws, _, _, .str "held", rfl, rfl, SqL.of hws, rfl, rfl, _, rfl, ?_⟩
      rw [show decide (V.str "held" = V.str "pour") = false by decide +kernel]
      exact iteF ⟨_, rfl, _, rfl, d, ws, g, N, S, .held z, rfl, D, hws, trivial, ok, R⟩
    | cut z n =>
      refine ⟨_, rfl, ws, _, _, .str "cut", rfl, rfl, SqL.of hws, rfl, rfl, _, rfl, ?_⟩
      rw [show decide (V.str "cut" = V.str "coins") = false by decide +kernel]
      refine iteF ⟨_, rfl, ws, _, _, .str "cut", rfl, rfl, SqL.of hws, rfl, rfl, _, rfl, ?_⟩
      rw [show decide (V.str "cut" = V.str "draw") = false by decide +kernel]
      refine iteF ⟨_, rfl, ws, _, _, .str "cut", rfl, rfl, SqL.of hws, rfl, rfl, _, rfl, ?_⟩
      rw [show decide (V.str "cut" = V.str "program") = false by decide +kernel]
      refine iteF ⟨_, rfl, ws, _, _, .str "cut", rfl, rfl, SqL.of hws, rfl, rfl, _, rfl, ?_⟩
      rw [show decide (V.str "cut" = V.str "go") = false by decide +kernel]
      refine iteF (iteF ⟨_, rfl, ws, _, _, .str "cut", rfl, rfl, SqL.of hws, rfl, rfl, _, rfl, ?_⟩)
      rw [show decide (V.str "cut" = V.str "go") = false by decide +kernel]
      refine iteF ⟨_, rfl, ws, _, _, .str "cut", rfl, rfl, SqL.of hws, rfl, rfl, _, rfl, ?_⟩
      rw [show decide (V.str "cut" = V.str "drawer") = false by decide +kernel]
      refine iteF ⟨_, rfl, ws, _, _, .str "cut", rfl, rfl, SqL.of hws, rfl, rfl, _, rfl, ?_⟩
      rw [show decide (V.str "cut" = V.str "weigher") = false by decide +kernel]
      refine iteF ⟨_, rfl, ws, _, _, .str "cut", rfl, rfl, SqL.of hws, rfl, rfl, _, rfl, ?_⟩
      rw [show decide (V.str "cut" = V.str "pour") = false by decide +kernel]
      exact iteF ⟨_, rfl, _, rfl, d, ws, g, N, S, .cut z n, rfl, D, hws, trivial, ok, R⟩
    | see z t =>
      refine ⟨_, rfl, ws, _, _, .str "see", rfl, rfl, SqL.of hws, rfl, rfl, _, rfl, ?_⟩
      rw [show decide (V.str "see" = V.str "coins") = false by decide +kernel]
      refine iteF ⟨_, rfl, ws, _, _, .str "see", rfl, rfl, SqL.of hws, rfl, rfl, _, rfl, ?_⟩
      rw [show decide (V.str "see" = V.str "draw") = false by decide +kernel]
      refine iteF ⟨_, rfl, ws, _, _, .str "see", rfl, rfl, SqL.of hws, rfl, rfl, _, rfl, ?_⟩
      rw [show decide (V.str "see" = V.str "program") = false by decide +kernel]
      refine iteF ⟨_, rfl, ws, _, _, .str "see", rfl, rfl, SqL.of hws, rfl, rfl, _, rfl, ?_⟩
      rw [show decide (V.str "see" = V.str "go") = false by decide +kernel]
      refine iteF (iteF ⟨_, rfl, ws, _, _, .str "see", rfl, rfl, SqL.of hws, rfl, rfl, _, rfl, ?_⟩)
      rw [show decide (V.str "see" = V.str "go") = false by decide +kernel]
      refine iteF ⟨_, rfl, ws, _, _, .str "see", rfl, rfl, SqL.of hws, rfl, rfl, _, rfl, ?_⟩
      rw [show decide (V.str "see" = V.str "drawer") = false by decide +kernel]
      refine iteF ⟨_, rfl, ws, _, _, .str "see", rfl, rfl, SqL.of hws, rfl, rfl, _, rfl, ?_⟩
      rw [show decide (V.str "see" = V.str "weigher") = false by decide +kernel]
      refine iteF ⟨_, rfl, ws, _, _, .str "see", rfl, rfl, SqL.of hws, rfl, rfl, _, rfl, ?_⟩
      rw [show decide (V.str "see" = V.str "pour") = false by decide +kernel]
      exact iteF ⟨_, rfl, _, rfl, d, ws, g, N, S, .see z t, rfl, D, hws, trivial, ok, R⟩
    | seew z t n =>
      refine ⟨_, rfl, ws, _, _, .str "see", rfl, rfl, SqL.of hws, rfl, rfl, _, rfl, ?_⟩
      rw [show decide (V.str "see" = V.str "coins") = false by decide +kernel]
      refine iteF ⟨_, rfl, ws, _, _, .str "see", rfl, rfl, SqL.of hws, rfl, rfl, _, rfl, ?_⟩
      rw [show decide (V.str "see" = V.str "draw") = false by decide +kernel]
      refine iteF ⟨_, rfl, ws, _, _, .str "see", rfl, rfl, SqL.of hws, rfl, rfl, _, rfl, ?_⟩
      rw [show decide (V.str "see" = V.str "program") = false by decide +kernel]
      refine iteF ⟨_, rfl, ws, _, _, .str "see", rfl, rfl, SqL.of hws, rfl, rfl, _, rfl, ?_⟩
      rw [show decide (V.str "see" = V.str "go") = false by decide +kernel]
      refine iteF (iteF ⟨_, rfl, ws, _, _, .str "see", rfl, rfl, SqL.of hws, rfl, rfl, _, rfl, ?_⟩)
      rw [show decide (V.str "see" = V.str "go") = false by decide +kernel]
      refine iteF ⟨_, rfl, ws, _, _, .str "see", rfl, rfl, SqL.of hws, rfl, rfl, _, rfl, ?_⟩
      rw [show decide (V.str "see" = V.str "drawer") = false by decide +kernel]
      refine iteF ⟨_, rfl, ws, _, _, .str "see", rfl, rfl, SqL.of hws, rfl, rfl, _, rfl, ?_⟩
      rw [show decide (V.str "see" = V.str "weigher") = false by decide +kernel]
      refine iteF ⟨_, rfl, ws, _, _, .str "see", rfl, rfl, SqL.of hws, rfl, rfl, _, rfl, ?_⟩
      rw [show decide (V.str "see" = V.str "pour") = false by decide +kernel]
      exact iteF ⟨_, rfl, _, rfl, d, ws, g, N, S, .seew z t n, rfl, D, hws, trivial, ok, R⟩
end
end Ev

set_option Elab.async false
set_option linter.all false
set_option maxRecDepth 100000
set_option maxHeartbeats 2000000
/-! Numbers of a cell. -/
namespace Ev
open PySem PySem.Spec PyProof.Rows L2 He TL
def sp__law_cell (K : PySem.W.Frag) : Sp := fun vs H Q _ => ∃ (a : Addr) (ns : List Int), vs = [.ref a, .int 0] ∧ SqL K H a (ns.map .int) ∧ ns.length ≤ 100 ∧ ∀ c H', Same H H' → Q (.int c) H'
def sp__law_numbers (_K : PySem.W.Frag) : Sp := fun vs H Q _ => ∃ (c : Int) (n : Nat), vs = [.int c, .int n] ∧ n ≤ 100 ∧ ∀ (H' : Hp) (r : Addr) (xs : List Int), Same H H' → H r = none → H' r = some (.lst (xs.map .int)) → xs.length = n → (∀ x ∈ xs, 0 ≤ x ∧ x < 2 ^ 31) → Q (.ref r) H'
theorem seq_named4 {A B C C2 R : TS} {D : Ends} {σ : L2.St} {H : Hp} (Cd : L2.St → Hp → Prop) (hrest : ∀ σ' H', Cd σ' H' → R D σ' H') (h : ∀ M : L2.St → Hp → Prop, (∀ σ' H', Cd σ' H' → M σ' H') → tSeq A (tSeq B (tSeq C (fun D' => C2 { D' with nx := M }))) D σ H) : tSeq A (tSeq B (tSeq C (tSeq C2 R))) D σ H := h (R D) hrest
section
variable {P : Program} {w : World} {K : PySem.W.Frag} {mg : Str → Option Value} {base h : Heap}
abbrev N__law_cell : List Str := ["_law_script", "_law_k"]
abbrev P__law_cell : List Str := ["_law_script", "_law_k"]
theorem sc__law_cell : FnScope N__law_cell P__law_cell (defScope s__law_cell) := ⟨rfl, rfl, rfl, by decide +kernel, rfl, by decide +kernel, by decide +kernel⟩
theorem ok__law_cell (T : Tx w K mg h) : Cal P w K mg base 1 (ga K "_law_cell") (sp__law_cell K) := by
  obtain ⟨fd, F⟩ := T.fn__law_cell
  refine okOf F sc__law_cell (fun _ _ _ _ _ _ us hl => match us, hl with | [_, _], _ => rfl) (fun vs H Q E h => ?_) (fun cdv A outer s H vs Q E hr hsp => ?_)
  · repeat (first | (obtain ⟨h1, _⟩ := h; subst h1; rfl) | (obtain ⟨_, h⟩ := h))
  · obtain ⟨a, ns, rfl, ha, hl, kk⟩ := hsp
    refine ⟨_, (pss_one (ps_ret (pe_ix ix_list (pe_op op_cat (pe_slice sl_list (pv 0) (po_some (pv 1)) (po_some (pe_op op_add (pv 1) pe_int))) (pe_lst (pa_cons pe_int pa_nil))) pe_int (fun _ _ => rfl)))), ?_⟩
    refine ⟨_, rfl, _, rfl, _, rfl, _, rfl, _, _, rfl, rfl, _, rfl, a, _, rfl, ha, fun x nx => ?_⟩
    have s1 := (Same.refl H).upd (o := .lst (cutV (ns.map V.int) (some 0) (some (0 + 1)))) nx
    refine ⟨by show 1 ≤ sizeLine; decide, fun y ny => ?_⟩
    have xy : x ≠ y := ne_of_none upd_same ny
    have cl := cutV_length (ns.map V.int) (some 0) (some (0 + 1))
    rw [List.length_map] at cl
    refine ⟨x, y, _, _, rfl, rfl, (by rw [upd_ne xy]; exact upd_same), upd_same, (by show _ + 1 ≤ sizeLine; rw [sizeLine_eq]; omega), fun z nz => ?_⟩
    have s3 := (s1.upd (o := .lst [.int 0]) ny).upd (o := .lst (cutV (ns.map V.int) (some 0) (some (0 + 1)) ++ [.int 0])) nz
    obtain ⟨c, hc⟩ : ∃ c, (cutV (ns.map V.int) (some 0) (some (0 + 1)) ++ [V.int 0])[0]? = some (.int c) := by
      have e : cutV (ns.map V.int) (some 0) (some (0 + 1)) = (ns.map V.int).take 1 := by
        have q := cut_to (ns.map V.int) 1
        unfold cutV at q ⊢
        have z0 : HT.sIx (ns.map V.int).length 0 (some 0) = 0 := by
          have := HT.sIx_nat (ns.map V.int).length 0 0
          rw [show ((0 : Nat) : Int) = 0 by rfl] at this
          rw [this]
          exact Nat.zero_min _
        rw [HT.sIx_none] at q
        rw [z0]
        exact q
      rw [e]
      cases ns with
      | nil => exact ⟨0, rfl⟩
      | cons n t => exact ⟨n, rfl⟩
    exact ⟨z, _, _, _, rfl, rfl, SqL.of upd_same, atI_nat (j := 0) hc, kk c _ s3⟩
abbrev N__law_numbers : List Str := ["_law_cell_here", "_law_many", "_law_found", "_law_number", "_law_digits", "_law_k"]
abbrev P__law_numbers : List Str := ["_law_cell_here", "_law_many"]
theorem sc__law_numbers : FnScope N__law_numbers P__law_numbers (defScope s__law_numbers) := ⟨rfl, rfl, rfl, by decide +kernel, rfl, by decide +kernel, by decide +kernel⟩
theorem ok__law_numbers (T : Tx w K mg h) : Cal P w K mg base 1 (ga K "_law_numbers") (sp__law_numbers K) := by
  obtain ⟨fd, F⟩ := T.fn__law_numbers
  refine okOf F sc__law_numbers (fun _ _ _ _ _ _ us hl => match us, hl with | [_, _], _ => rfl) (fun vs H Q E h => ?_) (fun cdv A outer s H vs Q E hr hsp => ?_)
  · repeat (first | (obtain ⟨h1, _⟩ := h; subst h1; rfl) | (obtain ⟨_, h⟩ := h))
  · obtain ⟨c, n, rfl, hn, kk⟩ := hsp
    refine ⟨_, (pss_cons (ps_set (i := 2) sc__law_numbers.nd rfl (Or.inl rfl) (pe_lst pa_nil))
        (pss_cons (ps_set (i := 3) sc__law_numbers.nd rfl (Or.inl rfl) (pe_op op_mod (pe_op op_mul (pe_op op_add (pe_op op_mod (pv 0) pe_int) pe_int) pe_int) pe_int))
        (pss_cons (ps_set (i := 4) sc__law_numbers.nd rfl (Or.inl rfl) pe_int)
        (pss_cons (ps_if (PW.pt (pw_or (pt_cmpR op_lt (pv 0) pe_int (nomark _)) (pw_or1 (pt_cmpR op_ge (pv 0) (pe_op op_pow pe_int pe_int) (nomark _)))))
          (pss_one (ps_set (i := 4) sc__law_numbers.nd rfl (Or.inl rfl) (pe_callB call_abs (by rfl) T.fr_abs boot_abs (pa_cons (pv 0) pa_nil))))
          pss_nil)
        (pss_cons (ps_for powE rfl (pi_range1 (by rfl) T.fr_range (pa_cons (pv 1) pa_nil)) (pg_name (i := 5) sc__law_numbers.nd rfl (Or.inl rfl))
          (pss_cons (ps_set (i := 3) sc__law_numbers.nd rfl (Or.inl rfl) (pe_op op_mod (pe_op op_add (pe_op op_add (pe_op op_mul (pv 3) (pe_op op_add (pe_op op_mod (pv 3) pe_int) pe_int)) (pe_op op_mul pe_int (pv 5))) pe_int) pe_int))
          (pss_cons (ps_expr (pe_bm PySem.F.plainAttrs_list PySem.F.slot_list_append PySem.F.type_list_append mt_append (pv 2) (pa_cons (pe_ix ix_list (pe_lst (pa_cons (pv 3) (pa_cons (pe_op op_mod (pv 4) pe_int) pa_nil))) (pe_callTy call_int1 (by rfl) T.fr_int boot_int (pa_cons (pe_cmpR op_gt (pv 4) pe_int (nomark _)) pa_nil)) (fun _ _ => rfl)) pa_nil)))
          (pss_one (ps_set (i := 4) sc__law_numbers.nd rfl (Or.inl rfl) (pe_op op_fdiv (pv 4) pe_int))))))
        (pss_one (ps_ret (pv 2)))))))), ?_⟩
    refine seq_named4 (fun σ' H1 => ∃ (f : Addr) (nm dg : Int), σ' = [some (.int c), some (.int n), some (.ref f), some (.int nm), some (.int dg), none] ∧ Same H H1 ∧ H f = none ∧ H1 f = some (.lst []) ∧ 0 ≤ nm ∧ nm < 1999999973 ∧ 0 ≤ dg) (fun σ' H1 hC => ?_) (fun M hM => ?_)
    · obtain ⟨f, nm, dg, rfl, s1, nf, hf, n0, n1, d0⟩ := hC
      refine ⟨_, rfl, n, rfl, by omega, by omega, for_range (n := n) (fun i σ H2 => ∃ (nm dg : Int) (v : Option V) (xs : List Int), σ = [some (.int c), some (.int n), some (.ref f), some (.int nm), some (.int dg), v] ∧ Same H H2 ∧ H2 f = some (.lst (xs.map .int)) ∧ xs.length = i ∧ (∀ x ∈ xs, 0 ≤ x ∧ x < 2 ^ 31) ∧ 0 ≤ nm ∧ nm < 1999999973 ∧ 0 ≤ dg) ⟨nm, dg, none, [], rfl, s1, hf, rfl, (fun x hx => by cases hx), n0, n1, d0⟩ ?_ ?_⟩
      · rintro i σ H2 hi ⟨nm, dg, v, xs, rfl, s2, hf2, hx, hxs, n0, n1, d0⟩
        have e1 := Int.emod_nonneg nm (show (65521 : Int) ≠ 0 by decide)
        have e2 := Int.emod_lt_of_pos nm (show (0 : Int) < 65521 by decide)
        refine ⟨_, rfl, _, rfl, _, _, rfl, rfl, (by show (0 : Int) < 65521; decide), _, _, rfl, rfl, _, _, rfl, rfl, .inl ⟨by omega, by omega⟩, _, rfl, _, _, rfl, rfl, .inl ⟨by decide, by decide⟩, _, _, rfl, rfl, _, _, rfl, rfl, _, _, rfl, rfl, (by show (0 : Int) < 1999999973; decide), ?_⟩
        generalize hN : (nm * (nm % 65521 + 40487) + 7 * (0 + (i : Int)) + 5) = big
        have g1 := Int.emod_nonneg big (show (1999999973 : Int) ≠ 0 by decide)
        have g2 := Int.emod_lt_of_pos big (show (0 : Int) < 1999999973 by decide)
        have g3 := Int.emod_nonneg dg (show (1000000 : Int) ≠ 0 by decide)
        have g4 := Int.emod_lt_of_pos dg (show (0 : Int) < 1000000 by decide)
        refine ⟨_, rfl, .inl ⟨rfl, _, .inl (.inl hf2)⟩, _, rfl, _, rfl, _, _, rfl, rfl, (by show (0 : Int) < 1000000; decide), by show 2 ≤ sizeLine; decide, fun L nL => ?_⟩
        have fL : f ≠ L := ne_of_none hf2 nL
        refine ⟨_, rfl, _, _, rfl, rfl, .inr ⟨_, rfl, L, _, _, .int (if dg > 0 then dg % 1000000 else big % 1999999973), rfl, rfl, SqL.of upd_same, ?_, ?_⟩⟩
        · by_cases z : dg > 0
          · rw [if_pos z, decide_eq_true z]
            rfl
          · rw [if_neg z, decide_eq_false z]
            rfl
        refine ⟨f, _, _, rfl, rfl, (by rw [upd_ne fL]; exact hf2), (by rw [List.length_map, sizeLine_eq]; omega), ?_⟩
        refine ⟨_, rfl, _, _, rfl, rfl, ⟨by decide, by decide⟩, ?_⟩
        refine ⟨big % 1999999973, dg / 1000000, _, xs ++ [if dg > 0 then dg % 1000000 else big % 1999999973], rfl, fun b o e => ?_, by rw [upd_same, List.map_append]; rfl, by rw [List.length_append, hx]; rfl, fun x hx' => ?_, g1, g2, Int.ediv_nonneg d0 (by decide)⟩
        · rw [upd_ne (ne_of_none e nf)]
          exact (s2.upd nL) _ _ e
        · rcases List.mem_append.mp hx' with h | h
          · exact hxs x h
          · rw [List.mem_singleton.mp h]
            split
            · omega
            · omega
      · rintro σ H2 ⟨nm, dg, v, xs, rfl, s2, hf2, hx, hxs, _⟩
        exact ⟨_, rfl, kk H2 f xs s2 nf hf2 hx hxs⟩
    refine ⟨by show 0 ≤ sizeLine; decide, fun f nf => ?_⟩
    have s1 : Same H (upd H f (.lst [])) := (Same.refl H).upd nf
    have m1 := Int.emod_nonneg c (show (1999999973 : Int) ≠ 0 by decide)
    have m2 := Int.emod_lt_of_pos c (show (0 : Int) < 1999999973 by decide)
    refine ⟨_, rfl, _, _, rfl, rfl, (by show (0 : Int) < 1999999973; decide), _, _, rfl, rfl, _, _, rfl, rfl, .inl ⟨by omega, by omega⟩, _, _, rfl, rfl, (by show (0 : Int) < 1999999973; decide), ?_⟩
    generalize ((c % 1999999973 + 31) * 765432101) = big
    have g1 := Int.emod_nonneg big (show (1999999973 : Int) ≠ 0 by decide)
    have g2 := Int.emod_lt_of_pos big (show (0 : Int) < 1999999973 by decide)
    refine ⟨_, rfl, _, _, rfl, rfl, _, rfl, ?_⟩
    have fin : ∀ dg : Int, 0 ≤ dg → M [some (.int c), some (.int n), some (.ref f), some (.int (big % 1999999973)), some (.int dg), none] (upd H f (.lst [])) := fun dg d0 => hM _ _ ⟨f, _, dg, rfl, s1, nf, upd_same, g1, g2, d0⟩
    refine iteD (fun h1 => ?_) (fun h1 => ?_)
    · refine iteT ⟨_, rfl, _, rfl, ?_⟩
      refine fin _ ?_
      split <;> omega
    · refine ⟨_, rfl, 10, 18, rfl, rfl, ⟨by decide, by decide, by decide⟩, _, _, rfl, rfl, _, rfl, ?_⟩
      refine iteD (fun h2 => ?_) (fun h2 => ?_)
      · refine ⟨_, rfl, _, rfl, ?_⟩
        refine fin _ ?_
        split <;> omega
      · exact fin 0 (Int.le_refl _)
end
end Ev

set_option Elab.async false
set_option linter.all false
set_option maxRecDepth 100000
set_option maxHeartbeats 2000000
/-! What was refused; the answer asked; how many are left. -/
namespace Ev
open PySem PySem.Spec PyProof.Rows L2 He TL
/-- an error of a class, kept -/
structure Kept (K : PySem.W.Frag) (H : Hp) (a C : Addr) : Prop where
  at_ : ∃ d, H a = some (XO (.ref C) d a) ∧ ∀ dd, d = some dd → ∃ fs, H dd = some (.xd fs)
theorem Kept.same {K : PySem.W.Frag} {H H' : Hp} {a C : Addr} (k : Kept K H a C) (s : Same H H') : Kept K H' a C := by
  obtain ⟨d, h1, h2⟩ := k
  refine ⟨d, s _ _ h1, fun dd e => ?_⟩
  obtain ⟨fs, h⟩ := h2 dd e
  exact ⟨fs, s _ _ h⟩
theorem rIsX_of {K : PySem.W.Frag} {H : Hp} {a C : Addr} {c : V} {cv : Value} {b : Bool} {Q : VK} (k : Kept K H a C) (xc : ExcC K C) (cl : ClsV c cv) (e : PySem.W.kitOne K (.ref C) cv = some b) (q : Q (.bl b) H) : rIsX K [.ref a, c] H Q := by
  obtain ⟨d, h1, h2⟩ := k
  exact ⟨a, C, d, c, cv, b, rfl, h1, h2, xc, cl, e, q⟩
/-- the seven answers for a class -/
structure Seven (K : PySem.W.Frag) (C : Addr) (n : Nat) : Prop where
  xc : ExcC K C
  k0 : PySem.W.kitOne K (.ref C) (.ref (ga K "NoProgram")) = some (decide (n = 0))
  k1 : PySem.W.kitOne K (.ref C) (.ref (ga K "NoText")) = some (decide (n = 1))
  k2 : PySem.W.kitOne K (.ref C) (.ref (ga K "Short")) = some (decide (n = 2))
  k3 : PySem.W.kitOne K (.ref C) (.ref (ga K "NoWeights")) = some (decide (n = 3))
  k4 : PySem.W.kitOne K (.ref C) (.ref (ga K "NoDraw")) = some (decide (n = 4))
  k5 : PySem.W.kitOne K (.ref C) (.ref (ga K "NoRow")) = some (decide (n = 5))
  k6 : PySem.W.kitOne K (.ref C) (.ref (ga K "NoName")) = some (decide (n = 6))
  ve : PySem.W.kitOne K (.ref C) (.type "ValueError") = some true
section
variable {w : World} {K : PySem.W.Frag} {mg : Str → Option Value} {h : Heap} (T : Tx w K mg h)
include T
theorem seven_Short : Seven K (ga K "Short") 2 := ⟨T.xc_Short, T.ki_Short_NoProgram, T.ki_Short_NoText, T.ki_Short_Short, T.ki_Short_NoWeights, T.ki_Short_NoDraw, T.ki_Short_NoRow, T.ki_Short_NoName, T.ki_Short_VE⟩
theorem seven_NoDraw : Seven K (ga K "NoDraw") 4 := ⟨T.xc_NoDraw, T.ki_NoDraw_NoProgram, T.ki_NoDraw_NoText, T.ki_NoDraw_Short, T.ki_NoDraw_NoWeights, T.ki_NoDraw_NoDraw, T.ki_NoDraw_NoRow, T.ki_NoDraw_NoName, T.ki_NoDraw_VE⟩
theorem seven_NoName : Seven K (ga K "NoName") 6 := ⟨T.xc_NoName, T.ki_NoName_NoProgram, T.ki_NoName_NoText, T.ki_NoName_Short, T.ki_NoName_NoWeights, T.ki_NoName_NoDraw, T.ki_NoName_NoRow, T.ki_NoName_NoName, T.ki_NoName_VE⟩
end
def sp__law_only (K : PySem.W.Frag) : Sp := fun vs H Q _ => ∃ (a C : Addr) (n : Nat), vs = [.ref a, .int n] ∧ Kept K H a C ∧ Seven K C n ∧ n < 7 ∧ ∀ H', Same H H' → Q (.bl true) H'
section
variable {P : Program} {w : World} {K : PySem.W.Frag} {mg : Str → Option Value} {base h : Heap}
abbrev N__law_only : List Str := ["_law_e", "_law_at", "_law_kinds", "_law_k"]
abbrev P__law_only : List Str := ["_law_e", "_law_at"]
theorem sc__law_only : FnScope N__law_only P__law_only (defScope s__law_only) := ⟨rfl, rfl, rfl, by decide +kernel, rfl, by decide +kernel, by decide +kernel⟩
theorem ok__law_only (T : Tx w K mg h) : Cal P w K mg base 1 (ga K "_law_only") (sp__law_only K) := by
  obtain ⟨fd, F⟩ := T.fn__law_only
  refine okOf F sc__law_only (fun _ _ _ _ _ _ us hl => match us, hl with | [_, _], _ => rfl) (fun vs H Q E h => ?_) (fun cdv A outer s H vs Q E hr hsp => ?_)
  · repeat (first | (obtain ⟨h1, _⟩ := h; subst h1; rfl) | (obtain ⟨_, h⟩ := h))
  · obtain ⟨a, C, n, rfl, hk, S, n7, kk⟩ := hsp
    refine ⟨_, (pss_cons (ps_set (i := 2) sc__law_only.nd rfl (Or.inl rfl) (pe_lst (pa_cons (pe_callB call_isx (by rfl) T.fr_isinstance boot_isinstance (pa_cons (pv 0) (pa_cons (C8.pe_gc (v := .ref (He.ga K "NoProgram")) (by rfl) ⟨_, T.gl_NoProgram, rfl⟩) pa_nil))) (pa_cons (pe_callB call_isx (by rfl) T.fr_isinstance boot_isinstance (pa_cons (pv 0) (pa_cons (C8.pe_gc (v := .ref (He.ga K "NoText")) (by rfl) ⟨_, T.gl_NoText, rfl⟩) pa_nil))) (pa_cons (pe_callB call_isx (by rfl) T.fr_isinstance boot_isinstance (pa_cons (pv 0) (pa_cons (C8.pe_gc (v := .ref (He.ga K "Short")) (by rfl) ⟨_, T.gl_Short, rfl⟩) pa_nil))) (pa_cons (pe_callB call_isx (by rfl) T.fr_isinstance boot_isinstance (pa_cons (pv 0) (pa_cons (C8.pe_gc (v := .ref (He.ga K "NoWeights")) (by rfl) ⟨_, T.gl_NoWeights, rfl⟩) pa_nil))) pa_nil))))))
        (pss_cons (ps_set (i := 2) sc__law_only.nd rfl (Or.inl rfl) (pe_op op_cat (pv 2) (pe_lst (pa_cons (pe_callB call_isx (by rfl) T.fr_isinstance boot_isinstance (pa_cons (pv 0) (pa_cons (C8.pe_gc (v := .ref (He.ga K "NoDraw")) (by rfl) ⟨_, T.gl_NoDraw, rfl⟩) pa_nil))) (pa_cons (pe_callB call_isx (by rfl) T.fr_isinstance boot_isinstance (pa_cons (pv 0) (pa_cons (C8.pe_gc (v := .ref (He.ga K "NoRow")) (by rfl) ⟨_, T.gl_NoRow, rfl⟩) pa_nil))) (pa_cons (pe_callB call_isx (by rfl) T.fr_isinstance boot_isinstance (pa_cons (pv 0) (pa_cons (C8.pe_gc (v := .ref (He.ga K "NoName")) (by rfl) ⟨_, T.gl_NoName, rfl⟩) pa_nil))) pa_nil))))))
        (pss_one (ps_ret (pe_and (pe_callB call_isx (by rfl) T.fr_isinstance boot_isinstance (pa_cons (pv 0) (pa_cons (pe_bltn (v := .ty "ValueError") (by rfl) T.fr_ValueError (by decide +kernel) rfl) pa_nil))) (pe_one (pe_cmpR (op_eqD hr.units) (pv 2) (pe_lc (own := [("_law_k", 3)]) rfl sc__law_only.nd (pi_range1 (by rfl) T.fr_range (pa_cons pe_int pa_nil)) (blkOk_by (own := [("_law_k", 3)]) (N := N__law_only) (sc := defScope s__law_only) (by decide +kernel)) (fun _ _ _ _ _ => (pg_name (i := 3) sc__law_only.nd rfl (Or.inl rfl))) (fun _ _ _ _ _ => pts_nil) (fun _ _ _ _ _ => (pe_cmpR op_eq (pv 3) (pv 1) (nomark _)))) (nomark _)))))))), ?_⟩
    obtain ⟨d, h1, h2⟩ := hk.at_
    have h2' : ∀ {H' : Hp}, Same H H' → ∀ dd, d = some dd → ∃ fs, H' dd = some (.xd fs) := fun s dd e => (h2 dd e).imp fun fs h => s _ _ h
    refine ⟨_, rfl, a, C, d, _, _, _, rfl, h1, h2, S.xc, .own _, S.k0, _, rfl, a, C, d, _, _, _, rfl, h1, h2, S.xc, .own _, S.k1, _, rfl, a, C, d, _, _, _, rfl, h1, h2, S.xc, .own _, S.k2, _, rfl, a, C, d, _, _, _, rfl, h1, h2, S.xc, .own _, S.k3, by show 4 ≤ sizeLine; decide, fun L1 n1 => ?_⟩
    have s1 : Same H (upd H L1 (.lst [.bl (decide (n = 0)), .bl (decide (n = 1)), .bl (decide (n = 2)), .bl (decide (n = 3))])) := (Same.refl H).upd n1
    have g1 := s1 _ _ h1
    have g2 := h2' s1
    refine ⟨_, rfl, _, rfl, a, C, d, _, _, _, rfl, g1, g2, S.xc, .own _, S.k4, _, rfl, a, C, d, _, _, _, rfl, g1, g2, S.xc, .own _, S.k5, _, rfl, a, C, d, _, _, _, rfl, g1, g2, S.xc, .own _, S.k6, by show 3 ≤ sizeLine; decide, fun L2_ n2 => ?_⟩
    have s2 := s1.upd (o := .lst [.bl (decide (n = 4)), .bl (decide (n = 5)), .bl (decide (n = 6))]) n2
    have l12 : L1 ≠ L2_ := ne_of_none upd_same n2
    refine ⟨L1, L2_, _, _, rfl, rfl, (by rw [upd_ne l12]; exact upd_same), upd_same, by show 7 ≤ sizeLine; decide, fun L3 n3 => ?_⟩
    have s3 := s2.upd (o := .lst ([.bl (decide (n = 0)), .bl (decide (n = 1)), .bl (decide (n = 2)), .bl (decide (n = 3))] ++ [.bl (decide (n = 4)), .bl (decide (n = 5)), .bl (decide (n = 6))])) n3
    refine ⟨_, rfl, a, C, d, _, _, _, rfl, s3 _ _ h1, h2' s3, S.xc, .ty _, S.ve, true, rfl, ?_⟩
    refine ⟨_, rfl, 7, rfl, by decide, by decide, fun D nD => lc_mapR (m := 7) (f := fun k => .bl (decide (V.int (0 + (k : Nat)) = V.int n))) nD (by decide) (fun i H9 hi s9 R S hR => ⟨rfl, _, rfl, _, rfl, rfl, hR _ (Same.refl _)⟩) fun H4 s4 hl4 => ?_⟩
    have hL3 := s4 _ _ (upd_same (H := upd (upd H L1 (.lst [.bl (decide (n = 0)), .bl (decide (n = 1)), .bl (decide (n = 2)), .bl (decide (n = 3))])) L2_ (.lst [.bl (decide (n = 4)), .bl (decide (n = 5)), .bl (decide (n = 6))])) (a := L3) (o := .lst ([.bl (decide (n = 0)), .bl (decide (n = 1)), .bl (decide (n = 2)), .bl (decide (n = 3))] ++ [.bl (decide (n = 4)), .bl (decide (n = 5)), .bl (decide (n = 6))])))
    have fin := kk H4 (s3.trans s4)
    match n, n7, hL3, hl4, fin with
    | 0, _, hL3, hl4, fin => exact ⟨.list [.bool true, .bool false, .bool false, .bool false, .bool false, .bool false, .bool false], .list [.bool true, .bool false, .bool false, .bool false, .bool false, .bool false, .bool false], .lst (SqL.of hL3) (.cons (.bl _) (.cons (.bl _) (.cons (.bl _) (.cons (.bl _) (.cons (.bl _) (.cons (.bl _) (.cons (.bl _) .nil))))))), .lst (SqL.of hl4) (.cons (.bl _) (.cons (.bl _) (.cons (.bl _) (.cons (.bl _) (.cons (.bl _) (.cons (.bl _) (.cons (.bl _) .nil))))))), rfl, rfl, fin⟩
    | 1, _, hL3, hl4, fin => exact ⟨.list [.bool false, .bool true, .bool false, .bool false, .bool false, .bool false, .bool false], .list [.bool false, .bool true, .bool false, .bool false, .bool false, .bool false, .bool false], .lst (SqL.of hL3) (.cons (.bl _) (.cons (.bl _) (.cons (.bl _) (.cons (.bl _) (.cons (.bl _) (.cons (.bl _) (.cons (.bl _) .nil))))))), .lst (SqL.of hl4) (.cons (.bl _) (.cons (.bl _) (.cons (.bl _) (.cons (.bl _) (.cons (.bl _) (.cons (.bl _) (.cons (.bl _) .nil))))))), rfl, rfl, fin⟩
    | 2, _, hL3, hl4, fin => exact ⟨.list [.bool false, .bool false, .bool true, .bool false, .bool false, .bool false, .bool false], .list [.bool false, .bool false, .bool true, .bool false, .bool false, .bool false, .bool false], .lst (SqL.of hL3) (.cons (.bl _) (.cons (.bl _) (.cons (.bl _) (.cons (.bl _) (.cons (.bl _) (.cons (.bl _) (.cons (.bl _) .nil))))))), .lst (SqL.of hl4) (.cons (.bl _) (.cons (.bl _) (.cons (.bl _) (.cons (.bl _) (.cons (.bl _) (.cons (.bl _) (.cons (.bl _) .nil))))))), rfl, rfl, fin⟩
    | 3, _, hL3, hl4, fin => exact ⟨.list [.bool false, .bool false, .bool false, .bool true, .bool false, .bool false, .bool false], .list [.bool false, .bool false, .bool false, .bool true, .bool false, .bool false, .bool false], .lst (SqL.of hL3) (.cons (.bl _) (.cons (.bl _) (.cons (.bl _) (.cons (.bl _) (.cons (.bl _) (.cons (.bl _) (.cons (.bl _) .nil))))))), .lst (SqL.of hl4) (.cons (.bl _) (.cons (.bl _) (.cons (.bl _) (.cons (.bl _) (.cons (.bl _) (.cons (.bl _) (.cons (.bl _) .nil))))))), rfl, rfl, fin⟩
    | 4, _, hL3, hl4, fin => exact ⟨.list [.bool false, .bool false, .bool false, .bool false, .bool true, .bool false, .bool false], .list [.bool false, .bool false, .bool false, .bool false, .bool true, .bool false, .bool false], .lst (SqL.of hL3) (.cons (.bl _) (.cons (.bl _) (.cons (.bl _) (.cons (.bl _) (.cons (.bl _) (.cons (.bl _) (.cons (.bl _) .nil))))))), .lst (SqL.of hl4) (.cons (.bl _) (.cons (.bl _) (.cons (.bl _) (.cons (.bl _) (.cons (.bl _) (.cons (.bl _) (.cons (.bl _) .nil))))))), rfl, rfl, fin⟩
    | 5, _, hL3, hl4, fin => exact ⟨.list [.bool false, .bool false, .bool false, .bool false, .bool false, .bool true, .bool false], .list [.bool false, .bool false, .bool false, .bool false, .bool false, .bool true, .bool false], .lst (SqL.of hL3) (.cons (.bl _) (.cons (.bl _) (.cons (.bl _) (.cons (.bl _) (.cons (.bl _) (.cons (.bl _) (.cons (.bl _) .nil))))))), .lst (SqL.of hl4) (.cons (.bl _) (.cons (.bl _) (.cons (.bl _) (.cons (.bl _) (.cons (.bl _) (.cons (.bl _) (.cons (.bl _) .nil))))))), rfl, rfl, fin⟩
    | 6, _, hL3, hl4, fin => exact ⟨.list [.bool false, .bool false, .bool false, .bool false, .bool false, .bool false, .bool true], .list [.bool false, .bool false, .bool false, .bool false, .bool false, .bool false, .bool true], .lst (SqL.of hL3) (.cons (.bl _) (.cons (.bl _) (.cons (.bl _) (.cons (.bl _) (.cons (.bl _) (.cons (.bl _) (.cons (.bl _) .nil))))))), .lst (SqL.of hl4) (.cons (.bl _) (.cons (.bl _) (.cons (.bl _) (.cons (.bl _) (.cons (.bl _) (.cons (.bl _) (.cons (.bl _) .nil))))))), rfl, rfl, fin⟩
end
end Ev

set_option Elab.async false
set_option linter.all false
set_option maxRecDepth 100000
set_option maxHeartbeats 2000000
/-! The answer asked. -/
namespace Ev
open PySem PySem.Spec PyProof.Rows L2 He TL
theorem step_ex {S S' : Sx} {r : Row} {x : Ex} (h : stepS S r = (.ex x, S')) : S' = S := by
  cases r <;> unfold stepS at h <;> (repeat' split at h) <;> first | (cases h; rfl) | cases h
def sp__law_answered (K : PySem.W.Frag) : Sp := fun vs H Q _ => ∃ (d due : Addr) (g : Gk) (N : Nat) (S S' : Sx) (r : Row) (u : Out), vs = [.ref d, .str r.text, .ref due] ∧ DeskAt K H d g N S ∧ RowOk S r ∧ H due = some (.tup (dueV u)) ∧ stepS S r = (u, S') ∧ ∀ H' g', Next (cD K) H H' d g g' (N + 1) S S' → Q (.bl true) H'
section
variable {P : Program} {w : World} {K : PySem.W.Frag} {mg : Str → Option Value} {base h : Heap}
abbrev N__law_answered : List Str := ["_law_desk", "_law_row_here", "_law_due", "_law_told_here", "_law_refused", "_law_e"]
abbrev P__law_answered : List Str := ["_law_desk", "_law_row_here", "_law_due"]
theorem sc__law_answered : FnScope N__law_answered P__law_answered (defScope s__law_answered) := ⟨rfl, rfl, rfl, by decide +kernel, rfl, by decide +kernel, by decide +kernel⟩
theorem ok__law_answered (T : Tx w K mg h) : Cal P w K mg base 10 (ga K "_law_answered") (sp__law_answered K) := by
  obtain ⟨fd, F⟩ := T.fn__law_answered
  refine okOf F sc__law_answered (fun _ _ _ _ _ _ us hl => match us, hl with | [_, _, _], _ => rfl) (fun vs H Q E h => ?_) (fun cdv A outer s H vs Q E hr hsp => ?_)
  · repeat (first | (obtain ⟨h1, _⟩ := h; subst h1; rfl) | (obtain ⟨_, h⟩ := h))
  · obtain ⟨d, due, g, N, S, S', r, u, rfl, D, ok, hdue, hst, kk⟩ := hsp
    refine ⟨_, (pss_cons (ps_set (i := 3) sc__law_answered.nd rfl (Or.inl rfl) pe_non)
        (pss_cons (ps_set (i := 4) sc__law_answered.nd rfl (Or.inl rfl) pe_non)
        (pss_cons (ps_try_keep (i := 5) (l := 4) rfl rfl rfl sc__law_answered.nd rfl rfl rfl rfl ⟨by rfl, by decide, .inl T.gl_EvenError⟩ tkE (fun W pn xe tk _ =>
          (pss_one (ps_set (i := 3) sc__law_answered.nd rfl (Or.inl rfl) (pc_m (ok_Desk_say T) hr (by decide) (has_Desk_say T) tk (pv 0) (pa_cons (pv 1) pa_nil))))))
        (pss_cons (ps_if (pt_cmpR op_eq (pe_ix ix_tup (pv 2) pe_int (fun _ _ => rfl)) (pe_un un_neg pe_int) (nomark _))
          (pss_one (ps_ret (pe_and (pe_cmpR op_isN (pv 4) pe_non (nomark _)) (pe_and (pe_callB call_isi (by rfl) T.fr_isinstance boot_isinstance (pa_cons (pv 3) (pa_cons (pe_bltn (v := .ty "str") (by rfl) T.fr_str (by decide +kernel) rfl) pa_nil))) (pe_one (pe_cmpR op_eq (pv 3) (pe_ix ix_tup (pv 2) pe_int (fun _ _ => rfl)) (nomark _)))))))
          pss_nil)
        (pss_cons (ps_if (PW.pt (pw_or (pt_cmpR op_isN (pv 4) pe_non (nomark _)) (pw_or1 (pt_not (pt_val (pc_f (ok__law_only T) hr (by decide) T.gl__law_only tkE (pa_cons (pv 4) (pa_cons (pe_ix ix_tup (pv 2) pe_int (fun _ _ => rfl)) pa_nil))))))))
          (pss_one (ps_ret pe_bl))
          pss_nil)
        (pss_one (ps_ret (pe_or (pe_cmpR op_ne (pe_ix ix_tup (pv 2) pe_int (fun _ _ => rfl)) pe_int (nomark _)) (pe_one (pe_cmpR op_eq (pe_xo (pv 4)) (pe_ix ix_tup (pv 2) pe_int (fun _ _ => rfl)) (nomark _))))))))))), ?_⟩
    obtain ⟨⟨dx, hd⟩, hP⟩ := D.x.main
    have no : ∀ {m : Str}, eks.idxOf? m = none → (ef g.p g.pd g.kd).lookup m = none := fun h => ef_no h
    have nt := D.x.nt (cD_ok K)
    refine ⟨_, rfl, d, _, dx, _, rfl, hd, rfl, no (by decide +kernel), _, rfl, d, g, N, S, r.text, rfl, D, .inl ⟨r, rfl, ok, ⟨fun t S2 e H' g' nx => ?_, fun x S2 e => ?_⟩⟩⟩
    · rw [hst] at e
      cases e
      have hdue' := nx.f _ _ hdue fun z => nt _ _ z hdue
      refine ⟨_, rfl, due, _, _, .int (-1), rfl, rfl, SqT.of hdue', rfl, _, rfl, rfl, _, rfl, ?_⟩
      rw [show decide (V.int (-1) = V.int (-1)) = true by decide]
      refine iteT ⟨_, rfl, rfl, true, rfl, ?_⟩
      refine ⟨_, rfl, _, _, _, _, _, rfl, .ty _, .base (.str _), kit_ty (b := "str") (r := true) (by decide +kernel), true, rfl, ?_⟩
      refine ⟨_, rfl, _, rfl, due, _, _, .str t, rfl, rfl, SqT.of hdue', rfl, rfl, ?_⟩
      rw [decide_eq_true rfl]
      exact kk H' g' nx
    · rw [hst] at e
      cases e
      obtain rfl := step_ex hst
      cases x with
      | short n =>
        refine fun H' dd s nd hx => ⟨true, T.em_Short, fun _ a na => ?_, fun z => by cases z⟩
        have s2 := s.upd (o := XO (.ref (ga K "Short")) (some dd) a) na
        have hx2 : upd H' a (XO (.ref (ga K "Short")) (some dd) a) dd = some (.xd [(("spent" : Str), .int n)]) := by rw [upd_ne (ne_of_none hx na)]; exact hx
        have hk : Kept K (upd H' a (XO (.ref (ga K "Short")) (some dd) a)) a (ga K "Short") := ⟨some dd, upd_same, fun d2 e => by cases e; exact ⟨_, hx2⟩⟩
        generalize hH : upd H' a (XO (.ref (ga K "Short")) (some dd) a) = H2 at s2 hx2 hk ⊢
        have ha : H2 a = some (XO (.ref (ga K "Short")) (some dd) a) := by rw [← hH]; exact upd_same
        have hdue' := s2 _ _ hdue
        refine ⟨_, rfl, due, _, _, .int 2, rfl, rfl, SqT.of hdue', rfl, _, rfl, rfl, _, rfl, ?_⟩
        rw [show decide (V.int 2 = V.int (-1)) = false by decide]
        refine iteF ⟨_, rfl, rfl, _, rfl, iteF ?_⟩
        refine ⟨_, rfl, _, rfl, due, _, _, .int 2, rfl, rfl, SqT.of hdue', rfl, a, ga K "Short", 2, rfl, hk, seven_Short T, by decide, fun H3 s3 => ⟨true, rfl, iteF ?_⟩⟩
        refine ⟨_, rfl, due, _, _, .int 2, rfl, rfl, SqT.of (s3 _ _ hdue'), rfl, rfl, false, rfl, ?_⟩
        refine ⟨_, rfl, a, ga K "Short", dd, _, .int n, rfl, s3 _ _ ha, s3 _ _ hx2, T.xf_Short, T.sh_no, by rfl, _, rfl, due, _, _, .int n, rfl, rfl, SqT.of (s3 _ _ hdue'), rfl, rfl, ?_⟩
        rw [decide_eq_true rfl]
        exact kk H3 g (D.stay (s2.trans s3))
      | nodraw =>
        refine fun H' s => ⟨true, T.em_NoDraw, fun _ a na => ?_, fun z => by cases z⟩
        have s2 := s.upd (o := XO (.ref (ga K "NoDraw")) none a) na
        have hk : Kept K (upd H' a (XO (.ref (ga K "NoDraw")) none a)) a (ga K "NoDraw") := ⟨none, upd_same, fun d2 e => by cases e⟩
        generalize upd H' a (XO (.ref (ga K "NoDraw")) none a) = H2 at s2 hk ⊢
        have hdue' := s2 _ _ hdue
        refine ⟨_, rfl, due, _, _, .int 4, rfl, rfl, SqT.of hdue', rfl, _, rfl, rfl, _, rfl, ?_⟩
        rw [show decide (V.int 4 = V.int (-1)) = false by decide]
        refine iteF ⟨_, rfl, rfl, _, rfl, iteF ?_⟩
        refine ⟨_, rfl, _, rfl, due, _, _, .int 4, rfl, rfl, SqT.of hdue', rfl, a, ga K "NoDraw", 4, rfl, hk, seven_NoDraw T, by decide, fun H3 s3 => ⟨true, rfl, iteF ?_⟩⟩
        exact ⟨_, rfl, due, _, _, .int 4, rfl, rfl, SqT.of (s3 _ _ hdue'), rfl, rfl, true, rfl, kk H3 g (D.stay (s2.trans s3))⟩
      | noname =>
        refine fun H' s => ⟨true, T.em_NoName, fun _ a na => ?_, fun z => by cases z⟩
        have s2 := s.upd (o := XO (.ref (ga K "NoName")) none a) na
        have hk : Kept K (upd H' a (XO (.ref (ga K "NoName")) none a)) a (ga K "NoName") := ⟨none, upd_same, fun d2 e => by cases e⟩
        generalize upd H' a (XO (.ref (ga K "NoName")) none a) = H2 at s2 hk ⊢
        have hdue' := s2 _ _ hdue
        refine ⟨_, rfl, due, _, _, .int 6, rfl, rfl, SqT.of hdue', rfl, _, rfl, rfl, _, rfl, ?_⟩
        rw [show decide (V.int 6 = V.int (-1)) = false by decide]
        refine iteF ⟨_, rfl, rfl, _, rfl, iteF ?_⟩
        refine ⟨_, rfl, _, rfl, due, _, _, .int 6, rfl, rfl, SqT.of hdue', rfl, a, ga K "NoName", 6, rfl, hk, seven_NoName T, by decide, fun H3 s3 => ⟨true, rfl, iteF ?_⟩⟩
        exact ⟨_, rfl, due, _, _, .int 6, rfl, rfl, SqT.of (s3 _ _ hdue'), rfl, rfl, true, rfl, kk H3 g (D.stay (s2.trans s3))⟩
end
end Ev

set_option Elab.async false
set_option linter.all false
set_option maxRecDepth 100000
set_option maxHeartbeats 2000000
/-! How many coins are left. -/
namespace Ev
open PySem PySem.Spec PyProof.Rows L2 He TL
/-- a desk and a state that hold the same -/
structure Both (K : PySem.W.Frag) (H : Hp) (d e : Addr) (g g2 : Gk) (N : Nat) (S : Sx) : Prop where
  D : DeskAt K H d g N S
  L : LawAt H e g2 N S
theorem Both.same {K : PySem.W.Frag} {H H' : Hp} {d e : Addr} {g g2 : Gk} {N : Nat} {S : Sx} (B : Both K H d e g g2 N S) (s : Same H H') : Both K H' d e g g2 N S := ⟨B.D.same s, B.L.same s⟩
def sp__law_left (K : PySem.W.Frag) : Sp := fun vs H Q _ => ∃ (a b d0 d1 e0 e1 : Addr) (g0 g1 h0 h1 : Gk) (N : Nat) (S0 S1 : Sx), vs = [.ref a, .ref b] ∧ H a = some (.lst [.ref d0, .ref d1]) ∧ H b = some (.lst [.ref e0, .ref e1]) ∧ Both K H d0 e0 g0 h0 N S0 ∧ Both K H d1 e1 g1 h1 N S1 ∧ ∀ H', Same H H' → Q (.bl true) H'
section
variable {P : Program} {w : World} {K : PySem.W.Frag} {mg : Str → Option Value} {base h : Heap}
abbrev N__law_left : List Str := ["_law_desks", "_law_states", "_law_desk", "_law_state"]
abbrev P__law_left : List Str := ["_law_desks", "_law_states"]
theorem sc__law_left : FnScope N__law_left P__law_left (defScope s__law_left) := ⟨rfl, rfl, rfl, by decide +kernel, rfl, by decide +kernel, by decide +kernel⟩
theorem ok__law_left (T : Tx w K mg h) : Cal P w K mg base 10 (ga K "_law_left") (sp__law_left K) := by
  obtain ⟨fd, F⟩ := T.fn__law_left
  refine okOf F sc__law_left (fun _ _ _ _ _ _ us hl => match us, hl with | [_, _], _ => rfl) (fun vs H Q E h => ?_) (fun cdv A outer s H vs Q E hr hsp => ?_)
  · repeat (first | (obtain ⟨h1, _⟩ := h; subst h1; rfl) | (obtain ⟨_, h⟩ := h))
  · obtain ⟨a, b, d0, d1, e0, e1, g0, g1, h0, h1, N, S0, S1, rfl, ha, hb, B0, B1, kk⟩ := hsp
    refine ⟨_, (pss_one (ps_ret (pe_callB (cr_all rfl) (by rfl) T.fr_all boot_all (pa_cons (pe_lc (g := gTup K 2 (gCons (gName 2) (gCons (gName 3) gNil))) (own := [("_law_desk", 2), ("_law_state", 3)]) rfl sc__law_left.nd (pi_zip (by rfl) T.fr_zip (pa_cons (pv 0) (pa_cons (pv 1) pa_nil))) (blkOk_by (own := [("_law_desk", 2), ("_law_state", 3)]) (N := N__law_left) (sc := defScope s__law_left) (by decide +kernel)) (fun _ _ _ _ _ => (pg_tup (by rfl) (pgs_cons (pg_name (i := 2) sc__law_left.nd rfl (Or.inl rfl)) (pgs_cons (pg_name (i := 3) sc__law_left.nd rfl (Or.inl rfl)) pgs_nil)))) (fun _ _ _ _ _ => pts_nil) (fun _ _ _ _ _ => (pe_cmpR op_eq (pc_m (ok_Desk_say T) hr (by decide) (has_Desk_say T) takes0 (pv 2) (pa_cons pe_str pa_nil)) (pe_callTy call_str_int (by rfl) T.fr_str boot_str (pa_cons (pe_callB (show CallR _ _ (rLenK K) from call_len_seq) (by rfl) T.fr_len boot_len (pa_cons (pe_dget (hu_of hr) (pv 3) pe_str (fun _ _ => rfl)) pa_nil)) pa_nil)) (nomark _)))) pa_nil)))), ?_⟩
    refine ⟨_, rfl, _, rfl, a, b, _, _, rfl, SqL.of ha, SqL.of hb, fun D nD => lc_same (n := 2) (walk_zip (xs := [.ref d0, .ref d1]) (ys := [.ref e0, .ref e1]) rfl) (fun _ => .bl true) nD (by decide) (fun H' s => ⟨SqL.of (s _ _ ha), SqL.of (s _ _ hb)⟩) (fun i H x H' y => ?_) (fun i x H1 H2 hi s y R Sw hR => ?_) fun H1 s1 hl1 => ?_⟩
    · obtain ⟨T', x', y', _, nT, rfl, _, _⟩ := y
      exact (Same.refl H).upd nT
    · have el : ∃ (d e : Addr) (g g2 : Gk) (S : Sx), [V.ref d0, .ref d1][i]? = some (.ref d) ∧ [V.ref e0, .ref e1][i]? = some (.ref e) ∧ Both K H d e g g2 N S := by
        match i, hi with
        | 0, _ => exact ⟨d0, e0, g0, h0, S0, rfl, rfl, B0⟩
        | 1, _ => exact ⟨d1, e1, g1, h1, S1, rfl, rfl, B1⟩
      obtain ⟨d, e, g, g2, S, q1, q2, B⟩ := el
      obtain ⟨T', x', y', rfl, nT, rfl, z1, z2⟩ := y
      replace z1 : [V.ref d0, .ref d1][i]? = some x' := z1
      replace z2 : [V.ref e0, .ref e1][i]? = some y' := z2
      rw [q1] at z1
      rw [q2] at z2
      cases z1
      cases z2
      have sT : Same H1 (upd H1 T' (.tup [.ref d, .ref e])) := (Same.refl H1).upd nT
      have B2 := B.same (s.trans sT)
      obtain ⟨⟨dx, hd⟩, _⟩ := B2.D.x.main
      have few := B2.D.ok.few
      have n62 := B2.D.ok.n62
      refine ⟨T', _, rfl, SqT.of upd_same, rfl, _, _, rfl, _, _, rfl, rfl, rfl, _, rfl, d, _, dx, _, rfl, hd, rfl, ef_no (by decide +kernel), d, g, N, S, "left", rfl, B2.D, .inr ⟨rfl, fun H4 s4 => ?_⟩⟩
      have L4 := B2.L.same s4
      have dg := L4.x.main.1
      obtain ⟨⟨pt, hp, hpt⟩, hl, hq⟩ := L4.x.main.2
      have he : H4 e = some (.dK (stD pt g2.l g2.pd g2.kd)) := by rw [dg]; exact hp
      refine ⟨_, rfl, e, _, rfl, sg_coins he, _, _, rfl, .inl (SqL.of hl), S.pool.coins.length, by rw [List.length_map], small_log (by omega), rfl, ?_⟩
      rw [decide_eq_true rfl]
      exact hR _ s4
    · exact ⟨D, [true, true], rfl, SqL.of hl1, kk H1 s1⟩
end
end Ev

set_option Elab.async false
set_option linter.all false
set_option maxRecDepth 100000
set_option maxHeartbeats 2000000
/-! Names of a cell. -/
namespace Ev
open PySem PySem.Spec PyProof.Rows L2 He TL
abbrev LET : Str := "abcdefghijklmnopqrstuvwxyz"
theorem let_all : (List.range 26).all (fun j => decide (LET.cps.toList[j]? = some (97 + j))) = true := by decide +kernel
theorem let_len : LET.cps.toList.length = 26 := by decide +kernel
theorem let_at {j : Nat} (h : j < 26) : LET.cps.toList[j]? = some (97 + j) := of_decide_eq_true (List.all_eq_true.mp let_all j (List.mem_range.mpr h))
theorem let_atI {i : Int} (h0 : 0 ≤ i) (h : i < 26) : atI LET.cps.toList i = some (97 + i.toNat) := by
  have q := atI_nat (let_at (j := i.toNat) (by omega))
  rw [show ((i.toNat : Nat) : Int) = i by omega] at q
  exact q
/-- signs that are letters -/
def NameL (l : List Nat) : Prop := 1 ≤ l.length ∧ l.length ≤ 8 ∧ ∀ c ∈ l, 97 ≤ c ∧ c ≤ 122
theorem nameB_of {z : Str} (h : NameL z.cps.toList) : NameB z = true := by
  obtain ⟨h1, h2, h3⟩ := h
  have hl : z.length = z.cps.toList.length := by rw [Array.length_toList]; rfl
  unfold NameB
  rw [decide_eq_true (by omega), decide_eq_true (by omega)]
  refine List.all_eq_true.mpr fun c hc => decide_eq_true ?_
  obtain ⟨g1, g2⟩ := h3 c hc
  have q := let_at (j := c - 97) (by omega)
  rw [show 97 + (c - 97) = c by omega] at q
  exact List.mem_of_getElem? q
theorem joinL_flat : ∀ ps : List (List Nat), joinL [] ps = ps.flatten
  | [] => rfl
  | [p] => (List.append_nil p).symm
  | p :: q :: r => by
    show p ++ ([] ++ joinL [] (q :: r)) = p ++ (q :: r).flatten
    rw [joinL_flat (q :: r)]
    rfl
theorem join0_tl (ys : List Str) : (Txt.join "" ys).cps.toList = (ys.map fun y => y.cps.toList).flatten := by
  rw [join_eq]
  have q := tl_join ("" : Str) ys
  rw [show tl ("" : Str) = [] by decide +kernel, joinL_flat] at q
  exact q
theorem flat_one {α : Type} (f : α → Nat) : ∀ xs : List α, ((xs.map fun x => (⟨#[f x]⟩ : Str)).map fun y => y.cps.toList).flatten = xs.map f
  | [] => rfl
  | x :: xs => by
    show f x :: _ = f x :: _
    rw [← flat_one f xs]
    rfl
theorem cutS_to {z : Str} {n : Nat} (h : n ≤ z.length) : (cutS z none (some (n : Int))).cps.toList = z.cps.toList.take n := by
  show ((z.cps.toList.drop (HT.sIx z.length 0 none)).take (HT.sIx z.length z.length (some (n : Int)) - HT.sIx z.length 0 none)) = _
  rw [HT.sIx_none, HT.sIx_nat, List.drop_zero, Nat.sub_zero, Nat.min_eq_left h]
theorem cutS_from {z : Str} {n : Nat} (h : n ≤ z.length) : (cutS z (some (n : Int)) none).cps.toList = z.cps.toList.drop n := by
  show ((z.cps.toList.drop (HT.sIx z.length 0 (some (n : Int)))).take (HT.sIx z.length z.length none - HT.sIx z.length 0 (some (n : Int)))) = _
  rw [HT.sIx_none, HT.sIx_nat, Nat.min_eq_left h, List.take_of_length_le]
  rw [List.length_drop, Array.length_toList]
  exact Nat.le_refl _
theorem str_len (z : Str) : z.length = z.cps.toList.length := by rw [Array.length_toList]; rfl
def sp__law_names (_K : PySem.W.Frag) : Sp := fun vs H Q _ => ∃ (c : Int) (m : Nat), vs = [.int c, .int m] ∧ 1 ≤ m ∧ m ≤ 3 ∧ ∀ (H' : Hp) (r : Addr) (ns : List Str), Same H H' → H r = none → H' r = some (.lst (ns.map .str)) → ns.length = m → (∀ z ∈ ns, NameB z = true) → (∀ a b, ns[0]? = some a → ns[1]? = some b → a ≠ b) → Q (.ref r) H'
section
variable {P : Program} {w : World} {K : PySem.W.Frag} {mg : Str → Option Value} {base h : Heap}
abbrev N__law_names : List Str := ["_law_cell_here", "_law_many", "_law_letters", "_law_xs", "_law_stem", "_law_words", "_law_k", "_law_at", "_law_size", "_law_found", "_law_sign", "_law_x"]
abbrev P__law_names : List Str := ["_law_cell_here", "_law_many"]
theorem sc__law_names : FnScope N__law_names P__law_names (defScope s__law_names) := ⟨rfl, rfl, rfl, by decide +kernel, rfl, by decide +kernel, by decide +kernel⟩
theorem ok__law_names (T : Tx w K mg h) : Cal P w K mg base 2 (ga K "_law_names") (sp__law_names K) := by
  obtain ⟨fd, F⟩ := T.fn__law_names
  refine okOf F sc__law_names (fun _ _ _ _ _ _ us hl => match us, hl with | [_, _], _ => rfl) (fun vs H Q E h => ?_) (fun cdv A outer s H vs Q E hr hsp => ?_)
  · repeat (first | (obtain ⟨h1, _⟩ := h; subst h1; rfl) | (obtain ⟨_, h⟩ := h))
  · obtain ⟨c, m, rfl, m1, m3, kk⟩ := hsp
    refine ⟨_, (pss_cons (ps_set (i := 2) sc__law_names.nd rfl (Or.inr rfl) pe_str)
        (pss_cons (ps_set (i := 3) sc__law_names.nd rfl (Or.inl rfl) (pc_f (ok__law_numbers T) hr (by decide) T.gl__law_numbers tkE (pa_cons (pv 0) (pa_cons pe_int pa_nil))))
        (pss_cons (ps_set (i := 4) sc__law_names.nd rfl (Or.inr rfl) (pe_join pe_str (pe_lc (own := [("_law_x", 11)]) rfl sc__law_names.nd (pi_list (pv 3)) (blkOk_by (own := [("_law_x", 11)]) (N := N__law_names) (sc := defScope s__law_names) (by decide +kernel)) (fun _ _ _ _ _ => (pg_name (i := 11) sc__law_names.nd rfl (Or.inl rfl))) (fun _ _ _ _ _ => pts_nil) (fun _ _ _ _ _ => (pe_ix ix_str (pv 2) (pe_op op_mod (pv 11) pe_int) (fun _ _ => rfl))))))
        (pss_cons (ps_if (pt_cmpR op_eq (pe_op op_mod (pe_op op_fdiv (pv 0) pe_int) pe_int) pe_int (nomark _))
          (pss_cons (ps_set (i := 5) sc__law_names.nd rfl (Or.inl rfl) (pe_lst (pa_cons pe_str (pa_cons pe_str (pa_cons pe_str (pa_cons pe_str (pa_cons pe_str (pa_cons pe_str (pa_cons pe_str (pa_cons pe_str (pa_cons pe_str (pa_cons pe_str (pa_cons pe_str (pa_cons pe_str pa_nil))))))))))))))
          (pss_one (ps_ret (pe_slice sl_list (pv 5) po_none (po_some (pv 1))))))
          pss_nil)
        (pss_cons (ps_if (pt_cmpR op_eq (pe_op op_mod (pv 0) pe_int) pe_int (nomark _))
          (pss_one (ps_ret (pe_lc (own := [("_law_k", 6)]) rfl sc__law_names.nd (pi_range1 (by rfl) T.fr_range (pa_cons (pv 1) pa_nil)) (blkOk_by (own := [("_law_k", 6)]) (N := N__law_names) (sc := defScope s__law_names) (by decide +kernel)) (fun _ _ _ _ _ => (pg_name (i := 6) sc__law_names.nd rfl (Or.inl rfl))) (fun _ _ _ _ _ => pts_nil) (fun _ _ _ _ _ => (pe_slice sl_str (pv 4) po_none (po_some (pe_op op_add (pv 6) pe_int)))))))
          pss_nil)
        (pss_cons (ps_set (i := 7) sc__law_names.nd rfl (Or.inl rfl) (pe_op op_mod (pe_op op_fdiv (pe_ix ix_list (pv 3) pe_int (fun _ _ => rfl)) pe_int) pe_int))
        (pss_cons (ps_set (i := 8) sc__law_names.nd rfl (Or.inl rfl) (pe_op op_add (pe_op op_add (pv 7) pe_int) (pe_op op_mod (pe_op op_fdiv (pe_ix ix_list (pv 3) pe_int (fun _ _ => rfl)) pe_int) (pe_op op_sub pe_int (pv 7)))))
        (pss_cons (ps_set (i := 9) sc__law_names.nd rfl (Or.inl rfl) (pe_lst pa_nil))
        (pss_cons (ps_for powE rfl (pi_range1 (by rfl) T.fr_range (pa_cons (pv 1) pa_nil)) (pg_name (i := 6) sc__law_names.nd rfl (Or.inl rfl))
          (pss_cons (ps_set (i := 10) sc__law_names.nd rfl (Or.inl rfl) (pe_ix ix_str (pv 2) (pe_op op_mod (pe_op op_add (pe_ix ix_list (pv 3) pe_int (fun _ _ => rfl)) (pe_op op_mul pe_int (pv 6))) pe_int) (fun _ _ => rfl)))
          (pss_one (ps_expr (pe_bm PySem.F.plainAttrs_list PySem.F.slot_list_append PySem.F.type_list_append mt_append (pv 9) (pa_cons (pe_slice sl_str (pe_op op_add_str (pe_op op_add_str (pe_slice sl_str (pv 4) po_none (po_some (pv 7))) (pv 10)) (pe_slice sl_str (pv 4) (po_some (pe_op op_add (pv 7) pe_int)) po_none)) po_none (po_some (pv 8))) pa_nil))))))
        (pss_one (ps_ret (pv 9)))))))))))), ?_⟩
    refine ⟨_, rfl, c, 8, rfl, by decide, fun H1 r1 xs s1 nr1 hr1 hx hxs => ?_⟩
    -- stem
    refine ⟨⟨_, rfl⟩, _, rfl, r1, rfl, ⟨_, SqL.of hr1⟩, fun D nD => lc_mapL (xs := xs) (e := V.int) (f := fun x => .str ⟨#[97 + (x % 26).toNat]⟩) (SqL.of hr1) nD (by omega) (fun x H2 hx2 s2 R Sw hR => ?_) fun H2 s2 hl2 => ?_⟩
    · have e1 := Int.emod_nonneg x (show (26 : Int) ≠ 0 by decide)
      have e2 := Int.emod_lt_of_pos x (show (0 : Int) < 26 by decide)
      exact ⟨rfl, _, rfl, _, rfl, _, _, rfl, rfl, (by show (0 : Int) < 26; decide), LET, x % 26, 97 + (x % 26).toNat, rfl, rfl, (by show 26 ≤ sizeLine; decide), let_atI e1 e2, hR _ (Same.refl _)⟩
    have st : Str := Txt.join "" (xs.map fun x => (⟨#[97 + (x % 26).toNat]⟩ : Str))
    refine ⟨_, D, xs.map fun x => (⟨#[97 + (x % 26).toNat]⟩ : Str), rfl, rfl, .inl (SqL.of (by rw [hl2, List.map_map]; rfl)), ?_, ?_⟩
    · rw [show Str.length "" = 0 by decide +kernel, List.map_map, List.length_map]
      have := sum_le (B := 1) (ws := xs.map fun x => (⟨#[97 + (x % 26).toNat]⟩ : Str)) fun z hz => by
        obtain ⟨x, _, rfl⟩ := List.mem_map.mp hz
        exact Nat.le_refl 1
      rw [List.map_map, List.length_map] at this
      omega
    have s12 := s1.trans s2
    generalize hst : Txt.join "" (xs.map fun x => (⟨#[97 + (x % 26).toNat]⟩ : Str)) = stem
    have stl : stem.cps.toList = xs.map fun x => 97 + (x % 26).toNat := by rw [← hst, join0_tl, flat_one]
    have slen : stem.length = 8 := by rw [str_len, stl, List.length_map, hx]
    have slet : ∀ c ∈ stem.cps.toList, 97 ≤ c ∧ c ≤ 122 := fun c hc => by
      rw [stl] at hc
      obtain ⟨x, _, rfl⟩ := List.mem_map.mp hc
      omega
    have hr12 := s2 _ _ hr1
    have n1 : ∀ {a : Addr}, H2 a = none → H a = none := fun na => s12.free na
    refine ⟨_, rfl, _, _, rfl, rfl, ⟨by decide, by decide⟩, _, _, rfl, rfl, (by show (0 : Int) < 8; decide), rfl, _, rfl, ?_⟩
    refine iteVi (fun h3 => ?_) (fun h3 => ?_)
    · refine ⟨by show 12 ≤ sizeLine; decide, fun L nL => ?_⟩
      refine ⟨_, rfl, _, rfl, _, rfl, L, _, rfl, SqL.of upd_same, fun r nr => ?_⟩
      rw [cut_to]
      have sL := s12.upd (o := .lst [.str "program", .str "drawer", .str "weigher", .str "draw", .str "least", .str "show", .str "coins", .str "give", .str "coin", .str "see", .str "cut", .str "pour"]) nL
      have nr0 : H r = none := sL.free nr
      have fin : ∀ ns : List Str, ([V.str "program", .str "drawer", .str "weigher", .str "draw", .str "least", .str "show", .str "coins", .str "give", .str "coin", .str "see", .str "cut", .str "pour"].take m) = ns.map V.str → ns.length = m → ns.all NameB = true → (∀ a b, ns[0]? = some a → ns[1]? = some b → a ≠ b) → Q (.ref r) (upd (upd H2 L (.lst [.str "program", .str "drawer", .str "weigher", .str "draw", .str "least", .str "show", .str "coins", .str "give", .str "coin", .str "see", .str "cut", .str "pour"])) r (.lst ([V.str "program", .str "drawer", .str "weigher", .str "draw", .str "least", .str "show", .str "coins", .str "give", .str "coin", .str "see", .str "cut", .str "pour"].take m))) := fun ns e el ea ed =>
        kk _ r ns (sL.upd nr) nr0 (by rw [upd_same, e]) el (List.all_eq_true.mp ea) ed
      match m, m1, m3, fin with
      | 1, _, _, fin => exact fin ["program"] rfl rfl (by decide +kernel) fun a b _ e => by cases e
      | 2, _, _, fin => exact fin ["program", "drawer"] rfl rfl (by decide +kernel) fun a b e1 e2 => by cases e1; cases e2; decide +kernel
      | 3, _, _, fin => exact fin ["program", "drawer", "weigher"] rfl rfl (by decide +kernel) fun a b e1 e2 => by cases e1; cases e2; decide +kernel
    refine ⟨_, rfl, _, _, rfl, rfl, (by show (0 : Int) < 2; decide), rfl, _, rfl, ?_⟩
    refine iteVi (fun h4 => ?_) (fun h4 => ?_)
    · refine ⟨_, rfl, m, rfl, by omega, by omega, fun r nr => lc_mapR (m := m) (f := fun k => .str (cutS stem none (some (0 + (k : Nat) + 1)))) nr (by omega) (fun i H3 hi s3 R Sw hR => ?_) fun H3 s3 hl3 => ?_⟩
      · exact ⟨rfl, _, rfl, _, rfl, _, _, rfl, rfl, _, rfl, stem, rfl, (by rw [slen]; decide), hR _ (Same.refl _)⟩
      · have nr0 : H r = none := s12.free nr
        have ct : ∀ k, k < m → (cutS stem none (some (0 + (k : Nat) + 1))).cps.toList = stem.cps.toList.take (k + 1) := fun k hk => by
          have q := cutS_to (z := stem) (n := k + 1) (by omega)
          rw [show (0 : Int) + (k : Nat) + 1 = ((k + 1 : Nat) : Int) by omega]
          exact q
        refine kk H3 r ((List.range m).map fun k => cutS stem none (some (0 + (k : Nat) + 1))) (s12.trans s3) nr0 (by rw [hl3, List.map_map]; rfl) (by rw [List.length_map, List.length_range]) (fun z hz => ?_) (fun a b ea eb => ?_)
        · obtain ⟨k, hk, rfl⟩ := List.mem_map.mp hz
          have hk := List.mem_range.mp hk
          refine nameB_of ?_
          rw [ct k hk]
          refine ⟨?_, ?_, fun c hc => slet c (List.mem_of_mem_take hc)⟩
          · rw [List.length_take, ← str_len, slen]; omega
          · rw [List.length_take, ← str_len, slen]; omega
        · have h1 : 1 < m := by
            have q := (List.getElem?_eq_some_iff.mp eb).1
            rw [List.length_map, List.length_range] at q
            exact q
          rw [List.getElem?_map, List.getElem?_range (by omega)] at ea
          rw [List.getElem?_map, List.getElem?_range h1] at eb
          cases ea
          cases eb
          intro e
          have q := congrArg (fun z : Str => z.cps.toList.length) e
          have q : (cutS stem none (some (0 + ((0 : Nat) : Int) + 1))).cps.toList.length = (cutS stem none (some (0 + ((1 : Nat) : Int) + 1))).cps.toList.length := q
          rw [ct 0 (by omega), ct 1 h1, List.length_take, List.length_take, ← str_len, slen] at q
          omega
    · obtain ⟨x0, hx0⟩ : ∃ x, xs[0]? = some x := ⟨_, List.getElem?_eq_getElem (by omega)⟩
      obtain ⟨x1, hx1⟩ : ∃ x, xs[1]? = some x := ⟨_, List.getElem?_eq_getElem (by omega)⟩
      obtain ⟨x2, hx2⟩ : ∃ x, xs[2]? = some x := ⟨_, List.getElem?_eq_getElem (by omega)⟩
      have a0 : atI (xs.map V.int) (0 : Int) = some (.int x0) := atI_nat (j := 0) (by rw [List.getElem?_map, hx0]; rfl)
      have a1 : atI (xs.map V.int) (1 : Int) = some (.int x1) := atI_nat (j := 1) (by rw [List.getElem?_map, hx1]; rfl)
      have a2 : atI (xs.map V.int) (2 : Int) = some (.int x2) := atI_nat (j := 2) (by rw [List.getElem?_map, hx2]; rfl)
      obtain ⟨x20, _⟩ := hxs x2 (List.mem_of_getElem? hx2)
      have t0 := Int.emod_nonneg (x0 / 26) (show (8 : Int) ≠ 0 by decide)
      have t1 := Int.emod_lt_of_pos (x0 / 26) (show (0 : Int) < 8 by decide)
      refine ⟨_, rfl, r1, _, _, _, rfl, rfl, SqL.of hr12, a0, _, _, rfl, rfl, ⟨by decide, by decide⟩, _, _, rfl, rfl, (by show (0 : Int) < 8; decide), ?_⟩
      obtain ⟨at_, hat⟩ : ∃ n : Nat, x0 / 26 % 8 = (n : Int) := ⟨(x0 / 26 % 8).toNat, by omega⟩
      have u0 := Int.emod_nonneg (x1 / 26) (show ((8 : Int) - x0 / 26 % 8) ≠ 0 by omega)
      have u1 := Int.emod_lt_of_pos (x1 / 26) (show (0 : Int) < 8 - x0 / 26 % 8 by omega)
      refine ⟨_, rfl, _, _, rfl, rfl, _, rfl, r1, _, _, _, rfl, rfl, SqL.of hr12, a1, _, _, rfl, rfl, ⟨by decide, by decide⟩, _, rfl, _, _, rfl, rfl, _, _, rfl, rfl, (by show (0 : Int) < 8 - x0 / 26 % 8; omega), _, _, rfl, rfl, ?_⟩
      obtain ⟨sz, hsz⟩ : ∃ n : Nat, x0 / 26 % 8 + 1 + x1 / 26 % (8 - x0 / 26 % 8) = (n : Int) := ⟨(x0 / 26 % 8 + 1 + x1 / 26 % (8 - x0 / 26 % 8)).toNat, by omega⟩
      have z1 : at_ + 1 ≤ sz := by omega
      have z2 : sz ≤ 8 := by omega
      refine ⟨by show 0 ≤ sizeLine; decide, fun f nf => ?_⟩
      have sf := s12.upd (o := .lst []) nf
      have nf0 : H f = none := s12.free nf
      -- the name at k
      obtain ⟨nm, hnm⟩ : ∃ nm : Nat → Str, ∀ k : Nat, nm k = cutS (cutS stem none (some (x0 / 26 % 8)) ++ (⟨#[97 + ((x2 + 5 * (0 + (k : Int))) % 26).toNat]⟩ : Str) ++ cutS stem (some (x0 / 26 % 8 + 1)) none) none (some (x0 / 26 % 8 + 1 + x1 / 26 % (8 - x0 / 26 % 8))) := ⟨_, fun _ => rfl⟩
      have ctl : ∀ k, (nm k).cps.toList = (stem.cps.toList.take at_ ++ [97 + ((x2 + 5 * (0 + (k : Int))) % 26).toNat] ++ stem.cps.toList.drop (at_ + 1)).take sz := fun k => by
        rw [hnm, hsz, hat]
        have e1 : (cutS stem none (some (at_ : Int)) ++ (⟨#[97 + ((x2 + 5 * (0 + (k : Int))) % 26).toNat]⟩ : Str) ++ cutS stem (some ((at_ : Int) + 1)) none).cps.toList = stem.cps.toList.take at_ ++ [97 + ((x2 + 5 * (0 + (k : Int))) % 26).toNat] ++ stem.cps.toList.drop (at_ + 1) := by
          have q1 := cutS_to (z := stem) (n := at_) (by omega)
          have q2 := cutS_from (z := stem) (n := at_ + 1) (by omega)
          rw [show (((at_ + 1 : Nat) : Int)) = (at_ : Int) + 1 by omega] at q2
          rw [← q1, ← q2]
          exact (tl_append _ _).trans (congrArg (· ++ _) (tl_append _ _))
        show (cutS _ none (some (sz : Int))).cps.toList = _
        rw [cutS_to (by rw [str_len, e1, List.length_append, List.length_append, List.length_take, List.length_drop, ← str_len, slen]; show sz ≤ min at_ 8 + 1 + _; omega), e1]
      have nml : ∀ k, NameB (nm k) = true := fun k => by
        refine nameB_of ?_
        rw [ctl]
        have g1 := Int.emod_nonneg (x2 + 5 * (0 + (k : Int))) (show (26 : Int) ≠ 0 by decide)
        have g2 := Int.emod_lt_of_pos (x2 + 5 * (0 + (k : Int))) (show (0 : Int) < 26 by decide)
        have ll : (stem.cps.toList.take at_ ++ [97 + ((x2 + 5 * (0 + (k : Int))) % 26).toNat] ++ stem.cps.toList.drop (at_ + 1)).length = 8 := by
          rw [List.length_append, List.length_append, List.length_take, List.length_drop, ← str_len, slen]
          show min at_ 8 + 1 + _ = 8
          omega
        refine ⟨by rw [List.length_take, ll]; omega, by rw [List.length_take, ll]; omega, fun c hc => ?_⟩
        have hc := List.mem_of_mem_take hc
        rcases List.mem_append.mp hc with hc | hc
        · rcases List.mem_append.mp hc with hc | hc
          · exact slet c (List.mem_of_mem_take hc)
          · rw [List.mem_singleton.mp hc]
            omega
        · exact slet c (List.mem_of_mem_drop hc)
      have nat_ : ∀ k, (nm k).cps.toList[at_]? = some (97 + ((x2 + 5 * (0 + (k : Int))) % 26).toNat) := fun k => by
        rw [ctl, List.getElem?_take, if_pos (by omega), List.append_assoc, List.getElem?_append_right (by rw [List.length_take, ← str_len, slen]; omega), List.length_take, ← str_len, slen, show at_ - min at_ 8 = 0 by omega]
        rfl
      refine ⟨_, rfl, m, rfl, by omega, by omega, for_range (n := m) (fun i σ H3 => ∃ v1 v2, σ = [some (.int c), some (.int m), some (.str LET), some (.ref r1), some (.str stem), none, v1, some (.int (x0 / 26 % 8)), some (.int (x0 / 26 % 8 + 1 + x1 / 26 % (8 - x0 / 26 % 8))), some (.ref f), v2, none] ∧ Same H H3 ∧ H3 r1 = some (.lst (xs.map .int)) ∧ H3 f = some (.lst (((List.range i).map nm).map .str))) ⟨none, none, rfl, sf, by rw [upd_ne (ne_of_none hr12 nf)]; exact hr12, upd_same⟩ ?_ ?_⟩
      · rintro i σ H3 hi ⟨v1, v2, rfl, s3, hr3, hf3⟩
        have g1 := Int.emod_nonneg (x2 + 5 * (0 + (i : Int))) (show (26 : Int) ≠ 0 by decide)
        have g2 := Int.emod_lt_of_pos (x2 + 5 * (0 + (i : Int))) (show (0 : Int) < 26 by decide)
        refine ⟨_, rfl, _, rfl, r1, _, _, _, rfl, rfl, SqL.of hr3, a2, _, rfl, _, _, rfl, rfl, .inl ⟨by decide, by decide⟩, _, _, rfl, rfl, _, _, rfl, rfl, (by show (0 : Int) < 26; decide), LET, _, _, rfl, rfl, (by show 26 ≤ sizeLine; decide), let_atI g1 g2, ?_⟩
        have cl := cutS_length stem none (some (x0 / 26 % 8))
        have cl2 := cutS_length stem (some (x0 / 26 % 8 + 1)) none
        have l1 : (⟨#[97 + ((x2 + 5 * (0 + (i : Int))) % 26).toNat]⟩ : Str).length = 1 := rfl
        have lcat : ∀ a b : Str, (a ++ b).length = a.length + b.length := fun a b => by rw [len_tl, tl_append, List.length_append, ← len_tl, ← len_tl]
        refine ⟨_, rfl, .inl ⟨rfl, _, .inl (.inl hf3)⟩, _, rfl, _, rfl, _, rfl, stem, rfl, (by rw [slen]; decide), _, rfl, _, _, rfl, rfl, (by rw [sizeLine_eq]; omega), _, rfl, _, rfl, _, _, rfl, rfl, _, rfl, stem, rfl, (by rw [slen]; decide), _, _, rfl, rfl, (by rw [lcat, l1, sizeLine_eq]; omega), _, rfl, _, rfl, _, rfl, (by rw [lcat, lcat, l1, sizeLine_eq]; omega), ?_⟩
        refine ⟨f, _, _, rfl, rfl, hf3, (by rw [List.length_map, List.length_map, List.length_range, sizeLine_eq]; omega), ?_⟩
        have ff : r1 ≠ f := ne_of_none hr12 nf
        refine ⟨_, _, rfl, fun b o e => ?_, by rw [upd_ne ff]; exact hr3, ?_⟩
        · rw [upd_ne (ne_of_none e nf0)]
          exact s3 _ _ e
        · rw [upd_same, List.range_succ, List.map_append, List.map_append, List.map_singleton, List.map_singleton, hnm]
      · rintro σ H3 ⟨v1, v2, rfl, s3, hr3, hf3⟩
        refine ⟨_, rfl, kk H3 f ((List.range m).map nm) s3 nf0 hf3 (by rw [List.length_map, List.length_range]) (fun z hz => ?_) (fun a b ea eb => ?_)⟩
        · obtain ⟨k, _, rfl⟩ := List.mem_map.mp hz
          exact nml k
        · have h1 : 1 < m := by
            have q := (List.getElem?_eq_some_iff.mp eb).1
            rw [List.length_map, List.length_range] at q
            exact q
          rw [List.getElem?_map, List.getElem?_range (by omega)] at ea
          rw [List.getElem?_map, List.getElem?_range h1] at eb
          cases ea
          cases eb
          intro e
          have q1 := nat_ 0
          have q2 := nat_ 1
          rw [e, q2] at q1
          have q1 := Option.some.inj q1
          omega
end
end Ev

set_option Elab.async false
set_option linter.all false
set_option maxRecDepth 100000
set_option maxHeartbeats 2000000
/-! The row of a cell. -/
namespace Ev
open PySem PySem.Spec PyProof.Rows L2 He TL
theorem str_ext {a b : Str} (h : tl a = tl b) : a = b := by
  cases a with
  | mk x =>
    cases b with
    | mk y =>
      have h : x.toList = y.toList := h
      rw [Array.toList_inj.mp h]
theorem app3 (a b c : Str) : a ++ b ++ c = a ++ (b ++ c) := str_ext (by rw [tl_append, tl_append, tl_append, tl_append, List.append_assoc])
theorem j2 (a b : Str) : Txt.join " " [a, b] = a ++ " " ++ b := by rw [join_cons, join_one]
theorem j3 (a b c : Str) : Txt.join " " [a, b, c] = a ++ " " ++ b ++ " " ++ c := by
  rw [join_cons, j2, app3, app3, app3, app3, app3]
theorem j4 (a b c d : Str) : Txt.join " " [a, b, c, d] = a ++ " " ++ b ++ " " ++ c ++ " " ++ d := by
  rw [join_cons, j3, app3, app3, app3, app3, app3, app3, app3, app3, app3]
theorem tx_coins (cs : List Int) : (Row.coins cs).text = ("coins " : Str) ++ bits cs := by
  show Txt.join " " [("coins" : Str), bits cs] = _
  rw [j2, show ("coins" : Str) ++ (" " : Str) = "coins " by decide +kernel]
theorem tx_draw (n : Nat) : (Row.draw n).text = ("draw " : Str) ++ num n := by
  show Txt.join " " [("draw" : Str), num n] = _
  rw [j2, show ("draw" : Str) ++ (" " : Str) = "draw " by decide +kernel]
theorem tx_go (z : Str) : (Row.go z).text = ("go " : Str) ++ z := by
  show Txt.join " " [("go" : Str), z] = _
  rw [j2, show ("go" : Str) ++ (" " : Str) = "go " by decide +kernel]
theorem tx_weigher (z : Str) : (Row.weigher z).text = ("weigher " : Str) ++ z := by
  show Txt.join " " [("weigher" : Str), z] = _
  rw [j2, show ("weigher" : Str) ++ (" " : Str) = "weigher " by decide +kernel]
theorem tx_held (z : Str) : (Row.held z).text = ("held " : Str) ++ z := by
  show Txt.join " " [("held" : Str), z] = _
  rw [j2, show ("held" : Str) ++ (" " : Str) = "held " by decide +kernel]
theorem tx_drawer (z : Str) (n : Nat) : (Row.drawer z n).text = ("drawer " : Str) ++ z ++ " " ++ num n := by
  show Txt.join " " [("drawer" : Str), z, num n] = _
  rw [j3, show ("drawer" : Str) ++ (" " : Str) = "drawer " by decide +kernel]
theorem tx_cut (z : Str) (n : Nat) : (Row.cut z n).text = ("cut " : Str) ++ z ++ " " ++ num n := by
  show Txt.join " " [("cut" : Str), z, num n] = _
  rw [j3, show ("cut" : Str) ++ (" " : Str) = "cut " by decide +kernel]
theorem tx_see (z t : Str) : (Row.see z t).text = ("see " : Str) ++ z ++ " " ++ t := by
  show Txt.join " " [("see" : Str), z, t] = _
  rw [j3, show ("see" : Str) ++ (" " : Str) = "see " by decide +kernel]
theorem tx_seew (z t : Str) (n : Nat) : (Row.seew z t n).text = ("see " : Str) ++ z ++ " " ++ t ++ " " ++ num n := by
  show Txt.join " " [("see" : Str), z, t, num n] = _
  rw [j4, show ("see" : Str) ++ (" " : Str) = "see " by decide +kernel]
theorem tx_program (z : Str) {k : Nat} (h : k < 4) : (Row.program z k).text = ("program " : Str) ++ z ++ " " ++ txt k := by
  obtain ⟨t1, t2, t3, t4, t5, t6, t7⟩ := txt_all k h
  show Txt.join " " (("program" : Str) :: z :: tws k) = _
  rw [join_cons]
  cases e : tws k with
  | nil => exact absurd e t5
  | cons a ws =>
    rw [join_cons, ← e, t3, show ("program" : Str) ++ (" " : Str) = "program " by decide +kernel, app3, app3, app3]
theorem txts : ∀ k, k < 4 → [V.str "coin 1 0; give 7", V.str "coin 1 2; give 3; coin 0 3; give 4", V.str "give 5", V.str "coin 1 1; coin 2 0; give 9"][k]? = some (V.str (txt k))
  | 0, _ => by decide +kernel
  | 1, _ => by decide +kernel
  | 2, _ => by decide +kernel
  | 3, _ => by decide +kernel
  | n + 4, h => by omega
theorem join0_bits {cs : List Int} (h : ∀ c ∈ cs, c = 0 ∨ c = 1) : Txt.join "" (cs.map fun c => Str.ofString (toString c)) = bits cs := by
  refine str_ext ?_
  show (Txt.join "" (cs.map fun c => Str.ofString (toString c))).cps.toList = (bits cs).cps.toList
  rw [join0_tl, bits_tl, List.map_map]
  induction cs with
  | nil => rfl
  | cons c cs ih =>
    have ih := ih fun x hx => h x (List.mem_cons_of_mem _ hx)
    show (Str.ofString (toString c)).cps.toList ++ _ = _
    have e : (Str.ofString (toString c)).cps.toList = [48 + c.toNat] := by
      rcases h c List.mem_cons_self with z | z
      · subst z; decide +kernel
      · subst z; decide +kernel
    rw [e]
    show (48 + c.toNat) :: _ = (48 + c.toNat) :: _
    congr 1
theorem keep_last {G : Hp} {C J q : Addr} {o1 o2 o3 o : HO} (n : G C = none) (nJ : upd G C o1 J = none) (e : G q = some o) : upd (upd (upd G C o1) J o2) C o3 q = some o := by
  rw [upd_ne (ne_of_none e n)]
  exact ((Same.refl _).upd nJ) _ _ (((Same.refl _).upd n) _ _ e)
def sp__law_row (_K : PySem.W.Frag) : Sp := fun vs H Q _ => ∃ (a b : Addr) (n0 n1 t0 t1 t2 : Str) (c : Int), vs = [.ref a, .ref b, .int c] ∧ H a = some (.lst [.str n0, .str n1]) ∧ H b = some (.lst [.str t0, .str t1, .str t2]) ∧ NameB n0 = true ∧ NameB n1 = true ∧ n0 ≠ n1 ∧ NameB t0 = true ∧ NameB t1 = true ∧ NameB t2 = true ∧
  ∀ (H' : Hp) (r : Row), Same H H' → RowW r → Q (.str r.text) H'
theorem seq_named7 {A1 A2 A3 A4 A5 A6 A7 R : TS} {D : Ends} {σ : L2.St} {H : Hp} (Cd : L2.St → Hp → Prop) (hrest : ∀ σ' H', Cd σ' H' → R D σ' H') (h : ∀ M : L2.St → Hp → Prop, (∀ σ' H', Cd σ' H' → M σ' H') → tSeq A1 (tSeq A2 (tSeq A3 (tSeq A4 (tSeq A5 (tSeq A6 (fun D' => A7 { D' with nx := M })))))) D σ H) :
    tSeq A1 (tSeq A2 (tSeq A3 (tSeq A4 (tSeq A5 (tSeq A6 (tSeq A7 R)))))) D σ H := h (R D) hrest
section
variable {P : Program} {w : World} {K : PySem.W.Frag} {mg : Str → Option Value} {base h : Heap}
abbrev N__law_row : List Str := ["_law_names_here", "_law_things", "_law_cell_here", "_law_name", "_law_part", "_law_thing", "_law_texts", "_law_some", "_law_many", "_law_most", "_law_weight", "_law_rows", "_law_x", "_law_coin"]
abbrev P__law_row : List Str := ["_law_names_here", "_law_things", "_law_cell_here"]
theorem sc__law_row : FnScope N__law_row P__law_row (defScope s__law_row) := ⟨rfl, rfl, rfl, by decide +kernel, rfl, by decide +kernel, by decide +kernel⟩
theorem ok__law_row (T : Tx w K mg h) : Cal P w K mg base 2 (ga K "_law_row") (sp__law_row K) := by
  obtain ⟨fd, F⟩ := T.fn__law_row
  refine okOf F sc__law_row (fun _ _ _ _ _ _ us hl => match us, hl with | [_, _, _], _ => rfl) (fun vs H Q E h => ?_) (fun cdv A outer s H vs Q E hr hsp => ?_)
  · repeat (first | (obtain ⟨h1, _⟩ := h; subst h1; rfl) | (obtain ⟨_, h⟩ := h))
  · obtain ⟨a, b, n0, n1, t0, t1, t2, c, rfl, ha, hb, hn0, hn1, hne, ht0, ht1, ht2, kk⟩ := hsp
    refine ⟨_, (pss_cons (ps_set (i := 3) sc__law_row.nd rfl (Or.inl rfl) (pe_ix ix_list (pv 0) (pe_op op_mod (pe_op op_fdiv (pv 2) pe_int) pe_int) (fun _ _ => rfl)))
        (pss_cons (ps_set (i := 4) sc__law_row.nd rfl (Or.inl rfl) (pe_op op_fdiv (pv 2) pe_int))
        (pss_cons (ps_set (i := 5) sc__law_row.nd rfl (Or.inl rfl) (pe_ix ix_list (pv 1) (pe_op op_mod (pv 4) pe_int) (fun _ _ => rfl)))
        (pss_cons (ps_set (i := 6) sc__law_row.nd rfl (Or.inl rfl) (pe_lst (pa_cons pe_str (pa_cons pe_str (pa_cons pe_str (pa_cons pe_str pa_nil))))))
        (pss_cons (ps_setLc (i := 7) (g := _) (own := [("_law_x", 12)]) rfl sc__law_row.nd rfl rfl (sw_true rfl rfl rfl (by decide +kernel)) (pi_list (pc_f (ok__law_numbers T) hr (by decide) T.gl__law_numbers tkE (pa_cons (pe_op op_fdiv (pv 4) pe_int) (pa_cons (pe_op op_add pe_int (pe_op op_mod (pv 4) (pe_ix ix_list (pe_lst (pa_cons pe_int (pa_cons pe_int pa_nil))) (pe_callTy call_int1 (by rfl) T.fr_int boot_int (pa_cons (pe_cmpR op_eq (pe_op op_mod (pe_op op_fdiv (pv 4) pe_int) pe_int) pe_int (nomark _)) pa_nil)) (fun _ _ => rfl)))) pa_nil)))) (blkOk_by (own := [("_law_x", 12)]) (N := N__law_row) (sc := defScope s__law_row) (by decide +kernel)) (fun _ _ _ _ _ => (pg_name (i := 12) sc__law_row.nd rfl (Or.inl rfl))) (fun _ _ _ _ _ => pts_nil) (fun _ _ _ _ _ => (pe_op op_mod (pe_op op_fdiv (pv 12) pe_int) pe_int)))
        (pss_cons (ps_set (i := 8) sc__law_row.nd rfl (Or.inl rfl) (pe_op op_mod (pv 4) pe_int))
        (pss_cons (ps_if (pt_cmpR op_eq (pe_op op_mod (pe_op op_fdiv (pv 4) pe_int) pe_int) pe_int (nomark _))
          (pss_one (ps_set (i := 8) sc__law_row.nd rfl (Or.inl rfl) (pe_op op_mod (pe_op op_mul (pv 4) pe_int) (pe_op op_pow pe_int pe_int))))
          pss_nil)
        (pss_cons (ps_set (i := 9) sc__law_row.nd rfl (Or.inl rfl) (pe_ix ix_list (pe_lst (pa_cons (pe_op op_mod (pv 4) pe_int) (pa_cons (pe_op op_mod (pv 4) pe_int) (pa_cons (pe_op op_mod (pv 4) pe_int) (pa_cons pe_int pa_nil))))) (pe_op op_mod (pe_op op_fdiv (pv 4) pe_int) pe_int) (fun _ _ => rfl)))
        (pss_cons (ps_set (i := 10) sc__law_row.nd rfl (Or.inl rfl) (pe_ix ix_list (pe_lst (pa_cons (pe_op op_mod (pe_op op_fdiv (pv 4) pe_int) pe_int) (pa_cons (pe_op op_mod (pe_op op_fdiv (pv 4) pe_int) pe_int) (pa_cons (pe_op op_mod (pe_op op_fdiv (pv 4) pe_int) pe_int) (pa_cons (pe_op op_mod (pe_op op_mul (pv 4) pe_int) (pe_op op_pow pe_int pe_int)) pa_nil))))) (pe_op op_mod (pe_op op_fdiv (pv 4) pe_int) pe_int) (fun _ _ => rfl)))
        (pss_cons (ps_set (i := 11) sc__law_row.nd rfl (Or.inl rfl) (pe_lst (pa_cons (pe_op op_add_str pe_str (pe_join pe_str (pe_lc (own := [("_law_coin", 13)]) rfl sc__law_row.nd (pi_list (pv 7)) (blkOk_by (own := [("_law_coin", 13)]) (N := N__law_row) (sc := defScope s__law_row) (by decide +kernel)) (fun _ _ _ _ _ => (pg_name (i := 13) sc__law_row.nd rfl (Or.inl rfl))) (fun _ _ _ _ _ => pts_nil) (fun _ _ _ _ _ => (pe_callTy call_str_int (by rfl) T.fr_str boot_str (pa_cons (pv 13) pa_nil)))))) (pa_cons (pe_op op_add_str pe_str (pe_callTy call_str_int (by rfl) T.fr_str boot_str (pa_cons (pv 8) pa_nil))) (pa_cons (pe_op op_add_str pe_str (pv 3)) pa_nil)))))
        (pss_cons (ps_set (i := 11) sc__law_row.nd rfl (Or.inl rfl) (pe_op op_cat (pv 11) (pe_lst (pa_cons (pe_op op_add_str (pe_op op_add_str (pe_op op_add_str pe_str (pv 3)) pe_str) (pe_ix ix_list (pv 6) (pe_op op_mod (pv 4) pe_int) (fun _ _ => rfl))) (pa_cons (pe_op op_add_str (pe_op op_add_str (pe_op op_add_str pe_str (pv 3)) pe_str) (pe_callTy call_str_int (by rfl) T.fr_str boot_str (pa_cons (pv 9) pa_nil))) pa_nil)))))
        (pss_cons (ps_set (i := 11) sc__law_row.nd rfl (Or.inl rfl) (pe_op op_cat (pv 11) (pe_lst (pa_cons (pe_op op_add_str pe_str (pv 3)) (pa_cons (pe_op op_add_str (pe_op op_add_str (pe_op op_add_str pe_str (pv 3)) pe_str) (pv 5)) pa_nil)))))
        (pss_cons (ps_set (i := 11) sc__law_row.nd rfl (Or.inl rfl) (pe_op op_cat (pv 11) (pe_lst (pa_cons (pe_op op_add_str (pe_op op_add_str (pe_op op_add_str (pe_op op_add_str (pe_op op_add_str pe_str (pv 3)) pe_str) (pv 5)) pe_str) (pe_callTy call_str_int (by rfl) T.fr_str boot_str (pa_cons (pv 10) pa_nil))) pa_nil))))
        (pss_cons (ps_set (i := 11) sc__law_row.nd rfl (Or.inl rfl) (pe_op op_cat (pv 11) (pe_lst (pa_cons (pe_op op_add_str pe_str (pv 3)) (pa_cons (pe_op op_add_str (pe_op op_add_str (pe_op op_add_str pe_str (pv 3)) pe_str) (pe_callTy call_str_int (by rfl) T.fr_str boot_str (pa_cons (pv 9) pa_nil))) pa_nil)))))
        (pss_cons (ps_expr (pe_bm PySem.F.plainAttrs_list PySem.F.slot_list_append PySem.F.type_list_append mt_append (pv 11) (pa_cons (pe_join pe_str (pe_lst (pa_cons pe_str (pa_cons (pe_ix ix_list (pv 0) (pe_op op_mod (pv 4) pe_int) (fun _ _ => rfl)) (pa_cons (pv 3) (pa_cons (pe_ix ix_list (pv 0) (pe_op op_sub pe_int (pe_op op_mod (pe_op op_fdiv (pv 2) pe_int) pe_int)) (fun _ _ => rfl)) pa_nil)))))) pa_nil)))
        (pss_one (ps_ret (pe_ix ix_list (pv 11) (pe_op op_mod (pv 2) pe_int) (fun _ _ => rfl))))))))))))))))))), ?_⟩
    have e2 := Int.emod_nonneg (c / 11) (show (2 : Int) ≠ 0 by decide)
    have e3 := Int.emod_lt_of_pos (c / 11) (show (0 : Int) < 2 by decide)
    -- the name and the other one
    obtain ⟨nm, ot, hnm, hot, gnm, got, gne⟩ : ∃ nm ot : Str, atI [V.str n0, .str n1] (c / 11 % 2) = some (.str nm) ∧ atI [V.str n0, .str n1] (1 - c / 11 % 2) = some (.str ot) ∧ NameB nm = true ∧ NameB ot = true ∧ nm ≠ ot := by
      rcases (by omega : c / 11 % 2 = 0 ∨ c / 11 % 2 = 1) with z | z
      · rw [z]; exact ⟨n0, n1, rfl, rfl, hn0, hn1, hne⟩
      · rw [z]; exact ⟨n1, n0, rfl, rfl, hn1, hn0, fun e => hne e.symm⟩
    have p0 := Int.emod_nonneg (c / 22) (show (3 : Int) ≠ 0 by decide)
    have p1 := Int.emod_lt_of_pos (c / 22) (show (0 : Int) < 3 by decide)
    obtain ⟨th, hth, gth⟩ : ∃ th : Str, atI [V.str t0, .str t1, .str t2] (c / 22 % 3) = some (.str th) ∧ NameB th = true := by
      rcases (by omega : c / 22 % 3 = 0 ∨ c / 22 % 3 = 1 ∨ c / 22 % 3 = 2) with z | z | z
      · rw [z]; exact ⟨t0, rfl, ht0⟩
      · rw [z]; exact ⟨t1, rfl, ht1⟩
      · rw [z]; exact ⟨t2, rfl, ht2⟩
    refine seq_named7 (fun σ' H1 => ∃ (tx r7 : Addr) (cs : List Int) (mv : Int), σ' = [some (.ref a), some (.ref b), some (.int c), some (.str nm), some (.int (c / 22)), some (.str th), some (.ref tx), some (.ref r7), some (.int mv), none, none, none, none, none] ∧ Same H H1 ∧ H1 tx = some (.lst [.str "coin 1 0; give 7", .str "coin 1 2; give 3; coin 0 3; give 4", .str "give 5", .str "coin 1 1; coin 2 0; give 9"]) ∧ H1 r7 = some (.lst (cs.map .int)) ∧ (∀ x ∈ cs, x = 0 ∨ x = 1) ∧ 1 ≤ cs.length ∧ cs.length ≤ 60 ∧ 0 ≤ mv ∧ mv < 10 ^ 6) (fun σ' H1 hC => ?_) (fun M hM => ?_)
    rotate_left
    · -- the first seven
      refine ⟨_, rfl, _, rfl, _, _, rfl, rfl, ⟨by decide, by decide⟩, _, _, rfl, rfl, (by show (0 : Int) < 2; decide), a, _, _, _, rfl, rfl, SqL.of ha, hnm, ?_⟩
      refine ⟨_, rfl, _, _, rfl, rfl, ⟨by decide, by decide⟩, ?_⟩
      refine ⟨_, rfl, _, rfl, _, _, rfl, rfl, (by show (0 : Int) < 3; decide), b, _, _, _, rfl, rfl, SqL.of hb, hth, ?_⟩
      refine ⟨by show 4 ≤ sizeLine; decide, fun tx ntx => ?_⟩
      have s1 : Same H (upd H tx (.lst [.str "coin 1 0; give 7", .str "coin 1 2; give 3; coin 0 3; give 4", .str "give 5", .str "coin 1 1; coin 2 0; give 9"])) := (Same.refl H).upd ntx
      have w0 := Int.emod_nonneg (c / 22 / 16) (show (4 : Int) ≠ 0 by decide)
      have w1 := Int.emod_lt_of_pos (c / 22 / 16) (show (0 : Int) < 4 by decide)
      obtain ⟨d, hd, d10⟩ : ∃ d : Int, atI [V.int 10, V.int 60] (b2i (decide (V.int (c / 22 / 16 % 4) = V.int 2))) = some (.int d) ∧ (d = 10 ∨ d = 60) := by
        by_cases z : c / 22 / 16 % 4 = 2
        · rw [decide_eq_true (vint_eq.mpr z)]; exact ⟨60, rfl, .inr rfl⟩
        · rw [decide_eq_false fun e => z (vint_eq.mp e)]; exact ⟨10, rfl, .inl rfl⟩
      have dpos : 0 < d := by omega
      have g0 := Int.emod_nonneg (c / 22) (show d ≠ 0 by omega)
      have g1 := Int.emod_lt_of_pos (c / 22) dpos
      obtain ⟨n, hn⟩ : ∃ n : Nat, 1 + c / 22 % d = (n : Int) := ⟨(1 + c / 22 % d).toNat, by omega⟩
      refine ⟨_, rfl, _, _, rfl, rfl, ⟨by decide, by decide⟩, _, rfl, by show 2 ≤ sizeLine; decide, fun L nL => ?_⟩
      refine ⟨_, rfl, _, _, rfl, rfl, ⟨by decide, by decide⟩, _, _, rfl, rfl, (by show (0 : Int) < 4; decide), rfl, .inr ⟨_, rfl, L, _, _, .int d, rfl, rfl, SqL.of upd_same, hd, _, _, rfl, rfl, dpos, _, _, rfl, rfl, ?_⟩⟩
      have s2 := s1.upd (o := .lst [.int 10, .int 60]) nL
      refine ⟨c / 22 / 10, n, (by show [V.int (c / 22 / 10), V.int (1 + c / 22 % d)] = _; rw [hn]), by omega, fun H3 r xs s3 nr hr3 hx hxs => ?_⟩
      refine ⟨r, rfl, ⟨_, SqL.of hr3⟩, fun D nD => lc_mapL (xs := xs) (e := V.int) (f := fun x => .int (x / 64 % 2)) (SqL.of hr3) nD (by omega) (fun x H4 hx4 s4 R Sw hR => ?_) fun H4 s4 hl4 => ?_⟩
      · exact ⟨rfl, _, rfl, _, _, rfl, rfl, ⟨by decide, by decide⟩, _, _, rfl, rfl, (by show (0 : Int) < 2; decide), hR _ (Same.refl _)⟩
      have s5 := (s2.trans s3).trans s4
      have htx : H4 tx = some (.lst [.str "coin 1 0; give 7", .str "coin 1 2; give 3; coin 0 3; give 4", .str "give 5", .str "coin 1 1; coin 2 0; give 9"]) := s4 _ _ (s3 _ _ (by rw [upd_ne (ne_of_none upd_same nL)]; exact upd_same))
      have fin : ∀ mv : Int, 0 ≤ mv → mv < 10 ^ 6 → M [some (.ref a), some (.ref b), some (.int c), some (.str nm), some (.int (c / 22)), some (.str th), some (.ref tx), some (.ref D), some (.int mv), none, none, none, none, none] H4 := fun mv m0 m1 => by
        refine hM _ _ ⟨tx, D, xs.map fun x => x / 64 % 2, mv, rfl, s5, htx, by rw [hl4, List.map_map]; rfl, fun y hy => ?_, by rw [List.length_map]; omega, by rw [List.length_map]; omega, m0, m1⟩
        obtain ⟨x, _, rfl⟩ := List.mem_map.mp hy
        omega
      have h0 := Int.emod_nonneg (c / 22) (show (10 : Int) ≠ 0 by decide)
      have h1 := Int.emod_lt_of_pos (c / 22) (show (0 : Int) < 10 by decide)
      refine ⟨_, rfl, _, _, rfl, rfl, (by show (0 : Int) < 10; decide), ?_⟩
      refine ⟨_, rfl, _, _, rfl, rfl, ⟨by decide, by decide⟩, _, _, rfl, rfl, (by show (0 : Int) < 4; decide), rfl, _, rfl, ?_⟩
      refine iteVi (fun h => ?_) (fun h => ?_)
      · refine ⟨_, rfl, _, _, rfl, rfl, .inr ⟨by decide, by decide⟩, 10, 6, rfl, rfl, ⟨by decide, by decide, by decide⟩, _, _, rfl, rfl, (by show (0 : Int) < 10 ^ 6; decide), ?_⟩
        exact fin _ (Int.emod_nonneg _ (by decide)) (Int.emod_lt_of_pos _ (by decide))
      · exact fin _ h0 (by omega)
    · obtain ⟨tx, r7, cs, mv, rfl, s1, htx, hr7, hcs, c1, c60, m0, m1⟩ := hC
      have w0 := Int.emod_nonneg (c / 22 / 16) (show (4 : Int) ≠ 0 by decide)
      have w1 := Int.emod_lt_of_pos (c / 22 / 16) (show (0 : Int) < 4 by decide)
      have a40 := Int.emod_nonneg (c / 22) (show (4 : Int) ≠ 0 by decide)
      have a41 := Int.emod_lt_of_pos (c / 22) (show (0 : Int) < 4 by decide)
      have a30 := Int.emod_nonneg (c / 22) (show (30 : Int) ≠ 0 by decide)
      have a31 := Int.emod_lt_of_pos (c / 22) (show (0 : Int) < 30 by decide)
      have b50 := Int.emod_nonneg (c / 22 / 3) (show (5 : Int) ≠ 0 by decide)
      have b51 := Int.emod_lt_of_pos (c / 22 / 3) (show (0 : Int) < 5 by decide)
      have b10 := Int.emod_nonneg (c / 22 / 3) (show (100 : Int) ≠ 0 by decide)
      have b11 := Int.emod_lt_of_pos (c / 22 / 3) (show (0 : Int) < 100 by decide)
      have b90 := Int.emod_nonneg (c / 22 * 48271) (show (1000000000 : Int) ≠ 0 by decide)
      have b91 := Int.emod_lt_of_pos (c / 22 * 48271) (show (0 : Int) < 1000000000 by decide)
      have ofI : ∀ x : Int, 0 ≤ x → some (V.int x) = some (V.int ((x.toNat : Nat) : Int)) := fun x h => by rw [Int.toNat_of_nonneg h]
      obtain ⟨mo, hmo, lmo⟩ : ∃ mo : Nat, atI [V.int (c / 22 % 4), .int (c / 22 % 4), .int (c / 22 % 30), .int 999999999999] (c / 22 / 16 % 4) = some (.int mo) ∧ mo < 10 ^ 12 := by
        rcases (by omega : c / 22 / 16 % 4 = 0 ∨ c / 22 / 16 % 4 = 1 ∨ c / 22 / 16 % 4 = 2 ∨ c / 22 / 16 % 4 = 3) with z | z | z | z
        · rw [z]; exact ⟨(c / 22 % 4).toNat, ofI _ a40, by omega⟩
        · rw [z]; exact ⟨(c / 22 % 4).toNat, ofI _ a40, by omega⟩
        · rw [z]; exact ⟨(c / 22 % 30).toNat, ofI _ a30, by omega⟩
        · rw [z]; exact ⟨999999999999, rfl, by decide⟩
      obtain ⟨wt, hwt, lwt⟩ : ∃ wt : Nat, atI [V.int (c / 22 / 3 % 5), .int (c / 22 / 3 % 5), .int (c / 22 / 3 % 100), .int (c / 22 * 48271 % 10 ^ 9)] (c / 22 / 16 % 4) = some (.int wt) ∧ wt < 10 ^ 12 := by
        rcases (by omega : c / 22 / 16 % 4 = 0 ∨ c / 22 / 16 % 4 = 1 ∨ c / 22 / 16 % 4 = 2 ∨ c / 22 / 16 % 4 = 3) with z | z | z | z
        · rw [z]; exact ⟨(c / 22 / 3 % 5).toNat, ofI _ b50, by omega⟩
        · rw [z]; exact ⟨(c / 22 / 3 % 5).toNat, ofI _ b50, by omega⟩
        · rw [z]; exact ⟨(c / 22 / 3 % 100).toNat, ofI _ b10, by omega⟩
        · rw [z]; exact ⟨(c / 22 * 48271 % 1000000000).toNat, ofI _ b90, by omega⟩
      obtain ⟨mw, rfl⟩ : ∃ mw : Nat, mv = (mw : Int) := ⟨mv.toNat, by omega⟩
      obtain ⟨tk, htk⟩ : ∃ tk : Nat, c / 22 % 4 = (tk : Int) := ⟨(c / 22 % 4).toNat, by omega⟩
      have tk4 : tk < 4 := by omega
      have htxk : atI [V.str "coin 1 0; give 7", .str "coin 1 2; give 3; coin 0 3; give 4", .str "give 5", .str "coin 1 1; coin 2 0; give 9"] (c / 22 % 4) = some (.str (txt tk)) := by
        rw [htk, atI_nat]
        exact txts tk tk4
      obtain ⟨pa, hpa, gpa⟩ : ∃ pa : Str, atI [V.str n0, .str n1] (c / 22 % 2) = some (.str pa) ∧ NameB pa = true := by
        rcases (by omega : c / 22 % 2 = 0 ∨ c / 22 % 2 = 1) with z | z
        · rw [z]; exact ⟨n0, rfl, hn0⟩
        · rw [z]; exact ⟨n1, rfl, hn1⟩
      refine ⟨_, rfl, _, _, rfl, rfl, (by show (0 : Int) < 4; decide), _, rfl, _, _, rfl, rfl, (by show (0 : Int) < 4; decide), _, rfl, _, _, rfl, rfl, (by show (0 : Int) < 30; decide), by show 4 ≤ sizeLine; decide, fun L1 nL1 => ?_⟩
      refine ⟨_, rfl, _, _, rfl, rfl, ⟨by decide, by decide⟩, _, _, rfl, rfl, (by show (0 : Int) < 4; decide), L1, _, _, _, rfl, rfl, SqL.of upd_same, hmo, ?_⟩
      have s2 := s1.upd (o := .lst [.int (c / 22 % 4), .int (c / 22 % 4), .int (c / 22 % 30), .int 999999999999]) nL1
      refine ⟨_, rfl, _, _, rfl, rfl, ⟨by decide, by decide⟩, _, _, rfl, rfl, (by show (0 : Int) < 5; decide), _, rfl, _, _, rfl, rfl, ⟨by decide, by decide⟩, _, _, rfl, rfl, (by show (0 : Int) < 5; decide), _, rfl, _, _, rfl, rfl, ⟨by decide, by decide⟩, _, _, rfl, rfl, (by show (0 : Int) < 100; decide), _, rfl, _, _, rfl, rfl, .inr ⟨by decide, by decide⟩, 10, 9, rfl, rfl, ⟨by decide, by decide, by decide⟩, _, _, rfl, rfl, (by show (0 : Int) < 10 ^ 9; decide), by show 4 ≤ sizeLine; decide, fun L2 nL2 => ?_⟩
      refine ⟨_, rfl, _, _, rfl, rfl, ⟨by decide, by decide⟩, _, _, rfl, rfl, (by show (0 : Int) < 4; decide), L2, _, _, _, rfl, rfl, SqL.of upd_same, hwt, ?_⟩
      have s3 := s2.upd (o := .lst [.int (c / 22 / 3 % 5), .int (c / 22 / 3 % 5), .int (c / 22 / 3 % 100), .int (c / 22 * 48271 % 10 ^ 9)]) nL2
      have hr73 := nL2
      have up2 : ∀ (q : Addr) (o : HO), H1 q = some o → upd (upd H1 L1 (.lst [.int (c / 22 % 4), .int (c / 22 % 4), .int (c / 22 % 30), .int 999999999999])) L2 (.lst [.int (c / 22 / 3 % 5), .int (c / 22 / 3 % 5), .int (c / 22 / 3 % 100), .int (c / 22 * 48271 % 10 ^ 9)]) q = some o := fun q o e => ((Same.refl H1).upd nL1).upd nL2 q o e
      refine ⟨⟨_, rfl⟩, _, rfl, r7, rfl, ⟨_, SqL.of (up2 _ _ hr7)⟩, fun D nD => lc_mapL (xs := cs) (e := V.int) (f := fun x => .str (Str.ofString (toString x))) (SqL.of (up2 _ _ hr7)) nD (by omega) (fun x H4 hx4 s4 R Sw hR => ?_) fun H4 s4 hl4 => ?_⟩
      · exact ⟨rfl, _, rfl, x, rfl, small_log (by rcases hcs x hx4 with z | z <;> subst z <;> decide), hR _ (Same.refl _)⟩
      have s5 := s3.trans s4
      have up4 : ∀ (q : Addr) (o : HO), H1 q = some o → H4 q = some o := fun q o e => s4 _ _ (up2 _ _ e)
      have lcat : ∀ a b : Str, (a ++ b).length = a.length + b.length := fun a b => by rw [len_tl, tl_append, List.length_append, ← len_tl, ← len_tl]
      have lits : ("coins " : Str).length = 6 ∧ ("draw " : Str).length = 5 ∧ ("go " : Str).length = 3 ∧ ("program " : Str).length = 8 ∧ (" " : Str).length = 1 ∧ ("drawer " : Str).length = 7 ∧ ("weigher " : Str).length = 8 ∧ ("see " : Str).length = 4 ∧ ("held " : Str).length = 5 ∧ ("cut " : Str).length = 4 ∧ ("pour" : Str).length = 4 := by decide +kernel
      have lnm := name_len gnm
      have lot := name_len got
      have lth := name_len gth
      have lpa := name_len gpa
      have lmo' : (Str.ofString (toString ((mo : Nat) : Int))).length ≤ 12 := num_len12 lmo
      have lwt' : (Str.ofString (toString ((wt : Nat) : Int))).length ≤ 12 := num_len12 lwt
      have lmw' : (Str.ofString (toString ((mw : Nat) : Int))).length ≤ 12 := num_len12 (by omega)
      have ltx : (txt tk).length ≤ 100 := (txt_all tk tk4).2.1
      have lbits : (bits cs).length = cs.length := by rw [len_tl]; show (bits cs).cps.toList.length = _; rw [bits_tl, List.length_map]
      have lg : ∀ n : Nat, n < 10 ^ 12 → ((n : Nat) : Int).natAbs.log2 < 1920 := fun n h => small_log (by rw [Int.natAbs_natCast]; exact Nat.lt_trans h (by decide))
      refine ⟨_, D, cs.map fun x => Str.ofString (toString x), rfl, rfl, .inl (SqL.of (by rw [hl4, List.map_map]; rfl)), ?_, ?_⟩
      · have : ∀ xs : List Int, (∀ x ∈ xs, x = 0 ∨ x = 1) → ((xs.map fun x => Str.ofString (toString x)).map (·.length)).sum = xs.length := by
          intro xs
          induction xs with
          | nil => intro _; rfl
          | cons x xs ih =>
            intro h
            have e : (Str.ofString (toString x)).length = 1 := by
              rcases h x List.mem_cons_self with z | z
              · subst z; decide +kernel
              · subst z; decide +kernel
            rw [List.map_cons, List.map_cons, List.sum_cons, ih fun y hy => h y (List.mem_cons_of_mem _ hy), e, List.length_cons]
            omega
        rw [this cs hcs, List.length_map, show ("" : Str).length = 0 by decide +kernel]
        omega
      rw [join0_bits hcs]
      refine ⟨_, _, rfl, rfl, by simp only [lcat, sizeLine_eq]; omega, _, rfl, _, rfl, lg mw (by omega), _, _, rfl, rfl, by simp only [lcat, sizeLine_eq]; omega, _, rfl, _, _, rfl, rfl, by simp only [lcat, sizeLine_eq]; omega, by show 3 ≤ sizeLine; decide, fun A1 nA1 => ?_⟩
      have e1 := s5.upd (o := .lst [.str ("coins " ++ bits cs), .str ("draw " ++ Str.ofString (toString ((mw : Nat) : Int))), .str ("go " ++ nm)]) nA1
      refine ⟨_, rfl, _, rfl, _, _, rfl, rfl, by simp only [lcat, sizeLine_eq]; omega, _, _, rfl, rfl, by simp only [lcat, sizeLine_eq]; omega, _, rfl, _, rfl, _, _, rfl, rfl, (by show (0 : Int) < 4; decide), tx, _, _, _, rfl, rfl, SqL.of (((Same.refl H4).upd nA1) _ _ (up4 _ _ htx)), htxk, _, _, rfl, rfl, by simp only [lcat, sizeLine_eq]; omega,
        _, rfl, _, _, rfl, rfl, by simp only [lcat, sizeLine_eq]; omega, _, _, rfl, rfl, by simp only [lcat, sizeLine_eq]; omega, _, rfl, _, rfl, lg mo lmo, _, _, rfl, rfl, by simp only [lcat, sizeLine_eq]; omega, by show 2 ≤ sizeLine; decide, fun B1 nB1 => ?_⟩
      refine ⟨_, B1, _, _, rfl, rfl, ((Same.refl _).upd nB1) _ _ upd_same, upd_same, (by show 3 + 2 ≤ sizeLine; decide), fun C1 nC1 => ?_⟩
      refine ⟨_, rfl, _, rfl, _, _, rfl, rfl, by simp only [lcat, sizeLine_eq]; omega, _, rfl, _, _, rfl, rfl, by simp only [lcat, sizeLine_eq]; omega, _, _, rfl, rfl, by simp only [lcat, sizeLine_eq]; omega, _, rfl, _, _, rfl, rfl, by simp only [lcat, sizeLine_eq]; omega, by show 2 ≤ sizeLine; decide, fun B2 nB2 => ?_⟩
      refine ⟨_, B2, _, _, rfl, rfl, ((Same.refl _).upd nB2) _ _ upd_same, upd_same, (by show 5 + 2 ≤ sizeLine; decide), fun C2 nC2 => ?_⟩
      refine ⟨_, rfl, _, rfl, _, _, rfl, rfl, by simp only [lcat, sizeLine_eq]; omega, _, _, rfl, rfl, by simp only [lcat, sizeLine_eq]; omega, _, rfl, _, _, rfl, rfl, by simp only [lcat, sizeLine_eq]; omega, _, _, rfl, rfl, by simp only [lcat, sizeLine_eq]; omega, _, rfl, _, rfl, lg wt lwt, _, _, rfl, rfl, by simp only [lcat, sizeLine_eq]; omega, by show 1 ≤ sizeLine; decide, fun B3 nB3 => ?_⟩
      refine ⟨_, B3, _, _, rfl, rfl, ((Same.refl _).upd nB3) _ _ upd_same, upd_same, (by show 7 + 1 ≤ sizeLine; decide), fun C3 nC3 => ?_⟩
      refine ⟨_, rfl, _, rfl, _, _, rfl, rfl, by simp only [lcat, sizeLine_eq]; omega, _, rfl, _, _, rfl, rfl, by simp only [lcat, sizeLine_eq]; omega, _, _, rfl, rfl, by simp only [lcat, sizeLine_eq]; omega, _, rfl, _, rfl, lg mo lmo, _, _, rfl, rfl, by simp only [lcat, sizeLine_eq]; omega, by show 2 ≤ sizeLine; decide, fun B4 nB4 => ?_⟩
      refine ⟨_, B4, _, _, rfl, rfl, ((Same.refl _).upd nB4) _ _ upd_same, upd_same, (by show 8 + 2 ≤ sizeLine; decide), fun C4 nC4 => ?_⟩
      refine ⟨_, rfl, .inl ⟨rfl, _, SqL.of upd_same⟩, ⟨_, rfl⟩, _, rfl, _, rfl, _, _, rfl, rfl, (by show (0 : Int) < 2; decide), a, _, _, _, rfl, rfl, SqL.of (((((((((((Same.refl H4).upd nA1).upd nB1).upd nC1).upd nB2).upd nC2).upd nB3).upd nC3).upd nB4).upd nC4) _ _ (s5 _ _ ha)), hpa, _, rfl, _, rfl, _, rfl, _, _, rfl, rfl, ⟨by decide, by decide⟩, _, _, rfl, rfl, (by show (0 : Int) < 2; decide), _, _, rfl, rfl, a, _, _, _, rfl, rfl, SqL.of (((((((((((Same.refl H4).upd nA1).upd nB1).upd nC1).upd nB2).upd nC2).upd nB3).upd nC3).upd nB4).upd nC4) _ _ (s5 _ _ ha)), hot, by show 4 ≤ sizeLine; decide, fun J nJ => ?_⟩
      refine ⟨_, J, [("pour" : Str), pa, nm, ot], rfl, rfl, .inl (SqL.of upd_same), by simp only [List.map_cons, List.map_nil, List.sum_cons, List.sum_nil, List.length_cons, List.length_nil]; omega, ?_⟩
      refine ⟨C4, _, _, rfl, rfl, ((Same.refl _).upd nJ) _ _ upd_same, by show 10 < sizeLine; decide, ?_⟩
      have q0 := Int.emod_nonneg c (show (11 : Int) ≠ 0 by decide)
      have q1 := Int.emod_lt_of_pos c (show (0 : Int) < 11 by decide)
      have fin : ∃ r : Row, RowW r ∧ atI [V.str ("coins " ++ bits cs), .str ("draw " ++ num mw), .str ("go " ++ nm), .str ("program " ++ nm ++ " " ++ txt tk), .str ("drawer " ++ nm ++ " " ++ num mo), .str ("weigher " ++ nm), .str ("see " ++ nm ++ " " ++ th), .str ("see " ++ nm ++ " " ++ th ++ " " ++ num wt), .str ("held " ++ nm), .str ("cut " ++ nm ++ " " ++ num mo), .str (Txt.join " " [("pour" : Str), pa, nm, ot])] (c % 11) = some (.str r.text) := by
        rcases (by omega : c % 11 = 0 ∨ c % 11 = 1 ∨ c % 11 = 2 ∨ c % 11 = 3 ∨ c % 11 = 4 ∨ c % 11 = 5 ∨ c % 11 = 6 ∨ c % 11 = 7 ∨ c % 11 = 8 ∨ c % 11 = 9 ∨ c % 11 = 10) with z | z | z | z | z | z | z | z | z | z | z <;> rw [z]
        · exact ⟨.coins cs, ⟨⟨(fun z => by rw [z] at c1; exact absurd c1 (by decide)), by omega, hcs⟩, c60⟩, by rw [tx_coins]; rfl⟩
        · exact ⟨.draw mw, (by show mw < 10 ^ 12; omega), by rw [tx_draw]; rfl⟩
        · exact ⟨.go nm, gnm, by rw [tx_go]; rfl⟩
        · exact ⟨.program nm tk, ⟨gnm, tk4⟩, by rw [tx_program nm tk4]; rfl⟩
        · exact ⟨.drawer nm mo, ⟨gnm, lmo⟩, by rw [tx_drawer]; rfl⟩
        · exact ⟨.weigher nm, gnm, by rw [tx_weigher]; rfl⟩
        · exact ⟨.see nm th, ⟨gnm, gth⟩, by rw [tx_see]; rfl⟩
        · exact ⟨.seew nm th wt, ⟨gnm, gth, lwt, fun k e => nomatch e⟩, by rw [tx_seew]; rfl⟩
        · exact ⟨.held nm, gnm, by rw [tx_held]; rfl⟩
        · exact ⟨.cut nm mo, ⟨gnm, lmo⟩, by rw [tx_cut]; rfl⟩
        · exact ⟨.pour pa nm ot, ⟨gpa, gnm, got, gne, fun k1 k2 e _ => nomatch e⟩, rfl⟩
      obtain ⟨r, hr, hra⟩ := fin
      refine ⟨_, rfl, _, rfl, _, _, rfl, rfl, (by show (0 : Int) < 11; decide), C4, _, _, _, rfl, rfl, SqL.of upd_same, hra, ?_⟩
      refine kk _ r (fun q o e => ?_) hr
      exact keep_last nC4 nJ ((((((((((Same.refl H4).upd nA1).upd nB1).upd nC1).upd nB2).upd nC2).upd nB3).upd nC3).upd nB4) _ _ (s5 _ _ e))
end
end Ev

set_option Elab.async false
set_option linter.all false
set_option maxRecDepth 100000
set_option maxHeartbeats 2000000
/-! A row keeps what is small. -/
namespace Ev
open PySem PySem.Spec PyProof.Rows L2 He TL
theorem two_pos (n : Nat) : (0 : Int) < 2 ^ n := Int.pow_pos (by decide)
def Pool.pot (q : Pool) : Int := q.size * 2 ^ q.coins.length
theorem pot_acc {m s X : Int} (hm : 1 ≤ m) (hs : 0 ≤ s) (hX : 0 < X) : m * (s / m * X) ≤ s * X := by
  obtain ⟨d1, d2, d3⟩ := div_mul_le hs hm
  rw [← Int.mul_assoc, Int.mul_comm m (s / m)]
  exact Int.mul_le_mul_of_nonneg_right d1 (Int.le_of_lt hX)
theorem drawP_pot {m : Int} (hm : 1 ≤ m) : ∀ (cs : List Int) (s n a : Int) (q : Pool), 0 ≤ s → drawP m cs s n = some (a, q) → m * q.pot ≤ s * 2 ^ cs.length
  | [], s, n, a, q, hs, h => by
    unfold drawP at h
    split at h
    · cases h
    · split at h
      · cases h
        exact pot_acc hm hs (two_pos _)
      · cases h
  | c :: cs, s, n, a, q, hs, h => by
    have hX := two_pos cs.length
    have e : s * 2 ^ (c :: cs).length = 2 * s * 2 ^ cs.length := by
      rw [List.length_cons, Int.pow_succ, Int.mul_comm (2 ^ cs.length) 2, ← Int.mul_assoc, Int.mul_comm s 2]
    obtain ⟨d1, d2, d3⟩ := div_mul_le hs hm
    have d4 : 0 ≤ s / m * m := Int.mul_nonneg d3 (by omega)
    unfold drawP at h
    split at h
    · rw [e]
      exact drawP_pot hm cs _ _ a q (by omega) h
    · split at h
      · cases h
        exact pot_acc hm hs (two_pos _)
      · have := drawP_pot hm cs _ _ a q (by omega) h
        rw [e]
        exact Int.le_trans this (Int.mul_le_mul_of_nonneg_right (by omega) (Int.le_of_lt hX))
theorem Pool.pot_pos {q : Pool} (ok : q.Ok) : 1 ≤ q.pot := by
  have h1 := ok.one
  have h2 := two_pos q.coins.length
  have := Int.mul_pos (show 0 < q.size by omega) h2
  show 1 ≤ q.size * 2 ^ q.coins.length
  omega
theorem draws_pot : ∀ (ms : List Int) (p q : Pool) (as : List Int), (∀ m ∈ ms, Few m) → p.Ok → p.draws ms = some (as, q) → (2 : Int) ^ (ms.countP fun m => decide (2 ≤ m)) * q.pot ≤ p.pot
  | [], p, q, as, _, ok, h => by
    cases h
    show (1 : Int) * _ ≤ _
    omega
  | m :: ms, p, q, as, hm, ok, h => by
    unfold Pool.draws at h
    split at h
    · cases h
    · rename_i a p1 e1
      have fm := hm m List.mem_cons_self
      obtain ⟨o1, _⟩ := Pool.draw_ok fm ok e1
      have k1 : m * p1.pot ≤ p.pot := drawP_pot fm.1 _ _ _ _ _ (by have := ok.one; omega) e1
      split at h
      · cases h
      · rename_i as1 q1 e2
        cases h
        have k2 := draws_pot ms p1 q as1 (fun z hz => hm z (List.mem_cons_of_mem _ hz)) o1 e2
        have pp := Pool.pot_pos o1
        by_cases h2 : 2 ≤ m
        · rw [List.countP_cons_of_pos (by rw [decide_eq_true h2]), Int.pow_succ, Int.mul_comm (2 ^ _) 2, Int.mul_assoc]
          have := Int.mul_le_mul_of_nonneg_right h2 (show 0 ≤ p1.pot by omega)
          omega
        · rw [List.countP_cons_of_neg (by rw [decide_eq_false h2]; decide)]
          have f1 := fm.1
          rw [show m = 1 by omega, Int.one_mul] at k1
          omega
theorem manysD_count (a b : Nat) (m tog : Int) : (min m tog).toNat ≤ ((manysD a b m tog).countP fun m => decide (2 ≤ m)) + 1 := by
  unfold manysD
  rw [List.countP_append]
  generalize hn : (min m tog).toNat = n
  cases n with
  | zero => omega
  | succ j =>
    have : ((List.range (j + 1)).map fun k => tog - ((k : Nat) : Int)).countP (fun m => decide (2 ≤ m)) ≥ j := by
      rw [List.range_succ, List.map_append, List.countP_append]
      have e : ((List.range j).map fun k => tog - ((k : Nat) : Int)).countP (fun m => decide (2 ≤ m)) = ((List.range j).map fun k => tog - ((k : Nat) : Int)).length := by
        refine List.countP_eq_length.mpr fun x hx => ?_
        obtain ⟨k, hk, rfl⟩ := List.mem_map.mp hx
        have := List.mem_range.mp hk
        exact decide_eq_true (by omega)
      rw [e, List.length_map, List.length_range]
      omega
    omega
theorem pot_top {q : Pool} {N : Nat} (ok : q.Ok) (hN : N ≤ 62) (h : q.coins.length ≤ 60 * N) : q.pot < 2 ^ 3784 := by
  have h1 : q.pot < 2 ^ 64 * 2 ^ q.coins.length := Int.mul_lt_mul_of_pos_right ok.top (two_pos _)
  rw [← Int.pow_add] at h1
  refine Int.lt_of_lt_of_le h1 ?_
  exact_mod_cast Nat.pow_le_pow_right (show 0 < 2 by decide) (show 64 + q.coins.length ≤ 3784 by omega)
theorem few_things {q q' : Pool} {a b N : Nat} {m tog : Int} {as : List Int} (ok : q.Ok) (hN : N ≤ 62) (h : q.coins.length ≤ 60 * N) (hf : ∀ x ∈ manysD a b m tog, Few x) (e : q.draws (manysD a b m tog) = some (as, q')) : (min m tog).toNat ≤ 3785 := by
  have k := draws_pot _ _ _ _ hf ok e
  obtain ⟨ok', _⟩ := Pool.draws_ok hf ok e
  have kp := Pool.pot_pos ok'
  have kt := pot_top ok hN h
  have kc := manysD_count a b m tog
  generalize ((manysD a b m tog).countP fun m => decide (2 ≤ m)) = n at k kc
  have : n ≤ 3784 := by
    refine Nat.le_of_not_lt fun hlt => ?_
    have h1 : (2 : Int) ^ 3784 ≤ 2 ^ n := by exact_mod_cast Nat.pow_le_pow_right (show 0 < 2 by decide) (Nat.le_of_lt hlt)
    have h2 : (2 : Int) ^ n * 1 ≤ 2 ^ n * q'.pot := Int.mul_le_mul_of_nonneg_left kp (Int.le_of_lt (two_pos n))
    rw [Int.mul_one] at h2
    exact absurd (Int.le_trans h1 (Int.le_trans h2 k)) (Int.not_le.mpr kt)
  omega
end Ev

set_option Elab.async false
set_option linter.all false
set_option maxRecDepth 100000
set_option maxHeartbeats 2000000
/-! A row keeps what is small. -/
namespace Ev
open PySem PySem.Spec PyProof.Rows L2 He TL
theorem two_succ (n : Nat) : (2 : Int) ^ (n + 1) = 2 ^ n + 2 ^ n := by rw [Int.pow_succ]; omega
theorem two_one (n : Nat) : (1 : Int) ≤ 2 ^ n := two_pos n
theorem two_62 {n : Nat} (h : n ≤ 62) : (2 : Int) ^ n ≤ 2 ^ 62 := by exact_mod_cast Nat.pow_le_pow_right (show 0 < 2 by decide) h
theorem KpOk.up {N : Nat} {k : Kp} (h : KpOk N k) : KpOk (N + 1) k :=
  ⟨h.c0, by have := h.c1; have := two_succ N; have := two_one N; omega, h.t0, h.t1, h.dr, h.wr, by have := h.ln; omega, h.nm⟩
theorem SxOk.up {N : Nat} {S : Sx} (h : SxOk N S) (hN : N ≤ 61) : SxOk (N + 1) S :=
  ⟨by omega, h.pool, by have := h.few; omega, fun n k e => (h.kp n k e).up, h.pg⟩
theorem sx0 : SxOk 0 s0 := ⟨by decide, ⟨by decide, by decide, by decide, by decide, fun c hc => nomatch hc⟩, by decide, (fun _ _ e => nomatch e), (fun _ _ e => nomatch e)⟩
theorem SxOk.setP {N : Nat} {S : Sx} (h : SxOk N S) (hN : N ≤ 61) {q : Pool} (ok : q.Ok) (hq : q.coins.length ≤ 60 * (N + 1)) : SxOk (N + 1) { S with pool := q } :=
  ⟨by omega, ok, hq, fun n k e => (h.kp n k e).up, h.pg⟩
theorem SxOk.setKp {N : Nat} {S : Sx} (h : SxOk N S) (hN : N ≤ 61) {q : Pool} {z : Str} {k : Kp} (ok : q.Ok) (hq : q.coins.length ≤ 60 * (N + 1)) (hk : KpOk (N + 1) k) : SxOk (N + 1) { S with pool := q, keeps := setK S.keeps z k } :=
  ⟨by omega, ok, hq, fun n k' e => by
    have e : setK S.keeps z k n = some k' := e
    by_cases hn : n = z
    · subst hn
      rw [setK_same] at e
      cases e
      exact hk
    · rw [setK_ne hn] at e
      exact (h.kp n k' e).up, h.pg⟩
theorem pops_len : ∀ (as : List Int) (ths : List Str), (∀ (i : Nat) (a : Int), as[i]? = some a → 0 ≤ a ∧ a < (ths.length : Int) - (i : Nat)) → (pops ths as).length + as.length = ths.length
  | [], ths, _ => rfl
  | a :: as, ths, h => by
    obtain ⟨a0, a1⟩ := h 0 a rfl
    have e : (ths.eraseIdx a.toNat).length = ths.length - 1 := by rw [List.length_eraseIdx, if_pos (by omega)]
    have := pops_len as (ths.eraseIdx a.toNat) (fun i b hb => by
      obtain ⟨b0, b1⟩ := h (i + 1) b hb
      refine ⟨b0, ?_⟩
      rw [e]
      omega)
    show (pops (ths.eraseIdx a.toNat) as).length + (as.length + 1) = _
    omega
theorem pops_mem : ∀ (as : List Int) (ths : List Str) (z : Str), z ∈ pops ths as → z ∈ ths
  | [], ths, z, h => h
  | a :: as, ths, z, h => List.mem_of_mem_eraseIdx (pops_mem as _ z h)
theorem sw_mem {xs : List Str} {i j : Nat} (hi : i < xs.length) (hj : j < xs.length) {z : Str} (h : z ∈ sw xs i j) : z ∈ xs := by
  unfold sw at h
  have gd : ∀ k, k < xs.length → xs.getD k "" ∈ xs := fun k hk => by
    rw [List.getD_eq_getElem?_getD, List.getElem?_eq_getElem hk]
    exact List.getElem_mem hk
  rcases List.mem_or_eq_of_mem_set h with h | h
  · rcases List.mem_or_eq_of_mem_set h with h | h
    · exact h
    · rw [h]; exact gd _ (by assumption)
  · rw [h]; exact gd _ (by assumption)
theorem shufP_mem : ∀ (as : List Int) (xs : List Str) (k : Nat), (∀ (i : Nat) (a : Int), as[i]? = some a → 0 ≤ a ∧ a < (xs.length : Int) - ((k + i : Nat) : Int)) → ∀ z ∈ shufP xs k as, z ∈ xs
  | [], xs, k, _, z, h => h
  | a :: as, xs, k, h, z, hz => by
    obtain ⟨a0, a1⟩ := h 0 a rfl
    have := shufP_mem as (sw xs a.toNat (xs.length - 1 - k)) (k + 1) (fun i b hb => by
      rw [sw_length, show k + 1 + i = k + (i + 1) by omega]
      exact h (i + 1) b hb) z hz
    exact sw_mem (by omega) (by omega) this
theorem shuf_mem {xs : List Str} {as : List Int} (h : ShOk xs.length as) : ∀ z ∈ shuf xs as, z ∈ xs := shufP_mem as xs 0 fun i a e => by
  rw [Nat.zero_add]
  exact h.2 i a e
theorem mrg_mem {c1 c2 m : Int} {xs ys : List Str} {ns : List Int} (h1 : 0 ≤ c1) (h2 : 0 ≤ c2) (hx : (xs.length : Int) = min c1 m) (hy : (ys.length : Int) = min c2 m) (hn : ∀ k n, ns[k]? = some n → 0 ≤ n ∧ n < c1 + c2 - (k : Nat)) (hl : (ns.length : Int) ≤ m) : ∀ i, i ≤ ns.length → ∀ z ∈ (mrg c1 xs ys (ns.take i)).2.2, z ∈ xs ∨ z ∈ ys
  | 0, _, z, hz => nomatch hz
  | i + 1, hi, z, hz => by
    obtain ⟨q1, q2, q3, q4⟩ := mrg_inv (xs := xs) (ys := ys) h1 h2 hn i (by omega)
    have hg : ns[i]? = some (ns[i]'(by omega)) := List.getElem?_eq_getElem (by omega)
    obtain ⟨n0, n1⟩ := hn i _ hg
    have ih := mrg_mem h1 h2 hx hy hn hl i (by omega)
    have gd : ∀ (us : List Str) k, k < us.length → us.getD k "" ∈ us := fun us k hk => by
      rw [List.getD_eq_getElem?_getD, List.getElem?_eq_getElem hk]
      exact List.getElem_mem hk
    rw [mrg_step hg] at hz
    unfold mg1 at hz
    split at hz
    · rcases List.mem_append.mp hz with hz | hz
      · exact ih z hz
      · rw [List.mem_singleton.mp hz]
        exact .inl (gd _ _ (by omega))
    · rcases List.mem_append.mp hz with hz | hz
      · exact ih z hz
      · rw [List.mem_singleton.mp hz]
        exact .inr (gd _ _ (by omega))
end Ev

set_option Elab.async false
set_option linter.all false
set_option maxRecDepth 100000
set_option maxHeartbeats 2000000
/-! A row keeps what is small. -/
namespace Ev
open PySem PySem.Spec PyProof.Rows L2 He TL
theorem kp0 {N : Nat} {mo : Option Int} (h : ∀ m, mo = some m → 1 ≤ m ∧ m < 10 ^ 12) : KpOk N ⟨[], 0, mo, 0⟩ :=
  ⟨Int.le_refl _, Int.le_of_lt (two_pos N), Int.le_refl _, (by show (0 : Int) ≤ 10 ^ 12; decide), fun m e => ⟨(h m e).1, (h m e).2, by have := (h m e).1; show (0 : Int) = min 0 m; omega⟩, fun _ => ⟨Nat.zero_le _, fun _ => rfl, fun z => absurd z (by show ¬ (0 : Int) < 0; decide)⟩, Nat.zero_le _, fun _ z => nomatch z⟩
theorem step_coins {N : Nat} {S : Sx} {cs : List Int} (h : SxOk N S) (hN : N ≤ 61) (hr : RowOk S (.coins cs)) : SxOk (N + 1) (stepS S (.coins cs)).2 := by
  obtain ⟨⟨_, _, h3⟩, h4⟩ := hr
  have hf := h.few
  refine h.setP hN ⟨h.pool.one, h.pool.low, h.pool.lt, h.pool.top, fun c hc => ?_⟩ (by show (S.pool.coins ++ cs).length ≤ _; rw [List.length_append]; omega)
  rcases List.mem_append.mp hc with hc | hc
  · exact h.pool.coin c hc
  · exact h3 c hc
theorem step_draw {N : Nat} {S : Sx} {n : Nat} (h : SxOk N S) (hN : N ≤ 61) (hr : RowOk S (.draw n)) : SxOk (N + 1) (stepS S (.draw n)).2 := by
  have hf := h.few
  have hr : n < 10 ^ 12 := hr
  unfold stepS
  dsimp only
  split
  · exact h.up hN
  · split
    · exact h.up hN
    · rename_i h0 _ a q e
      obtain ⟨o, _, _, l, _⟩ := Pool.draw_ok (⟨by omega, by omega⟩ : Few (n : Int)) h.pool e
      exact h.setP hN o (by omega)
theorem step_go {N : Nat} {S : Sx} {z : Str} (h : SxOk N S) (hN : N ≤ 61) : SxOk (N + 1) (stepS S (.go z)).2 := by
  have hf := h.few
  unfold stepS
  dsimp only
  split
  · exact h.up hN
  · split
    · exact h.up hN
    · rename_i x n e
      exact h.setP hN ⟨h.pool.one, h.pool.low, h.pool.lt, h.pool.top, fun c hc => h.pool.coin c (List.mem_of_mem_drop hc)⟩ (by show (S.pool.coins.drop n).length ≤ _; rw [List.length_drop]; omega)
theorem step_see {N : Nat} {S : Sx} {z t : Str} (h : SxOk N S) (hN : N ≤ 61) (hr : RowOk S (.see z t)) : SxOk (N + 1) (stepS S (.see z t)).2 := by
  have hf := h.few
  obtain ⟨_, ht⟩ := hr
  unfold stepS
  dsimp only
  split
  · exact h.up hN
  · rename_i k ek
    have K := h.kp z k ek
    split
    · exact h.up hN
    · rename_i m em
      obtain ⟨d1, d2, d3⟩ := K.dr m em
      have c0 := K.c0
      have c1 := K.c1
      have c6 := two_62 h.n62
      have c7 := two_succ N
      have c8 := two_one N
      have kk : ∀ ths : List Str, (ths.length : Int) = min (k.count + 1) m → ths.length ≤ 4000 + (N + 1) → (∀ y ∈ ths, NameB y = true) → KpOk (N + 1) ⟨ths, k.count + 1, some m, k.total⟩ := fun ths h1 h2 h3 =>
        ⟨by show 0 ≤ k.count + 1; omega, by show k.count + 1 ≤ _; omega, K.t0, K.t1, fun m' e => by cases e; exact ⟨d1, d2, h1⟩, (fun e => nomatch e), h2, h3⟩
      have ln := K.ln
      split
      · exact h.up hN
      · rename_i q ths e
        unfold seeD at e
        split at e
        · cases e
          refine h.setKp hN h.pool (by omega) (kk _ (by rw [List.length_append, List.length_singleton]; omega) (by rw [List.length_append, List.length_singleton]; omega) fun y hy => ?_)
          rcases List.mem_append.mp hy with hy | hy
          · exact K.nm y hy
          · rw [List.mem_singleton.mp hy]; exact ht
        · cases e2 : S.pool.draw (k.count + 1) with
          | none => rw [e2] at e; cases e
          | some y =>
            rw [e2] at e
            cases e
            obtain ⟨o, _, _, l, _⟩ := Pool.draw_ok (a := y.1) (q := y.2) (⟨by omega, by omega⟩ : Few (k.count + 1)) h.pool e2
            refine h.setKp hN o (by omega) (kk _ ?_ ?_ fun x hx => ?_)
            · split
              · rw [List.length_set]; omega
              · omega
            · split
              · rw [List.length_set]; omega
              · omega
            · split at hx
              · rcases List.mem_or_eq_of_mem_set hx with hx | hx
                · exact K.nm x hx
                · rw [hx]; exact ht
              · exact K.nm x hx
theorem step_seew {N : Nat} {S : Sx} {z t : Str} {n : Nat} (h : SxOk N S) (hN : N ≤ 61) (hr : RowOk S (.seew z t n)) : SxOk (N + 1) (stepS S (.seew z t n)).2 := by
  have hf := h.few
  obtain ⟨_, ht, hn, htot⟩ := hr
  unfold stepS
  dsimp only
  split
  · exact h.up hN
  · rename_i k ek
    have K := h.kp z k ek
    have htot := htot k ek
    split
    · exact h.up hN
    · rename_i em
      split
      · exact h.up hN
      · rename_i n0
        obtain ⟨w1, w2, w3⟩ := K.wr em
        have c0 := K.c0
        have c1 := K.c1
        have t0 := K.t0
        have c7 := two_succ N
        have c8 := two_one N
        have kk : ∀ ths : List Str, ths.length ≤ 1 → (∀ y ∈ ths, NameB y = true) → KpOk (N + 1) ⟨ths, k.count + 1, none, k.total + n⟩ := fun ths h1 h3 =>
          ⟨by show 0 ≤ k.count + 1; omega, by show k.count + 1 ≤ _; omega, by show 0 ≤ k.total + n; omega, htot, (fun m e => nomatch e), fun _ => ⟨h1, fun z => absurd z (by show ¬ k.count + 1 = 0; omega), fun _ => by show 1 ≤ k.total + n; omega⟩, by show ths.length ≤ _; omega, h3⟩
        split
        · exact h.up hN
        · rename_i q ths e
          unfold seeW at e
          split at e
          · cases e
            exact h.setKp hN h.pool (by omega) (kk _ (Nat.le_refl _) fun y hy => by rw [List.mem_singleton.mp hy]; exact ht)
          · cases e2 : S.pool.draw (k.total + n) with
            | none => rw [e2] at e; cases e
            | some y =>
              rw [e2] at e
              cases e
              obtain ⟨o, _, _, l, _⟩ := Pool.draw_ok (a := y.1) (q := y.2) (⟨by omega, by omega⟩ : Few (k.total + n)) h.pool e2
              refine h.setKp hN o (by omega) (kk _ ?_ fun x hx => ?_)
              · split
                · exact Nat.le_refl _
                · exact w1
              · split at hx
                · rw [List.mem_singleton.mp hx]; exact ht
                · exact K.nm x hx
theorem step_cut {N : Nat} {S : Sx} {z : Str} {n : Nat} (h : SxOk N S) (hN : N ≤ 61) (hr : RowOk S (.cut z n)) : SxOk (N + 1) (stepS S (.cut z n)).2 := by
  have hf := h.few
  obtain ⟨_, hn⟩ := hr
  unfold stepS
  dsimp only
  split
  · exact h.up hN
  · rename_i k ek
    have K := h.kp z k ek
    split
    · exact h.up hN
    · rename_i m em
      obtain ⟨d1, d2, d3⟩ := K.dr m em
      have ln := K.ln
      split
      · exact h.up hN
      · rename_i hc
        split
        · exact h.up hN
        · rename_i as q e
          obtain ⟨o, r2, r3, r4⟩ := Pool.draws_ok (fun x hx => by have := dn_mem hx; exact ⟨by omega, by omega⟩) h.pool e
          rw [dn_length] at r2
          have hp := pops_len as k.things (fun i a ea => by
            have hi : i < as.length := (List.getElem?_eq_some_iff.mp ea).1
            obtain ⟨a', e1, e2, e3⟩ := r4 i _ (dn_get (by omega))
            rw [ea] at e1
            cases e1
            exact ⟨e2, e3⟩)
          have K' := K.up (N := N)
          exact h.setKp hN o (by omega) ⟨K'.c0, K'.c1, K'.t0, K'.t1, fun m' e => by cases e; exact ⟨by omega, by omega, by show ((pops k.things as).length : Int) = min k.count n; omega⟩, (fun e => nomatch e), by show (pops k.things as).length ≤ _; omega, fun y hy => K.nm y (pops_mem _ _ _ hy)⟩
end Ev

set_option Elab.async false
set_option linter.all false
set_option maxRecDepth 100000
set_option maxHeartbeats 2000000
/-! A row keeps what is small. -/
namespace Ev
open PySem PySem.Spec PyProof.Rows L2 He TL
theorem step_pour {N : Nat} {S : Sx} {z a b : Str} (h : SxOk N S) (hN : N ≤ 61) (hr : RowOk S (.pour z a b)) : SxOk (N + 1) (stepS S (.pour z a b)).2 := by
  have hf := h.few
  obtain ⟨_, _, _, hab, htot⟩ := hr
  unfold stepS
  dsimp only
  split
  · exact h.up hN
  · rename_i q k e
    unfold pourK at e
    split at e
    · cases e
    · rename_i k1 e1
      split at e
      · cases e
      · rename_i k2 e2
        have K1 := h.kp a k1 e1
        have K2 := h.kp b k2 e2
        have htot := htot k1 k2 e1 e2
        have c10 := K1.c0
        have c20 := K2.c0
        have c11 := K1.c1
        have c21 := K2.c1
        have t10 := K1.t0
        have t20 := K2.t0
        have c6 := two_62 (n := N) h.n62
        have c7 := two_succ N
        have c8 := two_one N
        have l1 := K1.ln
        have l2 := K2.ln
        split at e
        · rename_i m1 m2 f1 f2
          split at e
          · rename_i em
            subst em
            obtain ⟨d1, d2, d3⟩ := K1.dr m1 f1
            obtain ⟨_, _, d4⟩ := K2.dr m1 f2
            split at e
            · cases e
            · rename_i as q' ed
              cases e
              have hfew : ∀ x ∈ manysD k1.things.length k2.things.length m1 (k1.count + k2.count), Few x := fun x hx => by
                have := manysD_mem hx
                exact ⟨by omega, by omega⟩
              obtain ⟨o, r2, r3, r4⟩ := Pool.draws_ok hfew h.pool ed
              have A := ansOk (by omega) (by omega) (by omega) h.pool ed
              have ft := few_things h.pool h.n62 hf hfew ed
              have hl := A.len
              have hl3 : (as.drop ((k1.things.length - 1) + (k2.things.length - 1))).length = (min m1 (k1.count + k2.count)).toNat := by rw [List.length_drop]; omega
              have M := mrg_inv (xs := shuf k1.things (as.take (k1.things.length - 1))) (ys := shuf k2.things ((as.drop (k1.things.length - 1)).take (k2.things.length - 1))) c10 c20 A.s3 _ (Nat.le_refl _)
              have W := mrg_mem (m := m1) (xs := shuf k1.things (as.take (k1.things.length - 1))) (ys := shuf k2.things ((as.drop (k1.things.length - 1)).take (k2.things.length - 1))) c10 c20 (by rw [shuf_length]; exact d3) (by rw [shuf_length]; exact d4) A.s3 (by rw [hl3]; omega) _ (Nat.le_refl _)
              rw [List.take_length] at M W
              have M2 : (pourTh k1.things k2.things k1.count as).length = (min m1 (k1.count + k2.count)).toNat := by rw [← hl3]; exact M.2.1
              refine h.setKp hN o (by omega) ⟨by show 0 ≤ k1.count + k2.count; omega, by show k1.count + k2.count ≤ _; omega, by show 0 ≤ k1.total + k2.total; omega, htot, fun m' e => by cases e; exact ⟨d1, d2, by show ((pourTh k1.things k2.things k1.count as).length : Int) = min (k1.count + k2.count) m1; omega⟩, (fun e => nomatch e), by show (pourTh k1.things k2.things k1.count as).length ≤ _; omega, fun y hy => ?_⟩
              rcases W y hy with hy | hy
              · exact K1.nm y (shuf_mem A.s1 y hy)
              · exact K2.nm y (shuf_mem A.s2 y hy)
          · cases e
        · rename_i f1 f2
          obtain ⟨u1, u2, u3⟩ := K1.wr f1
          obtain ⟨v1, v2, v3⟩ := K2.wr f2
          have kk : ∀ ths : List Str, ths.length ≤ 1 → (k1.count + k2.count = 0 → ths = []) → (∀ y ∈ ths, NameB y = true) → KpOk (N + 1) ⟨ths, k1.count + k2.count, none, k1.total + k2.total⟩ := fun ths h1 h2 h3 =>
            ⟨by show 0 ≤ k1.count + k2.count; omega, by show k1.count + k2.count ≤ _; omega, by show 0 ≤ k1.total + k2.total; omega, htot, (fun m e => nomatch e), fun _ => ⟨h1, h2, fun (w : 0 < k1.count + k2.count) => by
              show 1 ≤ k1.total + k2.total
              by_cases p : 0 < k1.count
              · have := u3 p; omega
              · have := v3 (by omega); omega⟩, by show ths.length ≤ _; omega, h3⟩
          split at e
          · cases e
          · rename_i q' ths' ew
            cases e
            unfold pourW at ew
            split at ew
            · rename_i both
              cases e2 : S.pool.draw (k1.total + k2.total) with
              | none => rw [e2] at ew; cases ew
              | some y =>
                rw [e2] at ew
                cases ew
                have := u3 both.1
                obtain ⟨o, _, _, l, _⟩ := Pool.draw_ok (a := y.1) (q := y.2) (⟨by omega, by omega⟩ : Few (k1.total + k2.total)) h.pool e2
                refine h.setKp hN o (by omega) (kk _ ?_ (fun w => by omega) fun x hx => ?_)
                · split
                  · exact v1
                  · exact u1
                · split at hx
                  · exact K2.nm x hx
                  · exact K1.nm x hx
            · cases ew
              refine h.setKp hN h.pool (by omega) (kk _ ?_ (fun w => ?_) fun x hx => ?_)
              · split
                · exact v1
                · exact u1
              · rw [if_pos (by omega)]
                exact v2 (by omega)
              · split at hx
                · exact K2.nm x hx
                · exact K1.nm x hx
        · cases e
theorem step_ok {N : Nat} {S : Sx} {r : Row} (h : SxOk N S) (hN : N ≤ 61) (hr : RowOk S r) : SxOk (N + 1) (stepS S r).2 := by
  have hf := h.few
  cases r with
  | coins cs => exact step_coins h hN hr
  | draw n => exact step_draw h hN hr
  | go z => exact step_go h hN
  | program z k =>
    have U := h.up hN
    refine ⟨U.n62, U.pool, U.few, U.kp, fun n k' e => ?_⟩
    have e : setK S.progs z k n = some k' := e
    by_cases hn : n = z
    · subst hn
      rw [setK_same] at e
      cases e
      exact hr.2
    · rw [setK_ne hn] at e
      exact h.pg n k' e
  | drawer z n =>
    obtain ⟨_, hn⟩ := hr
    unfold stepS
    dsimp only
    split
    · exact h.up hN
    · exact h.setKp hN h.pool (by omega) (kp0 fun m e => by cases e; exact ⟨by omega, by omega⟩)
  | weigher z => exact h.setKp hN h.pool (by omega) (kp0 fun m e => nomatch e)
  | see z t => exact step_see h hN hr
  | seew z t n => exact step_seew h hN hr
  | held z =>
    unfold stepS
    dsimp only
    split
    · exact h.up hN
    · exact h.up hN
  | cut z n => exact step_cut h hN hr
  | pour z a b => exact step_pour h hN hr
end Ev

set_option Elab.async false
set_option linter.all false
set_option maxRecDepth 100000
set_option maxHeartbeats 2000000
/-! Two desks, two states, apart. -/
namespace Ev
open PySem PySem.Spec PyProof.Rows L2 He TL
def Dj (A B : Addr → Prop) : Prop := ∀ b, A b → ¬ B b
def Tk (A : Addr → Prop) (H : Hp) : Prop := ∀ b, A b → H b ≠ none
theorem Dj.symm {A B : Addr → Prop} (h : Dj A B) : Dj B A := fun b hb ha => h b ha hb
theorem Tk.same {A : Addr → Prop} {H H' : Hp} (h : Tk A H) (s : Same H H') : Tk A H' := fun b ha e => by
  cases e2 : H b with
  | none => exact h b ha e2
  | some o =>
    rw [s b o e2] at e
    cases e
theorem Tk.fr {A ch : Addr → Prop} {H H' : Hp} (h : Tk A H) (f : Fr ch H H') (d : Dj A ch) : Tk A H' := fun b ha e => by
  cases e2 : H b with
  | none => exact h b ha e2
  | some o =>
    rw [f b o e2 (d b ha)] at e
    cases e
theorem Side.tk {c : Cfg} {H : Hp} {d : Addr} {g : Gk} {N : Nat} {S : Sx} (C : CfgOk c) (X : Side c H d g N S) : Tk (own d g S) H := fun b h e => by
  obtain ⟨o, h1, _⟩ := X.owned C h
  rw [h1] at e
  cases e
theorem Next.dj {c : Cfg} {H H' : Hp} {d : Addr} {g g' : Gk} {N' : Nat} {S S' : Sx} (n : Next c H H' d g g' N' S S') {A : Addr → Prop} (h : Dj A (own d g S)) (t : Tk A H) : Dj A (own d g' S') := fun b ha ho => by
  rcases n.o b ho with z | z
  · exact h b ha z
  · exact t b ha z
/-- B: what is kept; a desk and its state, another desk and its state; all apart -/
structure Two (K : PySem.W.Frag) (H : Hp) (B : Addr → Prop) (d e d' e' : Addr) (g h g' h' : Gk) (N : Nat) (S S' : Sx) : Prop where
  b : Both K H d e g h N S
  b' : Both K H d' e' g' h' N S'
  de : Dj (own d g S) (own e h S)
  dd' : Dj (own d g S) (own d' g' S')
  de' : Dj (own d g S) (own e' h' S')
  ed' : Dj (own e h S) (own d' g' S')
  ee' : Dj (own e h S) (own e' h' S')
  d'e' : Dj (own d' g' S') (own e' h' S')
  kd : Dj B (own d g S)
  ke : Dj B (own e h S)
  kd' : Dj B (own d' g' S')
  ke' : Dj B (own e' h' S')
  tk : Tk B H
section
variable {K : PySem.W.Frag} {H H1 H2 : Hp} {B : Addr → Prop} {d e d' e' : Addr} {g h g' h' g2 h2 : Gk} {N : Nat} {S S' S2 : Sx}
theorem Two.swap (t : Two K H B d e d' e' g h g' h' N S S') : Two K H B d' e' d e g' h' g h N S' S :=
  ⟨t.b', t.b, t.d'e', t.dd'.symm, t.ed'.symm, t.de'.symm, t.ee'.symm, t.de, t.kd', t.ke', t.kd, t.ke, t.tk⟩
theorem Two.same (t : Two K H B d e d' e' g h g' h' N S S') (s : Same H H1) : Two K H1 B d e d' e' g h g' h' N S S' :=
  ⟨t.b.same s, t.b'.same s, t.de, t.dd', t.de', t.ed', t.ee', t.d'e', t.kd, t.ke, t.kd', t.ke', t.tk.same s⟩
theorem Both.up (b : Both K H d e g h N S) (hN : N ≤ 61) : Both K H d e g h (N + 1) S :=
  ⟨⟨b.D.x.mono (cD_ok K) (Nat.le_succ _), b.D.ok.up hN⟩, ⟨b.L.x.mono cL_ok (Nat.le_succ _), b.L.ok.up hN⟩⟩
theorem Two.up (t : Two K H B d e d' e' g h g' h' N S S') (hN : N ≤ 61) : Two K H B d e d' e' g h g' h' (N + 1) S S' :=
  ⟨t.b.up hN, t.b'.up hN, t.de, t.dd', t.de', t.ed', t.ee', t.d'e', t.kd, t.ke, t.kd', t.ke', t.tk⟩
/-- behind the state's row the desk still stands -/
theorem Two.mid (t : Two K H B d e d' e' g h g' h' N S S') (n1 : Next cL H H1 e h h2 (N + 1) S S2) : DeskAt K H1 d g N S :=
  ⟨t.b.D.x.fr (cD_ok K) n1.f (t.b.L.x.nt cL_ok) fun b hb => t.de.symm b hb, t.b.D.ok⟩
theorem Two.step (t : Two K H B d e d' e' g h g' h' N S S') (n1 : Next cL H H1 e h h2 (N + 1) S S2) (n2 : Next (cD K) H1 H2 d g g2 (N + 1) S S2) (ok : SxOk (N + 1) S2) (hN : N ≤ 61) :
    Two K H2 B d e d' e' g2 h2 g' h' (N + 1) S2 S' ∧ ∀ b o, B b → H b = some o → H2 b = some o := by
  have D := t.mid n1
  have nt1 := t.b.L.x.nt cL_ok
  have nt2 := D.x.nt (cD_ok K)
  have D' : Side (cD K) H1 d' g' N S' := t.b'.D.x.fr (cD_ok K) n1.f nt1 fun b hb => t.ed' b hb
  have E' : Side cL H1 e' h' N S' := t.b'.L.x.fr cL_ok n1.f nt1 fun b hb => t.ee' b hb
  have tB : Tk B H1 := t.tk.fr n1.f t.ke
  have de2 : Dj (own d g S) (own e h2 S2) := n1.dj t.de (t.b.D.x.tk (cD_ok K))
  have E2 : Side cL H2 e h2 (N + 1) S2 := n1.x.fr cL_ok n2.f nt2 fun b hb => de2 b hb
  have D2' : Side (cD K) H2 d' g' N S' := D'.fr (cD_ok K) n2.f nt2 fun b hb => t.dd' b hb
  have E2' : Side cL H2 e' h' N S' := E'.fr cL_ok n2.f nt2 fun b hb => t.de' b hb
  have ed2 : Dj (own d' g' S') (own e h2 S2) := n1.dj t.ed'.symm (t.b'.D.x.tk (cD_ok K))
  have ee2 : Dj (own e' h' S') (own e h2 S2) := n1.dj t.ee'.symm (t.b'.L.x.tk cL_ok)
  have kB : Dj B (own e h2 S2) := n1.dj t.ke t.tk
  have okS := t.b'.D.ok.up hN
  refine ⟨⟨⟨⟨n2.x, ok⟩, ⟨E2, ok⟩⟩, ⟨⟨D2'.mono (cD_ok K) (Nat.le_succ _), okS⟩, ⟨E2'.mono cL_ok (Nat.le_succ _), okS⟩⟩, ?_, ?_, ?_, ed2.symm, ee2.symm, t.d'e', ?_, kB, t.kd', t.ke', tB.fr n2.f t.kd⟩, fun b o hb e => n2.f b o (n1.f b o e (t.ke b hb)) (t.kd b hb)⟩
  · exact (n2.dj de2.symm (n1.x.tk cL_ok)).symm
  · exact (n2.dj t.dd'.symm (D'.tk (cD_ok K))).symm
  · exact (n2.dj t.de'.symm (E'.tk cL_ok)).symm
  · exact n2.dj t.kd tB
end
end Ev

set_option Elab.async false
set_option linter.all false
set_option maxRecDepth 100000
set_option maxHeartbeats 2000000
/-! The states at the start. -/
namespace Ev
open PySem PySem.Spec PyProof.Rows L2 He TL
def gk0 (p l pd kd : Addr) : Gk := ⟨p, l, pd, kd, fun _ => p, fun _ => p⟩
theorem own0 {d p l pd kd b : Addr} (h : own d (gk0 p l pd kd) s0 b) : b = d ∨ b = p ∨ b = l ∨ b = pd ∨ b = kd := by
  rcases h with h | h | h | h | h | ⟨n, hn, _⟩
  · exact .inl h
  · exact .inr (.inl h)
  · exact .inr (.inr (.inl h))
  · exact .inr (.inr (.inr (.inl h)))
  · exact .inr (.inr (.inr (.inr h)))
  · exact absurd rfl hn
theorem law0 {H : Hp} {p pt l pd kd : Addr} (h1 : H p = some (.dK (stD pt l pd kd))) (h2 : H pt = some (.tup [.int 1, .int 0])) (h3 : H l = some (.lst [])) (h4 : H pd = some (.dK [])) (h5 : H kd = some (.dK [])) (n1 : p ≠ pd) (n2 : p ≠ kd) (n3 : pd ≠ kd) : LawAt H p (gk0 p l pd kd) 0 s0 :=
  ⟨⟨⟨rfl, ⟨pt, h1, h2⟩, h3, sx0.pool⟩, ⟨[], h4, Nat.le_refl _, fun n => ⟨fun _ => rfl, fun k e => nomatch e⟩⟩, ⟨[], h5, Nat.le_refl _, fun n => ⟨fun _ => rfl, fun k e => nomatch e⟩⟩,
    ⟨n1, n2, n3, (fun n z => absurd rfl z), (fun n m z => absurd rfl z), (fun n m z => absurd rfl z), (fun n z => absurd rfl z)⟩⟩, sx0⟩
/-- the states made so far, in the list at Ls; H0: ahead of that list -/
def StL (H0 H : Hp) (Ls : Addr) (es : List (Addr × Gk)) : Prop := Same H0 H ∧ H Ls = some (.lst (es.map fun y => V.ref y.1)) ∧ (∀ y ∈ es, LawAt H y.1 y.2 0 s0 ∧ ∀ b, own y.1 y.2 s0 b → H0 b = none ∧ b ≠ Ls) ∧ es.Pairwise fun y z => Dj (own y.1 y.2 s0) (own z.1 z.2 s0)
theorem LawAt.fr1 {H1 : Hp} {e Ls : Addr} {h : Gk} {N : Nat} {S : Sx} {xs ys : List V} (L : LawAt H1 e h N S) (hl : H1 Ls = some (.lst xs)) (no : ¬ own e h S Ls) : LawAt (upd H1 Ls (.lst ys)) e h N S :=
  ⟨L.x.fr cL_ok (ch := fun b => b = Ls) (Fr.refl.upd (.inl rfl)) (fun b zs hb z => by
    have hb : b = Ls := hb
    rw [hb, hl] at z
    cases z) fun b hb => by
    have hb : b = Ls := hb
    rw [hb]
    exact no, L.ok⟩
theorem StL.put {H0 H H1 : Hp} {Ls e : Addr} {h : Gk} {es : List (Addr × Gk)} (st : StL H0 H Ls es) (hL : H0 Ls = none) (s : Same H H1) (L : LawAt H1 e h 0 s0) (nw : ∀ b, own e h s0 b → H b = none) :
    H1 Ls = some (.lst (es.map fun y => V.ref y.1)) ∧ StL H0 (upd H1 Ls (.lst ((es.map fun y => V.ref y.1) ++ [.ref e]))) Ls (es ++ [(e, h)]) := by
  obtain ⟨s0_, hl, hes, pw⟩ := st
  have hl1 := s _ _ hl
  have nLs : ∀ b, own e h s0 b → b ≠ Ls := fun b hb z => by
    have := nw b hb
    rw [z, hl] at this
    cases this
  refine ⟨hl1, fun b o eb => ?_, ?_, fun y hy => ?_, ?_⟩
  · rw [upd_ne (ne_of_none eb hL)]
    exact s _ _ (s0_ _ _ eb)
  · rw [upd_same, List.map_append]
    rfl
  · rcases List.mem_append.mp hy with hy | hy
    · obtain ⟨L1, o1⟩ := hes y hy
      exact ⟨(L1.same s).fr1 hl1 fun z => (o1 _ z).2 rfl, o1⟩
    · rw [List.mem_singleton.mp hy]
      refine ⟨L.fr1 hl1 fun z => nLs _ z rfl, fun b hb => ⟨s0_.free (nw b hb), nLs b hb⟩⟩
  · refine List.pairwise_append.mpr ⟨pw, List.pairwise_singleton _ _, fun y hy z hz => ?_⟩
    rw [List.mem_singleton.mp hz]
    intro b hb hb2
    exact (hes y hy).1.x.tk cL_ok b hb (nw b hb2)
end Ev

set_option Elab.async false
set_option linter.all false
set_option maxRecDepth 100000
set_option maxHeartbeats 2000000
/-! The law. -/
namespace Ev
open PySem PySem.Spec PyProof.Rows L2 He TL
def sp_law (K : PySem.W.Frag) : Sp := fun vs H Q _ => ∃ (a : Addr) (xs : List Int), vs = [.ref a] ∧ SqL K H a (xs.map .int) ∧ xs.length ≤ 63 ∧ ∀ H', Q (.bl true) H'
theorem seq_named5 {A1 A2 A3 A4 A5 R : TS} {D : Ends} {σ : L2.St} {H : Hp} (Cd : L2.St → Hp → Prop) (hrest : ∀ σ' H', Cd σ' H' → R D σ' H') (h : ∀ M : L2.St → Hp → Prop, (∀ σ' H', Cd σ' H' → M σ' H') → tSeq A1 (tSeq A2 (tSeq A3 (tSeq A4 (fun D' => A5 { D' with nx := M })))) D σ H) :
    tSeq A1 (tSeq A2 (tSeq A3 (tSeq A4 (tSeq A5 R)))) D σ H := h (R D) hrest
/-- both pairs stand behind N rows -/
def Mn (K : PySem.W.Frag) (H : Hp) (B : Addr → Prop) (d0 d1 e0 e1 : Addr) (N : Nat) : Prop := ∃ g0 h0 g1 h1 S0 S1, Two K H B d0 e0 d1 e1 g0 h0 g1 h1 N S0 S1
section
variable {K : PySem.W.Frag} {H H1 : Hp} {B : Addr → Prop} {d e d' e' X : Addr} {g h g' h' : Gk} {N : Nat} {S S' : Sx}
theorem Two.keep (t : Two K H B d e d' e' g h g' h' N S S') {o : HO} (nX : H X = none) : Two K (upd H X o) (fun b => B b ∨ b = X) d e d' e' g h g' h' N S S' := by
  have s : Same H (upd H X o) := (Same.refl H).upd nX
  have t2 := t.same s
  have no : ∀ {A : Addr → Prop}, Tk A H → Dj B A → Dj (fun b => B b ∨ b = X) A := fun {A} tk dj b hb ha => by
    rcases hb with hb | hb
    · exact dj b hb ha
    · rw [hb] at ha
      exact tk X ha nX
  refine ⟨t2.b, t2.b', t.de, t.dd', t.de', t.ed', t.ee', t.d'e', no (t.b.D.x.tk (cD_ok K)) t.kd, no (t.b.L.x.tk cL_ok) t.ke, no (t.b'.D.x.tk (cD_ok K)) t.kd', no (t.b'.L.x.tk cL_ok) t.ke', fun b hb z => ?_⟩
  rcases hb with hb | hb
  · exact t2.tk b hb z
  · rw [hb, upd_same] at z
    cases z
theorem desk_new {d dx : Addr} {H' : Hp} (nd : H d = none) (ndx : H dx = none) (ne : dx ≠ d) {C : Addr} (f : Fr (fun b => b = d) (upd (upd H dx (.own d)) d (.ins C dx [])) H') : Same H H' := fun b o eb => by
  have h1 : b ≠ d := ne_of_none eb nd
  have h2 : b ≠ dx := ne_of_none eb ndx
  refine f b o ?_ h1
  rw [upd_ne h1, upd_ne h2]
  exact eb
theorem desk_own {d dx b : Addr} (nd : H d = none) {o1 o2 : HO} (h : b = d ∨ upd (upd H dx o1) d o2 b = none) : H b = none := by
  rcases h with h | h
  · rw [h]; exact nd
  · by_cases e1 : b = d
    · rw [e1]; exact nd
    · rw [upd_ne e1] at h
      by_cases e2 : b = dx
      · rw [e2, upd_same] at h
        cases h
      · rw [upd_ne e2] at h
        exact h
theorem lit_state {H E0 E1 E2 E3 E4 : Hp} {p pt l pd kd : Addr} (e0 : E0 = upd H p (.dK [])) (e1 : E1 = upd E0 pt (.tup [.int 1, .int 0])) (e2 : E2 = upd E1 l (.lst [])) (e3 : E3 = upd E2 pd (.dK [])) (e4 : E4 = upd E3 kd (.dK []))
    (np : H p = none) (npt : E0 pt = none) (nl : E1 l = none) (npd : E2 pd = none) (nkd : E3 kd = none) :
    E4 p = some (.dK []) ∧ Same H (upd E4 p (.dK (stD pt l pd kd))) ∧ LawAt (upd E4 p (.dK (stD pt l pd kd))) p (gk0 p l pd kd) 0 s0 ∧ ∀ b, own p (gk0 p l pd kd) s0 b → H b = none := by
  have q0 : Same H E0 := by rw [e0]; exact (Same.refl H).upd np
  have q1 : Same E0 E1 := by rw [e1]; exact (Same.refl _).upd npt
  have q2 : Same E1 E2 := by rw [e2]; exact (Same.refl _).upd nl
  have q3 : Same E2 E3 := by rw [e3]; exact (Same.refl _).upd npd
  have q4 : Same E3 E4 := by rw [e4]; exact (Same.refl _).upd nkd
  have a0 : E0 p = some (.dK []) := by rw [e0]; exact upd_same
  have a1 : E1 pt = some (.tup [.int 1, .int 0]) := by rw [e1]; exact upd_same
  have a2 : E2 l = some (.lst []) := by rw [e2]; exact upd_same
  have a3 : E3 pd = some (.dK []) := by rw [e3]; exact upd_same
  have a4 : E4 kd = some (.dK []) := by rw [e4]; exact upd_same
  have b0 := q1 _ _ a0
  have c0 := q2 _ _ b0
  have d0 := q3 _ _ c0
  have n1 : p ≠ pt := ne_of_none a0 npt
  have n2 : p ≠ l := ne_of_none b0 nl
  have n3 : p ≠ pd := ne_of_none c0 npd
  have n4 : p ≠ kd := ne_of_none d0 nkd
  have n5 : pd ≠ kd := ne_of_none a3 nkd
  have z1 : H pt = none := q0.free npt
  have z2 : H l = none := (q0.trans q1).free nl
  have z3 : H pd = none := ((q0.trans q1).trans q2).free npd
  have z4 : H kd = none := (((q0.trans q1).trans q2).trans q3).free nkd
  refine ⟨q4 _ _ d0, fun b o e => ?_, law0 upd_same ?_ ?_ ?_ ?_ n3 n4 n5, fun b hb => ?_⟩
  · rw [upd_ne (ne_of_none e np)]
    exact ((((q0.trans q1).trans q2).trans q3).trans q4) _ _ e
  · rw [upd_ne n1.symm]
    exact q4 _ _ (q3 _ _ (q2 _ _ a1))
  · rw [upd_ne n2.symm]
    exact q4 _ _ (q3 _ _ a2)
  · rw [upd_ne n3.symm]
    exact q4 _ _ a3
  · rw [upd_ne n4.symm]
    exact a4
  · rcases own0 hb with h | h | h | h | h
    · rw [h]; exact np
    · rw [h]; exact np
    · rw [h]; exact z2
    · rw [h]; exact z3
    · rw [h]; exact z4
end
theorem slice_ints (xs : List Int) : ∃ ys : List Int, cutV (xs.map V.int) (some 1) (some 63) = ys.map V.int ∧ ys.length ≤ 62 := by
  have a := HT.sIx_nat (xs.map V.int).length 0 1
  have b := HT.sIx_nat (xs.map V.int).length (xs.map V.int).length 63
  refine ⟨(xs.drop (min 1 (xs.map V.int).length)).take (min 63 (xs.map V.int).length - min 1 (xs.map V.int).length), ?_, ?_⟩
  · unfold cutV
    rw [show ((1 : Nat) : Int) = 1 by rfl] at a
    rw [show ((63 : Nat) : Int) = 63 by rfl] at b
    rw [a, b, List.map_take, List.map_drop]
  · rw [List.length_take, List.length_drop]
    omega
/-- one of the two pairs, and how both stand again -/
theorem Mn.at_ {K : PySem.W.Frag} {H : Hp} {B : Addr → Prop} {d0 d1 e0 e1 : Addr} {N : Nat} (m : Mn K H B d0 d1 e0 e1 N) (k : Nat) (hk : k < 2) : ∃ d e d' e' g h g' h' S S', Two K H B d e d' e' g h g' h' N S S' ∧ atI [V.ref d0, .ref d1] (k : Int) = some (.ref d) ∧ atI [V.ref e0, .ref e1] (k : Int) = some (.ref e) ∧
    ∀ H9 N' g2 h2 g3 h3 S2 S3, Two K H9 B d e d' e' g2 h2 g3 h3 N' S2 S3 → Mn K H9 B d0 d1 e0 e1 N' := by
  obtain ⟨g0, h0, g1, h1, S0, S1, t⟩ := m
  match k, hk with
  | 0, _ => exact ⟨d0, e0, d1, e1, g0, h0, g1, h1, S0, S1, t, rfl, rfl, fun H9 N' g2 h2 g3 h3 S2 S3 t2 => ⟨_, _, _, _, _, _, t2⟩⟩
  | 1, _ => exact ⟨d1, e1, d0, e0, g1, h1, g0, h0, S1, S0, t.swap, rfl, rfl, fun H9 N' g2 h2 g3 h3 S2 S3 t2 => ⟨_, _, _, _, _, _, t2.swap⟩⟩
section
variable {P : Program} {w : World} {K : PySem.W.Frag} {mg : Str → Option Value} {base h : Heap}
abbrev N_law : List Str := ["_law_script", "_law_names_here", "_law_things", "_law_desks", "_law_states", "_law_k", "_law_cell_here", "_law_at", "_law_row_here", "_law_due"]
abbrev P_law : List Str := ["_law_script"]
theorem sc_law : FnScope N_law P_law (defScope s_law) := ⟨rfl, rfl, rfl, by decide +kernel, rfl, by decide +kernel, by decide +kernel⟩
theorem fn_law (T : Tx w K mg h) {fd : FuncData} (F : FunD K "law" "law" (defArgs s_law) (defBody s_law) (defScope s_law) [] [] (ga K "law") fd) : FnOk P w K mg base (L2.CX P w) 12 (ga K "law") fd P_law (sp_law K) := by
  refine F.ok sc_law (fun vs H Q E h => ?_) (fun cdv A outer s H vs Q E hr hsp => ?_)
  · obtain ⟨a, xs, rfl, _⟩ := h
    rfl
  · obtain ⟨a, xs, rfl, hxs, hlen, kk⟩ := hsp
    refine ⟨_, (pss_cons (ps_set (i := 1) sc_law.nd rfl (Or.inl rfl) (pc_f (ok__law_names T) hr (by decide) T.gl__law_names tkE (pa_cons (pc_f (ok__law_cell T) hr (by decide) T.gl__law_cell tkE (pa_cons (pv 0) (pa_cons pe_int pa_nil))) (pa_cons pe_int pa_nil))))
        (pss_cons (ps_set (i := 2) sc_law.nd rfl (Or.inl rfl) (pc_f (ok__law_names T) hr (by decide) T.gl__law_names tkE (pa_cons (pe_op op_add (pe_op op_mul (pc_f (ok__law_cell T) hr (by decide) T.gl__law_cell tkE (pa_cons (pv 0) (pa_cons pe_int pa_nil))) pe_int) pe_int) (pa_cons pe_int pa_nil))))
        (pss_cons (ps_set (i := 3) sc_law.nd rfl (Or.inl rfl) (pe_lst (pa_cons (pc_mk0 (ok_Desk_init T).d T.mk_Desk hr (by decide) T.gl_Desk pcE) (pa_cons (pc_mk0 (ok_Desk_init T).d T.mk_Desk hr (by decide) T.gl_Desk pcE) pa_nil))))
        (pss_cons (ps_set (i := 4) sc_law.nd rfl (Or.inl rfl) (pe_lst pa_nil))
        (pss_cons (ps_for powE rfl (pi_range1 (by rfl) T.fr_range (pa_cons pe_int pa_nil)) (pg_name (i := 5) sc_law.nd rfl (Or.inl rfl))
          (pss_one (ps_expr (pe_bm PySem.F.plainAttrs_list PySem.F.slot_list_append PySem.F.type_list_append mt_append (pv 4) (pa_cons (pe_disp (pps_cons pe_str (pe_tup (pa_cons pe_int (pa_cons pe_int pa_nil))) (pps_cons pe_str (pe_lst pa_nil) (pps_cons pe_str pe_dnewK (pps_cons pe_str pe_dnewK pps_nil)))) (by rfl) (by rfl) (fun z => by cases z) (by decide)) pa_nil)))))
        (pss_cons (ps_for powE rfl (pi_list (pe_slice sl_list (pv 0) (po_some pe_int) (po_some pe_int))) (pg_name (i := 6) sc_law.nd rfl (Or.inl rfl))
          (pss_cons (ps_set (i := 7) sc_law.nd rfl (Or.inl rfl) (pe_callTy call_int1 (by rfl) T.fr_int boot_int (pa_cons (pe_cmpR op_eq (pe_op op_mod (pv 6) pe_int) pe_int (nomark _)) pa_nil)))
          (pss_cons (ps_set (i := 8) sc_law.nd rfl (Or.inl rfl) (pc_f (ok__law_row T) hr (by decide) T.gl__law_row tkE (pa_cons (pv 1) (pa_cons (pv 2) (pa_cons (pe_op op_fdiv (pv 6) pe_int) pa_nil)))))
          (pss_cons (ps_if (pt_val (pc_f (ok__law_beyond T) hr (by decide) T.gl__law_beyond tkE (pa_cons (pe_ix ix_list (pv 4) (pv 7) (fun _ _ => rfl)) (pa_cons (pe_split (pv 8) pe_str) pa_nil))))
            (pss_one ps_continue)
            pss_nil)
          (pss_cons (ps_set (i := 9) sc_law.nd rfl (Or.inl rfl) (pc_f (ok__law_told T) hr (by decide) T.gl__law_told tkE (pa_cons (pe_ix ix_list (pv 4) (pv 7) (fun _ _ => rfl)) (pa_cons (pe_split (pv 8) pe_str) pa_nil))))
          (pss_cons (ps_if (pt_not (pt_val (pc_f (ok__law_answered T) hr (by decide) T.gl__law_answered tkE (pa_cons (pe_ix ix_list (pv 3) (pv 7) (fun _ _ => rfl)) (pa_cons (pv 8) (pa_cons (pv 9) pa_nil))))))
            (pss_one (ps_ret pe_bl))
            pss_nil)
          (pss_one (ps_if (PW.pt (pw_and (pt_cmpR op_gt (pe_op op_mod (pe_ix ix_list (pc_f (ok__law_numbers T) hr (by decide) T.gl__law_numbers tkE (pa_cons (pv 6) (pa_cons pe_int pa_nil))) pe_int (fun _ _ => rfl)) pe_int) pe_int (nomark _)) (pw_and1 (pt_not (pt_val (pc_f (ok__law_left T) hr (by decide) T.gl__law_left tkE (pa_cons (pv 3) (pa_cons (pv 4) pa_nil))))))))
            (pss_one (ps_ret pe_bl))
            pss_nil))))))))
        (pss_one (ps_ret (pc_f (ok__law_left T) hr (by decide) T.gl__law_left tkE (pa_cons (pv 3) (pa_cons (pv 4) pa_nil))))))))))), ?_⟩
    refine seq_named5 (fun σ' H' => ∃ (r1 r2 Ld Ls d0 d1 e0 e1 : Addr) (n0 n1 t0 t1 t2 : Str) (v : Option V), σ' = [some (.ref a), some (.ref r1), some (.ref r2), some (.ref Ld), some (.ref Ls), v, none, none, none, none] ∧ Same H H' ∧
      H' r1 = some (.lst [.str n0, .str n1]) ∧ H' r2 = some (.lst [.str t0, .str t1, .str t2]) ∧ H' Ld = some (.lst [.ref d0, .ref d1]) ∧ H' Ls = some (.lst [.ref e0, .ref e1]) ∧ NameB n0 = true ∧ NameB n1 = true ∧ n0 ≠ n1 ∧ NameB t0 = true ∧ NameB t1 = true ∧ NameB t2 = true ∧
      Mn K H' (fun b => b = r1 ∨ b = r2 ∨ b = Ld ∨ b = Ls) d0 d1 e0 e1 0) (fun σ' H' hC => ?_) (fun M hM => ?_)
    · obtain ⟨r1, r2, Ld, Ls, d0, d1, e0, e1, n0, n1, t0, t1, t2, v, rfl, s1, k1, k2, k3, k4, gn0, gn1, gne, gt0, gt1, gt2, m⟩ := hC
      obtain ⟨ys, hys, hyl⟩ := slice_ints xs
      refine ⟨_, rfl, _, rfl, _, rfl, a, _, rfl, s1.seq hxs, fun X nX => ?_⟩
      rw [hys]
      have sX := (Same.refl H').upd (o := .lst (ys.map V.int)) nX
      obtain ⟨g0, h0, g1, h1, S0, S1, tw⟩ := m
      have tw := tw.keep (o := .lst (ys.map V.int)) nX
      refine ⟨X, rfl, ⟨_, SqL.of upd_same⟩, for_list (K := K) (a := X) (xs := ys.map V.int) (fun i σ H8 => ∃ v1 v2 v3 v4, σ = [some (.ref a), some (.ref r1), some (.ref r2), some (.ref Ld), some (.ref Ls), v, v1, v2, v3, v4] ∧
        H8 r1 = some (.lst [.str n0, .str n1]) ∧ H8 r2 = some (.lst [.str t0, .str t1, .str t2]) ∧ H8 Ld = some (.lst [.ref d0, .ref d1]) ∧ H8 Ls = some (.lst [.ref e0, .ref e1]) ∧ H8 X = some (.lst (ys.map V.int)) ∧ Mn K H8 (fun b => (b = r1 ∨ b = r2 ∨ b = Ld ∨ b = Ls) ∨ b = X) d0 d1 e0 e1 i)
        ⟨none, none, none, none, rfl, sX _ _ k1, sX _ _ k2, sX _ _ k3, sX _ _ k4, upd_same, _, _, _, _, _, _, tw⟩ (fun i σ H8 _ ⟨_, _, _, _, _, _, _, _, _, q, _⟩ => SqL.of q) ?_ ?_⟩
      · rintro i y σ H8 hi ⟨v1, v2, v3, v4, rfl, k1, k2, k3, k4, k5, m⟩
        have hil : i < ys.length := by
          have z := (List.getElem?_eq_some_iff.mp hi).1
          rw [List.length_map] at z
          exact z
        rw [List.getElem?_map, List.getElem?_eq_getElem hil] at hi
        cases hi
        generalize ys[i] = c
        obtain ⟨k, hk2, hk⟩ : ∃ k : Nat, k < 2 ∧ (if decide (V.int (c % 4) = V.int 3) = true then (1 : Int) else 0) = (k : Int) := by
          by_cases z : V.int (c % 4) = V.int 3
          · rw [decide_eq_true z]; exact ⟨1, by decide, rfl⟩
          · rw [decide_eq_false z]; exact ⟨0, by decide, rfl⟩
        refine ⟨_, rfl, _, _, rfl, rfl, (by show (0 : Int) < 4; decide), rfl, .inr ⟨_, rfl, ?_⟩⟩
        rw [hk]
        refine ⟨_, rfl, _, rfl, _, rfl, _, _, rfl, rfl, ⟨by decide, by decide⟩, r1, r2, n0, n1, t0, t1, t2, _, rfl, k1, k2, gn0, gn1, gne, gt0, gt1, gt2, fun H9 r s9 rw_ => ?_⟩
        obtain ⟨d, e, d', e', g, h, g', h', S, S', tw, ad, ae, back⟩ := m.at_ k hk2
        have W := words_ok rw_
        have tw9 := tw.same s9
        refine ⟨_, rfl, _, rfl, Ls, _, _, _, rfl, rfl, SqL.of (s9 _ _ k4), ae, _, rfl, ⟨_, rfl⟩, _, _, rfl, rfl, rfl, (by have := W.len; rw [sizeLine_eq]; omega), fun W1 nW1 => ?_⟩
        rw [W.split]
        have tw9b := tw9.same ((Same.refl H9).upd (o := .lst (r.words.map .str)) nW1)
        refine ⟨e, W1, h, i, S, r, rfl, tw9b.b.L, upd_same, rw_, fun H10 s10 => ⟨_, rfl, ?_⟩⟩
        have s810 := (s9.trans ((Same.refl H9).upd (o := .lst (r.words.map .str)) nW1)).trans s10
        have tw10 := tw9b.same s10
        cases hb : beyondB S r with
        | true =>
          refine iteT ?_
          exact ⟨_, _, _, _, rfl, s810 _ _ k1, s810 _ _ k2, s810 _ _ k3, s810 _ _ k4, s810 _ _ k5, back _ _ _ _ _ _ _ _ (tw10.up (by omega))⟩
        | false =>
          refine iteF ?_
          refine ⟨_, rfl, _, rfl, Ls, _, _, _, rfl, rfl, SqL.of (s810 _ _ k4), ae, _, rfl, ⟨_, rfl⟩, _, _, rfl, rfl, rfl, (by have := W.len; rw [sizeLine_eq]; omega), fun W2 nW2 => ?_⟩
          rw [W.split]
          have ok := rowOk_of rw_ hb
          have s11 : Same H10 (upd H10 W2 (.lst (r.words.map .str))) := (Same.refl H10).upd nW2
          have tw11 := tw10.same s11
          have s811 := s810.trans s11
          refine ⟨e, W2, h, i, S, r, rfl, tw11.b.L, upd_same, ok, fun u S2 est H12 h2 due nx1 hdue => ?_⟩
          have D12 := tw11.mid nx1
          have k3' := nx1.f _ _ (s811 _ _ k3) (tw11.ke Ld (.inl (.inr (.inr (.inl rfl)))))
          have ok2 : SxOk (i + 1) S2 := by
            have := step_ok tw11.b.L.ok (by omega) ok
            rw [est] at this
            exact this
          refine ⟨_, rfl, _, rfl, Ld, _, _, _, rfl, rfl, SqL.of k3', ad, _, rfl, _, rfl, d, due, g, i, S, S2, r, u, rfl, D12, ok, hdue, est, fun H13 g2 nx2 => ?_⟩
          obtain ⟨tw13, kp⟩ := tw11.step nx1 nx2 ok2 (by omega)
          have K1 := kp r1 _ (.inl (.inl rfl)) (s811 _ _ k1)
          have K2 := kp r2 _ (.inl (.inr (.inl rfl))) (s811 _ _ k2)
          have K3 := kp Ld _ (.inl (.inr (.inr (.inl rfl)))) (s811 _ _ k3)
          have K4 := kp Ls _ (.inl (.inr (.inr (.inr rfl)))) (s811 _ _ k4)
          have K5 := kp X _ (.inr rfl) (s811 _ _ k5)
          have m13 := back _ _ _ _ _ _ _ _ tw13
          refine ⟨true, rfl, iteF ?_⟩
          refine ⟨_, rfl, c, 1, rfl, by decide, fun H14 nr ns' s14 nn hn hl _ => ?_⟩
          obtain ⟨z, rfl⟩ : ∃ z, ns' = [z] := by
            match ns', hl with
            | [z], _ => exact ⟨z, rfl⟩
          refine ⟨nr, _, _, _, rfl, rfl, SqL.of hn, rfl, _, _, rfl, rfl, (by show (0 : Int) < 3; decide), _, _, rfl, rfl, _, rfl, ?_⟩
          have fin : ∀ H15, Same H13 H15 → ∃ v1' v2' v3' v4', [some (V.ref a), some (.ref r1), some (.ref r2), some (.ref Ld), some (.ref Ls), v, some (.int c), some (.int k), some (.str r.text), some (.ref due)] = [some (V.ref a), some (.ref r1), some (.ref r2), some (.ref Ld), some (.ref Ls), v, v1', v2', v3', v4'] ∧
              H15 r1 = some (.lst [.str n0, .str n1]) ∧ H15 r2 = some (.lst [.str t0, .str t1, .str t2]) ∧ H15 Ld = some (.lst [.ref d0, .ref d1]) ∧ H15 Ls = some (.lst [.ref e0, .ref e1]) ∧ H15 X = some (.lst (ys.map V.int)) ∧ Mn K H15 (fun b => (b = r1 ∨ b = r2 ∨ b = Ld ∨ b = Ls) ∨ b = X) d0 d1 e0 e1 (i + 1) := fun H15 s15 => by
            obtain ⟨a0, a1, a2, a3, a4, a5, tt⟩ := m13
            exact ⟨_, _, _, _, rfl, s15 _ _ K1, s15 _ _ K2, s15 _ _ K3, s15 _ _ K4, s15 _ _ K5, _, _, _, _, _, _, tt.same s15⟩
          obtain ⟨a0, a1, a2, a3, a4, a5, tt⟩ := id m13
          have t14 := tt.same s14
          refine iteD (p := _) (fun _ => ?_) (fun _ => ?_)
          · exact ⟨_, rfl, _, rfl, Ld, Ls, d0, d1, e0, e1, a0, a2, a1, a3, _, a4, a5, rfl, s14 _ _ K3, s14 _ _ K4, t14.b, t14.b', fun H15 s15 => ⟨true, rfl, iteF (fin H15 (s14.trans s15))⟩⟩
          · exact iteF (fin _ s14)
      · rintro σ H8 ⟨v1, v2, v3, v4, rfl, k1, k2, k3, k4, k5, a0, a1, a2, a3, a4, a5, tt⟩
        exact ⟨_, rfl, _, rfl, Ld, Ls, d0, d1, e0, e1, a0, a2, a1, a3, _, a4, a5, rfl, k3, k4, tt.b, tt.b', fun H15 _ => kk H15⟩
    refine ⟨_, rfl, a, xs, rfl, hxs, by omega, fun c0 Ha sa => ⟨c0, 2, rfl, by decide, by decide, fun H1 r1 ns s1 nr1 hr1 hnl hnb hne => ?_⟩⟩
    have sa1 := sa.trans s1
    refine ⟨_, rfl, a, xs, rfl, sa1.seq hxs, by omega, fun c1 Hb sb => ⟨_, _, rfl, rfl, .inr ⟨by decide, by decide⟩, _, _, rfl, rfl, _, 3, rfl, by decide, by decide, fun H2 r2 ts s2 nr2 hr2 htl htb _ => ?_⟩⟩
    have s12 := sb.trans s2
    have sa2 := sa1.trans s12
    refine fun d0 x0 nd0 nx0 nxd0 => ⟨d0, x0, rfl, upd_same, fun H3 g0 D0 o0 f0 => ⟨rfl, fun d1 x1 nd1 nx1 nxd1 => ⟨d1, x1, rfl, upd_same, fun H4 g1 D1 o1 f1 => ⟨rfl, by show 2 ≤ sizeLine; decide, fun Ld nLd => ?_⟩⟩⟩⟩
    have s3 : Same H2 H3 := desk_new nd0 nx0 nxd0 f0
    have s4 : Same H3 H4 := desk_new nd1 nx1 nxd1 f1
    have q0 : ∀ b, own d0 g0 s0 b → H2 b = none := fun b hb => desk_own nd0 (o0 b hb)
    have q1 : ∀ b, own d1 g1 s0 b → H3 b = none := fun b hb => desk_own nd1 (o1 b hb)
    have s5 : Same H4 (upd H4 Ld (.lst [.ref d0, .ref d1])) := (Same.refl H4).upd nLd
    have hLd : upd H4 Ld (.lst [.ref d0, .ref d1]) Ld = some (.lst [.ref d0, .ref d1]) := upd_same
    have T0 : Tk (own d0 g0 s0) H3 := D0.x.tk (cD_ok K)
    have T1 : Tk (own d1 g1 s0) H4 := D1.x.tk (cD_ok K)
    have T05 := (T0.same s4).same s5
    have T15 := T1.same s5
    have D0 := (D0.same s4).same s5
    have D1 := D1.same s5
    generalize upd H4 Ld (.lst [.ref d0, .ref d1]) = H5 at s5 hLd D0 D1 T05 T15 ⊢
    have s25 := (s3.trans s4).trans s5
    refine ⟨by show 0 ≤ sizeLine; decide, fun Ls nLs => ?_⟩
    refine ⟨2, rfl, by decide, by decide, for_range (n := 2) (fun i σ H7 => ∃ v, σ = [some (.ref a), some (.ref r1), some (.ref r2), some (.ref Ld), some (.ref Ls), v, none, none, none, none] ∧ ∃ es, es.length = i ∧ StL H5 H7 Ls es) ⟨none, rfl, [], rfl, (Same.refl H5).upd nLs, upd_same, (fun y hy => nomatch hy), .nil⟩ ?_ ?_⟩
    · rintro i σ H7 hi ⟨v, rfl, es, hes, st⟩
      have hLs := st.2.1
      refine ⟨_, rfl, .inl ⟨rfl, _, .inl (.inl hLs)⟩, fun p np => ⟨by show 2 ≤ sizeLine; decide, fun pt npt => ⟨by show 0 ≤ sizeLine; decide, fun l nl pd npd kd nkd => ?_⟩⟩⟩
      obtain ⟨w1, w2, w3, w4⟩ := lit_state rfl rfl rfl rfl rfl np npt nl npd nkd
      obtain ⟨u1, u2⟩ := st.put nLs w2 w3 w4
      refine ⟨w1, stD pt l pd kd, rfl, by show 4 ≤ 15; decide, Ls, _, _, rfl, rfl, u1, (by rw [List.length_map, sizeLine_eq]; omega), ?_⟩
      exact ⟨_, rfl, es ++ [(p, gk0 p l pd kd)], by rw [List.length_append, hes]; rfl, u2⟩
    · rintro σ H7 ⟨v, rfl, es, hes, s57, hLs, hL, pw⟩
      obtain ⟨⟨e0, h0⟩, ⟨e1, h1⟩, rfl⟩ : ∃ y z, es = [y, z] := by
        match es, hes with
        | [y, z], _ => exact ⟨y, z, rfl⟩
      obtain ⟨L0, p0⟩ := hL _ List.mem_cons_self
      obtain ⟨L1, p1⟩ := hL _ (List.mem_cons_of_mem _ List.mem_cons_self)
      have ee : Dj (own e0 h0 s0) (own e1 h1 s0) := (List.pairwise_cons.mp pw).1 _ List.mem_cons_self
      obtain ⟨n0, n1, rfl⟩ : ∃ y z, ns = [y, z] := by
        match ns, hnl with
        | [y, z], _ => exact ⟨y, z, rfl⟩
      obtain ⟨t0, t1, t2, rfl⟩ : ∃ x y z, ts = [x, y, z] := by
        match ts, htl with
        | [x, y, z], _ => exact ⟨x, y, z, rfl⟩
      have s27 := s25.trans s57
      have k1 := s27 _ _ (s12 _ _ hr1)
      have k2 := s27 _ _ hr2
      have k3 := s57 _ _ hLd
      have D0 := D0.same s57
      have D1 := D1.same s57
      refine hM _ _ ⟨r1, r2, Ld, Ls, d0, d1, e0, e1, n0, n1, t0, t1, t2, v, rfl, sa2.trans s27, k1, k2, k3, hLs, hnb _ List.mem_cons_self, hnb _ (List.mem_cons_of_mem _ List.mem_cons_self), hne _ _ rfl rfl, htb _ List.mem_cons_self, htb _ (List.mem_cons_of_mem _ List.mem_cons_self), htb _ (List.mem_cons_of_mem _ (List.mem_cons_of_mem _ List.mem_cons_self)),
        g0, h0, g1, h1, s0, s0, ⟨D0, L0⟩, ⟨D1, L1⟩, fun b hb hc => T05 b hb (p0 b hc).1, fun b hb hc => T0 b hb (q1 b hc), fun b hb hc => T05 b hb (p1 b hc).1, fun b hb hc => T15 b hc (p0 b hb).1, ee, fun b hb hc => T15 b hb (p1 b hc).1, fun b hb hc => ?_, fun b hb hc => ?_, fun b hb hc => ?_, fun b hb hc => ?_, fun b hb z => ?_⟩
      · rcases hb with rfl | rfl | rfl | rfl
        · exact absurd (q0 _ hc) (by rw [s12 _ _ hr1]; exact fun z => nomatch z)
        · exact absurd (q0 _ hc) (by rw [hr2]; exact fun z => nomatch z)
        · exact (T0.same s4) _ hc nLd
        · exact T05 _ hc nLs
      · rcases hb with rfl | rfl | rfl | rfl
        · exact absurd (p0 _ hc).1 (by rw [s25 _ _ (s12 _ _ hr1)]; exact fun z => nomatch z)
        · exact absurd (p0 _ hc).1 (by rw [s25 _ _ hr2]; exact fun z => nomatch z)
        · exact absurd (p0 _ hc).1 (by rw [hLd]; exact fun z => nomatch z)
        · exact (p0 _ hc).2 rfl
      · rcases hb with rfl | rfl | rfl | rfl
        · exact absurd (q1 _ hc) (by rw [s3 _ _ (s12 _ _ hr1)]; exact fun z => nomatch z)
        · exact absurd (q1 _ hc) (by rw [s3 _ _ hr2]; exact fun z => nomatch z)
        · exact T1 _ hc nLd
        · exact T15 _ hc nLs
      · rcases hb with rfl | rfl | rfl | rfl
        · exact absurd (p1 _ hc).1 (by rw [s25 _ _ (s12 _ _ hr1)]; exact fun z => nomatch z)
        · exact absurd (p1 _ hc).1 (by rw [s25 _ _ hr2]; exact fun z => nomatch z)
        · exact absurd (p1 _ hc).1 (by rw [hLd]; exact fun z => nomatch z)
        · exact (p1 _ hc).2 rfl
      · rcases hb with rfl | rfl | rfl | rfl
        · rw [k1] at z; cases z
        · rw [k2] at z; cases z
        · rw [k3] at z; cases z
        · rw [hLs] at z; cases z
end
end Ev

set_option Elab.async false
set_option linter.all false
set_option maxRecDepth 100000
set_option maxHeartbeats 2000000
/-! The end. -/
namespace Ev
open PySem PySem.Spec PyProof.Rows L2 He TL
theorem walk : PySem.W.WalkO (PySem.W.view R.prog [98]) loose (PySem.W.XL (PySem.W.view R.prog [98]) []) hkE.says R.toRowW (HandSHeadRun.topDef R.prog 98) [] (fun f vs => PySem.call f vs) := by
  refine Att.attach_call (l := PySem.Challenge.rw_evenpick_k60_whole_one_purse) (n := 63) rfl (by kernel_rfl) fun w s₀ s₁ mg mb fa o pm cd doc a vs ns G Y ho hd hcd hmg hobj hints hlen hg => ?_
  obtain ⟨K, KX, c⟩ := Y
  have T : Tx w K mg s₁.heap := ⟨KX, G.T.g, c⟩
  have hmg2 : mg ("law" : PySem.Str) = some (.ref fa) := by
    have e : (HandSHeadRun.topDef R.prog 98).name = ("law" : PySem.Str) := by kernel_rfl
    rw [← e]
    exact hmg
  have e := hmg2.symm.trans T.gl_law
  cases e
  obtain ⟨fd, F⟩ := T.fn_law
  have b := FunD.bindsA (ps := ["_law_script"]) F fun _ _ _ _ _ _ us hl => match us, hl with | [_], _ => rfl
  exact L2.law_call (k := 12) (x := "_law_script") (sp := sp_law K) (CX := L2.CX R.prog w) KX G.T.g G.T.b G.T.builtins G.T.nolimit hg hobj hints (Nat.le_trans hlen (by decide)) ⟨rfl, by decide, by decide⟩ (fun base _ _ => fn_law T F) (fun s u => b s [u] rfl) (fun H hO hS => ⟨a, ns, rfl, hS, hlen, fun _ => rfl⟩) fun H e s' h => by
    obtain ⟨_, _, _, _, _, _, _, _, _, _, _, _, z⟩ := h
    exact z
end Ev
open PySem PySem.W PySem.Calls PyProof.Rows
theorem PySem.Challenge.cw_evenpick_k60_whole_one_purse_holds : PySem.Challenge.rw_evenpick_k60_whole_one_purse.Holds := by
  w_on; o_law
  refine HandSHeadRun.head_any (r := OpenLaw.row PySem.Challenge.rw_evenpick_k60_whole_one_purse) (q := view (OpenLaw.row PySem.Challenge.rw_evenpick_k60_whole_one_purse).prog [98]) (H := Ev.hkE) (ob := Ev.obE) (M := 6200) (loose := Ev.loose) (d := HandSHeadRun.topDef (OpenLaw.row PySem.Challenge.rw_evenpick_k60_whole_one_purse).prog 98) (kwd := []) Ev.obE_eq
    (by kernel_rfl) (fun s => by kernel_rfl) Ev.run (by kernel_rfl) (by kernel_rfl) (by kernel_rfl) (by rfl) (by first | assumption | decide +kernel) (by decide +kernel) ⟨rfl, rfl, rfl, rfl, rfl, by decide +kernel⟩ ?hw ?hc
  case hw => w_witness2
  case hc => exact Ev.walk
