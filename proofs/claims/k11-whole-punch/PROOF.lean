import PyProof.Rows.All
import Wide.All
import OpenK.AllK
import Wide.FinOn
import HandS.ForMost
import HandS.Evl
import HandS.Walk
import HandS.IsInst
import HandS.Wide
import HandS.Conv
import HandS.Style
import HandS.DictComp
import KE.GoesEnum
import KE.GoesMore
import HandS.TupLe
import HandS.SetFor
import KE.DataCmp
import HandS.SortKw
import HandS.RevRange
import KE.DataMinMax
import PyProof.Rows.StrRev
import HandS.SetKeys
import HandS.More
import HandS.Steps
import KE.SortData
import KE.KDictWalk
import KE.KDictList
import KE.KDictDisplayH
import HandS.Lambda
import KE.SortKeyHeap
import HandS.Defaults
import HandS.TupSets
import HandS.Small
import KE.KEqNest
import PyProof.NeKinds
import HandS.Finally
import HandS.HeadHook1
import HandS.HeadHook2
import HandS.HeadHook3
import HandS.HeadHook4
import HandS.Head0
import HandS.Head1
import HandS.Head2
import HandS.ExcOwn
import HandS.ExcCtx
import HandS.ExcInit
import HandS.ExcField
import HandS.TryMany
import HandS.HotCalls
import HandS.ClsMeth
import HandS.ExcIs
import KE.KStateDown
import HandS.HeadEnd
import HandS.EndTab
import HandS.HeadWalk
import PySem.Challenge.RW_holetape_k11_whole_punch
set_option Elab.async false
set_option linter.all false
set_option maxRecDepth 100000
set_option maxHeartbeats 4000000
set_option autoImplicit false
namespace Ho
open PySem PySem.Spec PyProof.Rows L2 Evl
def S (l : List Nat) : Str := ⟨l.toArray⟩
abbrev VS (l : List Nat) : V := .str (S l)
theorem S_len (l : List Nat) : (S l).length = l.length := by
  show l.toArray.size = l.length
  simp
theorem S_cps (l : List Nat) : (S l).cps.toList = l := by
  show l.toArray.toList = l
  simp
theorem S_inj {a b : List Nat} (h : S a = S b) : a = b := by
  have := congrArg (fun z : Str => z.cps.toList) h
  simpa [S] using this
theorem S_add (a b : List Nat) : S a ++ S b = S (a ++ b) := by
  show (⟨_⟩ : Str) = ⟨_⟩
  simp [S]
theorem VS_inj {a b : List Nat} (h : VS a = VS b) : a = b := S_inj (V.str.inj h)
theorem VS_ne {a b : List Nat} (h : a ≠ b) : VS a ≠ VS b := fun e => h (VS_inj e)
theorem dec_VS (a b : List Nat) : decide (VS a = VS b) = decide (a = b) := by
  by_cases h : a = b
  · subst h; simp
  · rw [decide_eq_false h, decide_eq_false (VS_ne h)]
theorem dec_VI (a b : Int) : decide (V.int a = V.int b) = decide (a = b) := by
  by_cases h : a = b
  · subst h; simp
  · rw [decide_eq_false h, decide_eq_false fun e => h (V.int.inj e)]
theorem dec_VB (a b : Bool) : decide (V.bl a = V.bl b) = decide (a = b) := by
  cases a <;> cases b <;> rfl
abbrev Txts (t : List (List Nat)) : List V := t.map VS
abbrev Ints (t : List Int) : List V := t.map V.int
section
variable {X : Cx}
theorem pe_gs {x : Str} {l : List Nat} {pos : Pos} (hg : Gl X x) (hm : ∃ t, X.mg x = some (.str (S l) t)) (hd : (x == ("__debug__" : Str)) = false := by decide) : PE X (.Name x pos) (tC (VS l)) := by
  obtain ⟨t, hm⟩ := hm
  exact pe_glob hg hm ⟨t, rfl⟩ hd
theorem pe_gi {x : Str} {i : Int} {pos : Pos} (hg : Gl X x) (hm : ∃ t, X.mg x = some (.int i t)) (hd : (x == ("__debug__" : Str)) = false := by decide) : PE X (.Name x pos) (tC (.int i)) := by
  obtain ⟨t, hm⟩ := hm
  exact pe_glob hg hm ⟨t, rfl⟩ hd
end
structure DefAt (K : PySem.W.Frag) (mg : Str → Option Value) (x qual : Str) (st : Stmt) (ps : List Str) : Prop where
  ex : ∃ f fd, mg x = some (.ref f) ∧ Fun K x qual st f fd ∧ Binds K fd ps []
structure OkF (P : Program) (w : World) (K : PySem.W.Frag) (mg : Str → Option Value) (base : Heap) (CX : CXT) (x : Str) (k : Nat) (sp : Sp) : Prop where
  ex : ∃ f fd ps, mg x = some (.ref f) ∧ PySem.W.keepIn K (.ref f) = true ∧ Binds K fd ps [] ∧ FnOk P w K mg base CX k f fd ps sp
section
variable {P : Program} {w : World} {K : PySem.W.Frag} {mg : Str → Option Value} {base : Heap}
theorem OkF.of {x qual : Str} {st : Stmt} {ps N : List Str} {k : Nat} {sp : Sp} (D : DefAt K mg x qual st ps) (Sc : FnScope N ps (defScope st)) (len : ∀ vs H Q E, sp vs H Q E → vs.length = ps.length)
    (hbody : ∀ (f : Addr) (cdv : Value) (A : Around) (outer : List Env) (s : Shared) (H : Hp) (vs : List V) (Q : VK) (E : XK), Room k (A.deeper (envOfC qual (defScope st) s.heap.objs.size f cdv)) → sp vs H Q E →
      ∃ t, PSs (cxOf CX0 P w K mg base N qual (defScope st) f cdv A outer s H E).nox (defBody st) t ∧ t { nx := fun _ H' => Q .non H', rt := Q } (start N vs) H) : OkF P w K mg base CX0 x (k + 1) sp := by
  obtain ⟨f, fd, hm, F, b⟩ := D.ex
  exact ⟨f, fd, ps, hm, F.kp, b, F.ok Sc len (hbody f)⟩
end
def tCallO (sp : Sp) (E : XK) (t : TA) : TE := fun σ H Q => t σ H fun vs H1 => sp vs H1 Q E
theorem tCallO_eq (sp : Sp) (E : XK) (t : TA) : tCall sp [] E t = tCallO sp E t := by
  funext σ H Q
  unfold tCall tCallO
  simp only [List.append_nil]
section
variable {X : Cx} {CX : CXT} {k j : Nat} {sp : Sp} {E : XK} {x : Str} {p pos : Pos} {e : Expr} {es : List Expr} {t : TA}
theorem pe_callO (O : OkF X.prog X.w X.K X.mg X.base CX x k sp) (hr : Room j X.A) (hg : Gl X x) (hx : Passes CX X E) (ha : PA X (e :: es) t) (hk : k ≤ j := by decide)
    (hdb : (x == ("__debug__" : Str)) = false := by decide) (he : starEach (e :: es) X.env = (false, eval e X.env) :: starEach es X.env := by rfl) (hpl : (backTo pos (starEach es X.env)).any (·.1) = false := by rfl) :
    PE X (.Call (.Name x p) (e :: es) [] pos) (tCallO sp E t) := by
  obtain ⟨f, fd, ps, hm, hkp, hb, F⟩ := O.ex
  rw [← tCallO_eq]
  exact pe_call F (hr.mono hk) hg hm hkp hb .nil hx ha hdb he hpl
end
def SL (K : PySem.W.Frag) (H : Hp) (a : Addr) (xs : List V) : Prop := Rd H a (.lst xs)
def ST (K : PySem.W.Frag) (H : Hp) (a : Addr) (xs : List V) : Prop := Rd H a (.tup xs)
theorem SL.q {K : PySem.W.Frag} {H : Hp} {a : Addr} {xs : List V} (h : SL K H a xs) : SqL K H a xs := .inl h
theorem ST.q {K : PySem.W.Frag} {H : Hp} {a : Addr} {xs : List V} (h : ST K H a xs) : SqT K H a xs := .inl h
theorem exl {K : PySem.W.Frag} {H H' : Hp} {a : Addr} {xs : List V} (e : Ex H H') (h : SL K H a xs) : SL K H' a xs := ex_rd e h
theorem ext {K : PySem.W.Frag} {H H' : Hp} {a : Addr} {xs : List V} (e : Ex H H') (h : ST K H a xs) : ST K H' a xs := ex_rd e h
theorem slof {K : PySem.W.Frag} {H : Hp} {a : Addr} {xs : List V} (h : H a = some (.lst xs)) : SL K H a xs := .inl h
theorem stof {K : PySem.W.Frag} {H : Hp} {a : Addr} {xs : List V} (h : H a = some (.tup xs)) : ST K H a xs := .inl h
theorem rd_ne {H : Hp} {a : Addr} {u : HO} (h : Rd H a u) : H a ≠ none := by
  rcases h with h | ⟨o, h⟩ <;> rw [h] <;> simp
theorem SL.ne {K : PySem.W.Frag} {H : Hp} {a d : Addr} {xs : List V} (h : SL K H a xs) (n : H d = none) : a ≠ d := fun e => rd_ne h (e ▸ n)
theorem ST.ne {K : PySem.W.Frag} {H : Hp} {a d : Addr} {xs : List V} (h : ST K H a xs) (n : H d = none) : a ≠ d := fun e => rd_ne h (e ▸ n)
/-- to a list of these, new or not -/
def EvQ (K : PySem.W.Frag) (te : TE) (σ : L2.St) (H : Hp) (xs : List V) : Prop := ∀ H1, Ex H H1 → ∀ Q : VK, (∀ a H2, Ex H1 H2 → SL K H2 a xs → Q (.ref a) H2) → te σ H1 Q
/-- to something of which P holds -/
def EvG (te : TE) (σ : L2.St) (H : Hp) (P : V → Hp → Prop) : Prop := ∀ H1, Ex H H1 → ∀ Q : VK, (∀ v H2, Ex H1 H2 → P v H2 → Q v H2) → te σ H1 Q
/-- to a new dict -/
def EvD (te : TE) (σ : L2.St) (H : Hp) (kvs : List (Key × V)) : Prop := ∀ H1, Ex H H1 → ∀ Q : VK, (∀ p H2, H1 p = none → Ex H1 H2 → H2 p = some (.dK kvs) → Q (.ref p) H2) → te σ H1 Q
def Mon (P : V → Hp → Prop) : Prop := ∀ v H H', Ex H H' → P v H → P v H'
def isV (v : V) : V → Hp → Prop := fun u _ => u = v
def isL (K : PySem.W.Frag) (xs : List V) : V → Hp → Prop := fun u H => ∃ a, u = .ref a ∧ SL K H a xs
def isQ (K : PySem.W.Frag) (xs : List V) : V → Hp → Prop := fun u H => ∃ a, u = .ref a ∧ SqL K H a xs
def isD (kvs : List (Key × V)) : V → Hp → Prop := fun u H => ∃ a, u = .ref a ∧ H a = some (.dK kvs)
def AllP : List (V → Hp → Prop) → List V → Hp → Prop
  | [], vs, _ => vs = []
  | P :: Ps, vs, H => ∃ v r, vs = v :: r ∧ P v H ∧ AllP Ps r H
theorem AllP.length : ∀ {Ps : List (V → Hp → Prop)} {vs : List V} {H : Hp}, AllP Ps vs H → vs.length = Ps.length
  | [], vs, H, h => by rw [show vs = [] from h]; rfl
  | P :: Ps, vs, H, h => by
    obtain ⟨v, r, rfl, _, t⟩ := h
    rw [List.length_cons, List.length_cons, AllP.length t]
def EvAG (ta : TA) (σ : L2.St) (H : Hp) (Ps : List (V → Hp → Prop)) : Prop := ∀ H1, Ex H H1 → ∀ Q : List V → Hp → Prop, (∀ vs H2, Ex H1 H2 → AllP Ps vs H2 → Q vs H2) → ta σ H1 Q
theorem mon_V (v : V) : Mon (isV v) := fun _ _ _ _ h => h
theorem mon_L (K : PySem.W.Frag) (xs : List V) : Mon (isL K xs) := fun _ _ _ e ⟨a, h1, h2⟩ => ⟨a, h1, exl e h2⟩
theorem mon_D (kvs : List (Key × V)) : Mon (isD kvs) := fun _ _ _ e ⟨a, h1, h2⟩ => ⟨a, h1, e a _ h2⟩
section
variable {K : PySem.W.Frag} {σ : L2.St} {H H' : Hp} {ta tb te tx tl : TE} {t u : TT} {x y z v : V} {r : R2} {xs ys : List V} {P : V → Hp → Prop} {Ps : List (V → Hp → Prop)} {tr : TA}
theorem EvQ.mono (e : Ex H H') (h : EvQ K te σ H xs) : EvQ K te σ H' xs := fun H1 a Q q => h H1 (e.trans a) Q q
theorem EvG.mono (e : Ex H H') (h : EvG te σ H P) : EvG te σ H' P := fun H1 a Q q => h H1 (e.trans a) Q q
theorem EvAG.mono {ta : TA} (e : Ex H H') (h : EvAG ta σ H Ps) : EvAG ta σ H' Ps := fun H1 a Q q => h H1 (e.trans a) Q q
theorem q_new (h : EvL te σ H xs) : EvQ K te σ H xs := fun H1 e Q q => h H1 e Q fun p H2 _ e2 h2 => q p H2 e2 (slof h2)
theorem q_old {a : Addr} (h : Ev te σ H (.ref a)) (hs : SL K H a xs) : EvQ K te σ H xs := fun H1 e Q q => h H1 e Q fun H2 e2 => q a H2 e2 (exl (e.trans e2) hs)
theorem g_V (h : Ev te σ H v) : EvG te σ H (isV v) := fun H1 e Q q => h H1 e Q fun H2 e2 => q v H2 e2 rfl
theorem g_L (h : EvQ K te σ H xs) : EvG te σ H (isL K xs) := fun H1 e Q q => h H1 e Q fun a H2 e2 h2 => q _ H2 e2 ⟨a, rfl, h2⟩
theorem g_D {kvs : List (Key × V)} (h : EvD te σ H kvs) : EvG te σ H (isD kvs) := fun H1 e Q q => h H1 e Q fun a H2 _ e2 h2 => q _ H2 e2 ⟨a, rfl, h2⟩
theorem g_Dold {a : Addr} {kvs : List (Key × V)} (h : Ev te σ H (.ref a)) (hs : H a = some (.dK kvs)) : EvG te σ H (isD kvs) := fun H1 e Q q => h H1 e Q fun H2 e2 => q _ H2 e2 ⟨a, rfl, e2 _ _ (e _ _ hs)⟩
theorem ag_nil : EvAG tNil σ H [] := fun H1 _ Q q => q [] H1 (Ex.refl H1) rfl
theorem ag_cons (h : EvG te σ H P) (m : Mon P) (hr : EvAG tr σ H Ps) : EvAG (tCons te tr) σ H (P :: Ps) := fun H1 e Q q =>
  h H1 e _ fun v H2 e2 hp => hr H2 (e.trans e2) _ fun vs H3 e3 hq => q _ H3 (e2.trans e3) ⟨v, vs, rfl, m v _ _ e3 hp, hq⟩
theorem ag_V (h : Ev te σ H v) (hr : EvAG tr σ H Ps) : EvAG (tCons te tr) σ H (isV v :: Ps) := ag_cons (g_V h) (mon_V v) hr
theorem ag_L (h : EvQ K te σ H xs) (hr : EvAG tr σ H Ps) : EvAG (tCons te tr) σ H (isL K xs :: Ps) := ag_cons (g_L h) (mon_L K xs) hr
theorem ag_D {kvs : List (Key × V)} (h : EvG te σ H (isD kvs)) (hr : EvAG tr σ H Ps) : EvAG (tCons te tr) σ H (isD kvs :: Ps) := ag_cons h (mon_D kvs) hr
def spV (n : Nat) (R : List V → Hp → V → Prop) : Sp := fun vs H Q _ => vs.length = n ∧ ∃ z H0, Ex H0 H ∧ R vs H0 z ∧ RetV z H Q
def spL (n : Nat) (R : List V → Hp → List V → Prop) : Sp := fun vs H Q _ => vs.length = n ∧ ∃ xs H0, Ex H0 H ∧ R vs H0 xs ∧ RetL xs H Q
def spD (n : Nat) (R : List V → Hp → List (Key × V) → Prop) : Sp := fun vs H Q _ => vs.length = n ∧ ∃ kvs H0, Ex H0 H ∧ R vs H0 kvs ∧ ∀ p H2, H p = none → Ex H H2 → H2 p = some (.dK kvs) → Q (.ref p) H2
theorem ev_callG {n : Nat} {R : List V → Hp → V → Prop} {E : XK} (h : EvAG tr σ H Ps) (hn : Ps.length = n) (hr : ∀ vs H1, Ex H H1 → AllP Ps vs H1 → R vs H1 z) : Ev (tCallO (spV n R) E tr) σ H z := fun H1 e Q q =>
  h H1 e _ fun vs H2 e2 hp => ⟨hp.length.trans hn, z, H2, Ex.refl H2, hr vs H2 (e.trans e2) hp, fun H3 e3 => q H3 (e2.trans e3)⟩
theorem el_callG {n : Nat} {R : List V → Hp → List V → Prop} {E : XK} (h : EvAG tr σ H Ps) (hn : Ps.length = n) (hr : ∀ vs H1, Ex H H1 → AllP Ps vs H1 → R vs H1 xs) : EvL (tCallO (spL n R) E tr) σ H xs := fun H1 e Q q =>
  h H1 e _ fun vs H2 e2 hp => ⟨hp.length.trans hn, xs, H2, Ex.refl H2, hr vs H2 (e.trans e2) hp, fun p H3 hp3 e3 h3 => q p H3 (fresh_back e2 hp3) (e2.trans e3) h3⟩
theorem ed_callG {n : Nat} {R : List V → Hp → List (Key × V) → Prop} {E : XK} {kvs : List (Key × V)} (h : EvAG tr σ H Ps) (hn : Ps.length = n) (hr : ∀ vs H1, Ex H H1 → AllP Ps vs H1 → R vs H1 kvs) : EvD (tCallO (spD n R) E tr) σ H kvs := fun H1 e Q q =>
  h H1 e _ fun vs H2 e2 hp => ⟨hp.length.trans hn, kvs, H2, Ex.refl H2, hr vs H2 (e.trans e2) hp, fun p H3 hp3 e3 h3 => q p H3 (fresh_back e2 hp3) (e2.trans e3) h3⟩
end
theorem Ev.is {te : TE} {σ : L2.St} {H : Hp} {v w : V} (h : Ev te σ H v) (e : v = w) : Ev te σ H w := e ▸ h
theorem EvL.is {te : TE} {σ : L2.St} {H : Hp} {v w : List V} (h : EvL te σ H v) (e : v = w) : EvL te σ H w := e ▸ h
theorem EvT.is {te : TT} {σ : L2.St} {H : Hp} {v w : Bool} (h : EvT te σ H v) (e : v = w) : EvT te σ H w := e ▸ h
end Ho
namespace Ho
open PySem PySem.Spec PyProof.Rows L2
theorem strit_at {h h' : Heap} {it : Addr} {T : String} {x : Str} {t : Tok} {i : Nat} (s : h.IsStrIter it T x t i) (k : ∀ o, h.get? it = some o → h'.get? it = some o) : h'.IsStrIter it T x t i :=
  let ⟨o, e, c, d⟩ := s; ⟨o, k o e, c, d⟩
def ItzS (x y : Str) : It :=
  ⟨fun i _ => i < x.cps.size ∧ i < y.cps.size,
    fun i H v H' => ∃ T c d, v = .ref T ∧ H T = none ∧ H' = upd H T (.tup [.str ⟨#[c]⟩, .str ⟨#[d]⟩]) ∧ x.cps[i]? = some c ∧ y.cps[i]? = some d,
    fun i _ => x.cps.size ≤ i ∨ y.cps.size ≤ i⟩
theorem turn_zipSS {P : Program} {w : World} {K : PySem.W.Frag} {elts : List Expr} {kk : Nat} {tpos : Pos} {x y : Str} {t1 t2 : Tok} {z TI TO i1 i2 : Addr} (D : ZipSep2 z TI TO i1 i2 [i1] [i2]) :
    Turn P w K (.Tuple elts kk tpos) (ItzS x y) [z, TI, TO, i1, i2] z (fun i h => i ≤ x.cps.size ∧ i ≤ y.cps.size ∧ IsZip h z TI TO .none ∧ IsTupOf2 h TI (.ref i1) (.ref i2) ∧ (∃ a b, IsTupOf2 h TO a b) ∧ h.IsStrIter i1 (strIterType x) x t1 i ∧ h.IsStrIter i2 (strIterType y) y t2 i) where
  mem := by simp
  obj := fun i h st c hc => by
    obtain ⟨_, _, hz, hTI, ⟨a, b, hTO⟩, ⟨o1, e1, _, d1⟩, ⟨o2, e2, _, d2⟩⟩ := st
    have e' : c = z ∨ c = TI ∨ c = TO ∨ c = i1 ∨ c = i2 := by simpa using hc
    rcases e' with q | q | q | q | q
    · rw [q]; exact ⟨_, hz, fun v q => nomatch q⟩
    · rw [q]; exact ⟨_, hTI, fun v q => nomatch q⟩
    · rw [q]; exact ⟨_, hTO, fun v q => nomatch q⟩
    · rw [q]; exact ⟨o1, e1, fun v q => by rw [d1] at q; cases q⟩
    · rw [q]; exact ⟨o2, e2, fun v q => by rw [d2] at q; cases q⟩
  keep := fun i h h' st k => by
    obtain ⟨l1, l2, hz, hTI, ⟨a, b, hTO⟩, h1, h2⟩ := st
    exact ⟨l1, l2, k z (by simp) _ hz, k TI (by simp) _ hTI, ⟨a, b, k TO (by simp) _ hTO⟩, strit_at h1 fun o q => k i1 (by simp) o q, strit_at h2 fun o q => k i2 (by simp) o q⟩
  item := by
    intro X hP hw hK hc i pins s σ H E I hf st hg
    subst hP hw hK
    obtain ⟨_, _, hz, hTI, ⟨x0, y0, hTO⟩, h1, h2⟩ := st
    obtain ⟨g1, g2⟩ := hg
    have hh := I.ok.hd hc
    have hzl : z < s.heap.objs.size := Heap.lt_size hz
    refine wpAny_pyNext_zipD2_item D (Draws.text (A := X.A.in1) hh i1 x t1) (Draws.text (A := X.A.in1) hh i2 y t2) hz hTI hTO h1 h2 g1 g2 fun u1 u2 h' tk y1 y2 b1 b2 d1 d2 b5 b6 hk => ?_
    obtain ⟨c, tc, ec, rfl⟩ := y1
    obtain ⟨d, td, ed, rfl⟩ := y2
    refine ⟨_, rfl, wpAny_letOwnedTupleGo_zip (s := { s with heap := h', toks := tk }) b1 fun h'' z'' sb => ?_⟩
    have hT2 : h''.get? s.heap.objs.size = some { cls := .type "tuple", data := .seq #[.str ⟨#[c]⟩ tc, .str ⟨#[d]⟩ td] } := (sb.2 _ (Nat.ne_of_gt hzl)).trans b5
    have new : ObjOk X.prog X.w (upd H s.heap.objs.size (.tup [.str ⟨#[c]⟩, .str ⟨#[d]⟩])) h'' s.heap.objs.size (.tup [.str ⟨#[c]⟩, .str ⟨#[d]⟩]) :=
      ⟨by show 2 ≤ sizeLine; decide, [.str ⟨#[c]⟩ tc, .str ⟨#[d]⟩ td], .cons ⟨_, rfl⟩ (.cons ⟨_, rfl⟩ .nil), ⟨_, hT2, rfl, _, rfl⟩⟩
    have I1 : Inv X pins σ (upd H s.heap.objs.size (.tup [.str ⟨#[c]⟩, .str ⟨#[d]⟩])) { s with heap := h'', toks := tk } :=
      I.turnedNew (ch := [z, TI, TO, i1, i2]) (fun c o hb q => (sb.2 c (fun q' => hb (by simp [q']))).trans (hk c o (fun q' => hb (by simp [q'])) (fun q' => hb (by simp [q'])) (fun q' => hb (by simp [q'])) (fun q' => hb (by simp [q'])) q)) hf (Nat.le_refl _) new
    refine ⟨.ref s.heap.objs.size, _, I1, rfl, ⟨_, c, d, rfl, I.hok.fresh (Nat.le_refl _), rfl, ec, ed⟩, ⟨g1, g2, z'', ?_, ⟨.str ⟨#[c]⟩ tc, .str ⟨#[d]⟩ td, ?_⟩, ?_, ?_⟩, fun c hcm => ?_⟩
    · exact (sb.2 _ D.TIz).trans (hk _ _ D.TIz D.TITO D.TIi1 D.TIi2 hTI)
    · exact (sb.2 _ D.TOz).trans b2
    · exact strit_at d1 fun o q => (sb.2 _ (fun e => D.zi1 e.symm)).trans q
    · exact strit_at d2 fun o q => (sb.2 _ (fun e => D.zi2 e.symm)).trans q
    · have hlt : c < s.heap.objs.size := by
        have e' : c = z ∨ c = TI ∨ c = TO ∨ c = i1 ∨ c = i2 := by simpa using hcm
        rcases e' with q | q | q | q | q
        · rw [q]; exact hzl
        · rw [q]; exact Heap.lt_size hTI
        · rw [q]; exact Heap.lt_size hTO
        · rw [q]; obtain ⟨_, e1, _⟩ := h1; exact Heap.lt_size e1
        · rw [q]; obtain ⟨_, e2, _⟩ := h2; exact Heap.lt_size e2
      rw [upd_ne (Nat.ne_of_lt hlt)]
      exact (hf c hcm).1
  done := by
    intro X hP hw hK hc i pins s σ H E I hf st hg
    subst hP hw hK
    obtain ⟨l1, l2, hz, hTI, ⟨x0, y0, hTO⟩, h1, h2⟩ := st
    have hh := I.ok.hd hc
    have he : i = x.cps.size ∨ i = y.cps.size := by rcases hg with q | q <;> omega
    exact wpAny_pyNext_zipD2_end D (Draws.text (A := X.A.in1) hh i1 x t1) (Draws.text (A := X.A.in1) hh i2 y t2) hz hTI hTO h1 h2 l1 l2 he fun h' tk hk => ⟨rfl, I.turnedL (t' := tk) (ch := [z, TI, TO, i1, i2]) (fun c o hb q =>
      hk c o (fun q' => hb (by simp [q'])) (fun q' => hb (by simp [q'])) (fun q' => hb (by simp [q'])) (fun q' => hb (by simp [q'])) q) hf⟩
  self := fun A i s Q E st h => wpAny_pyIter_zip st.2.2.1 h
def iZipSS (ta : TA) : TI := fun σ H R => ta σ H fun vs H1 => ∃ x y, vs = [.str x, .str y] ∧ R (ItzS x y) H1
theorem pi_zipSS {X : Cx} {e e2 : Expr} {ta : TA} {p pos tpos : Pos} {elts : List Expr} {kk : Nat} (hg : Gl X "zip") (hm : X.mg "zip" = none) (ha : PA X [e, e2] ta)
    (hs : starEach [e, e2] X.env = (false, eval e X.env) :: starEach [e2] X.env := by rfl) (hpl : (backTo pos (starEach [e2] X.env)).any (·.1) = false := by rfl) :
    PI X (.Tuple elts kk tpos) (.Call (.Name "zip" p) [e, e2] [] pos) (iZipSS ta) := by
  refine ⟨fun pins s σ H R I h => ?_⟩
  refine Call_ (ld_blt I hg hm PyProof.Rows.boot_zip (PyProof.Rows.callWith_type1 (thn (ha.run pos pins s σ H _ I h) fun us s1 ⟨vs, H1, I1, r1, q1⟩ => ?_) hs hpl))
  obtain ⟨x, y, ex, q⟩ := q1
  subst ex
  cases r1 with
  | cons r rr =>
    cases rr with
    | cons r' rr =>
      cases rr
      obtain ⟨t1, rfl⟩ := r
      obtain ⟨t2, rfl⟩ := r'
      refine zip_begins2 (begins_text x t1) (begins_text y t2) trivial trivial fun h' hz hTI hTO g1 g2 hsz hk => wpAny_pyIter_zip hz ?_
      have I2 : Inv X pins σ H1 { s1 with heap := h' } := I1.kept (t' := s1.toks) hk
      refine ⟨s1.heap.objs.size + 4, [s1.heap.objs.size + 4, s1.heap.objs.size + 2, s1.heap.objs.size + 3, s1.heap.objs.size, s1.heap.objs.size + 1], _, _, H1, rfl, I2, turn_zipSS (t1 := t1) (t2 := t2) (zip_sep2 (fp1 := []) (fp2 := []) (by simp) (by simp)),
        ⟨Nat.zero_le _, Nat.zero_le _, hz, hTI, ⟨_, _, hTO⟩, ⟨_, g1, rfl, rfl⟩, ⟨_, g2, rfl, rfl⟩⟩, fun c hcm => ?_, q⟩
      have e' : c = s1.heap.objs.size + 4 ∨ c = s1.heap.objs.size + 2 ∨ c = s1.heap.objs.size + 3 ∨ c = s1.heap.objs.size ∨ c = s1.heap.objs.size + 1 := by simpa using hcm
      have hle : s1.heap.objs.size ≤ c := by
        rcases e' with z | z | z | z | z
        · rw [z]; exact Nat.le_add_right _ _
        · rw [z]; exact Nat.le_add_right _ _
        · rw [z]; exact Nat.le_add_right _ _
        · rw [z]; exact Nat.le_refl _
        · rw [z]; exact Nat.le_add_right _ _
      exact I1.fpOk hle (I1.hok.fresh hle)
end Ho
namespace Ho
open PySem PySem.Spec PyProof.Rows L2 Evl
abbrev Row := List Nat
/-- a dict of texts to texts -/
abbrev Dic := List (Row × Row)
def DS (r : Dic) : List (Key × V) := r.map fun p => (Sum.inr (S p.1), VS p.2)
def look (r : Dic) (k : Row) : Option Row := (r.find? fun p => decide (p.1 = k)).map (·.2)
def put (r : Dic) (k v : Row) : Dic := if (r.any fun p => decide (p.1 = k)) = true then r.map (fun p => if p.1 = k then (p.1, v) else p) else r ++ [(k, v)]
def dEq (r q : Dic) : Bool := r.length == q.length && r.all fun p => decide (look q p.1 = some p.2)
theorem keyS_eq {a b : Row} : (Sum.inr (S a) : Key) = Sum.inr (S b) ↔ a = b := ⟨fun h => S_inj (Sum.inr.inj h), fun h => by rw [h]⟩
theorem look_nil (k : Row) : look [] k = none := rfl
theorem look_cons (p : Row × Row) (r : Dic) (k : Row) : look (p :: r) k = if p.1 = k then some p.2 else look r k := by
  unfold look
  by_cases h : p.1 = k
  · simp [h]
  · simp [h]
theorem DS_val (k : Row) : ∀ r : Dic, valV (DS r) (Sum.inr (S k) : Key) = (look r k).map VS
  | [] => rfl
  | p :: r => by
    rw [look_cons]
    by_cases h : p.1 = k
    · rw [if_pos h]
      exact valV_pos (keyS_eq.mpr h)
    · rw [if_neg h, ← DS_val k r]
      exact valV_neg fun e => h (keyS_eq.mp e)
theorem DS_len (r : Dic) : (DS r).length = r.length := by simp [DS]
theorem DS_any (k : Row) (r : Dic) : ((DS r).any fun kv => decide (kv.1 = (Sum.inr (S k) : Key))) = r.any fun p => decide (p.1 = k) := by
  unfold DS
  rw [List.any_map]
  congr 1
  funext p
  show decide ((Sum.inr (S p.1) : Key) = Sum.inr (S k)) = decide (p.1 = k)
  by_cases h : p.1 = k
  · rw [h]; simp
  · rw [decide_eq_false h, decide_eq_false fun e => h (keyS_eq.mp e)]
theorem DS_put (r : Dic) (k v : Row) : putK (DS r) (Sum.inr (S k) : Key) (VS v) = DS (put r k v) := by
  unfold putK put
  rw [DS_any]
  by_cases h : (r.any fun p => decide (p.1 = k)) = true
  · rw [if_pos h, if_pos h]
    unfold DS
    rw [List.map_map, List.map_map]
    congr 1
    funext p
    show (if (Sum.inr (S p.1) : Key) = Sum.inr (S k) then _ else _) = ((Sum.inr (S (if p.1 = k then (p.1, v) else p).1) : Key), VS (if p.1 = k then (p.1, v) else p).2)
    by_cases e : p.1 = k
    · rw [if_pos (keyS_eq.mpr e), if_pos e]
    · rw [if_neg fun q => e (keyS_eq.mp q), if_neg e]
  · rw [if_neg h, if_neg h]
    simp [DS]
theorem look_mem {r : Dic} {k v : Row} (h : look r k = some v) : (k, v) ∈ r := by
  induction r with
  | nil => cases h
  | cons p r ih =>
    rw [look_cons] at h
    by_cases e : p.1 = k
    · rw [if_pos e] at h
      cases h
      subst e
      exact List.mem_cons_self
    · rw [if_neg e] at h
      exact List.mem_cons_of_mem _ (ih h)
theorem put_keys (r : Dic) (k v : Row) : (put r k v).map (·.1) = if k ∈ r.map (·.1) then r.map (·.1) else r.map (·.1) ++ [k] := by
  unfold put
  by_cases h : (r.any fun p => decide (p.1 = k)) = true
  · rw [if_pos h, if_pos]
    · rw [List.map_map]
      apply List.map_congr_left
      intro p hp
      show (if p.1 = k then (p.1, v) else p).1 = p.1
      by_cases e : p.1 = k
      · rw [if_pos e]
      · rw [if_neg e]
    · obtain ⟨p, hp, e⟩ := List.any_eq_true.mp h
      exact List.mem_map.mpr ⟨p, hp, of_decide_eq_true e⟩
  · rw [if_neg h, if_neg]
    · simp
    · intro hm
      obtain ⟨p, hp, e⟩ := List.mem_map.mp hm
      exact h (List.any_eq_true.mpr ⟨p, hp, decide_eq_true e⟩)
theorem put_nodup {r : Dic} (nd : (r.map (·.1)).Nodup) (k v : Row) : ((put r k v).map (·.1)).Nodup := by
  rw [put_keys]
  by_cases h : k ∈ r.map (·.1)
  · rw [if_pos h]; exact nd
  · rw [if_neg h]
    rw [List.nodup_append]
    refine ⟨nd, by simp, ?_⟩
    intro a ha b hb
    have : b = k := by simpa using hb
    subst this
    exact fun e => h (e ▸ ha)
theorem put_mem {r : Dic} {k v : Row} {p : Row × Row} (h : p ∈ put r k v) : p ∈ r ∨ p = (k, v) := by
  unfold put at h
  split at h
  · obtain ⟨q, hq, e⟩ := List.mem_map.mp h
    by_cases z : q.1 = k
    · rw [if_pos z] at e
      right; rw [← e, z]
    · rw [if_neg z] at e
      left; rw [← e]; exact hq
  · rcases List.mem_append.mp h with h | h
    · exact .inl h
    · right; simpa using h
theorem put_ne_nil (r : Dic) (k v : Row) : put r k v ≠ [] := by
  unfold put
  split
  · rename_i h
    obtain ⟨p, hp, _⟩ := List.any_eq_true.mp h
    intro e
    have : r = [] := by simpa using e
    rw [this] at hp; cases hp
  · simp
theorem put_len (r : Dic) (k v : Row) : (put r k v).length ≤ r.length + 1 := by
  unfold put
  split <;> simp
theorem hits_S {A : Around} {s : Shared} {q : Dic} {vb : List (Key × Value)} (rb : KV (DS q) vb) : ∀ (r : Dic) (va : List (Key × Value)), KV (DS r) va →
    PySem.W.KeqHits A s vb va (r.all fun p => decide (look q p.1 = some p.2))
  | [], va, ra => by
    cases ra
    exact .nil
  | p :: r, va, ra => by
    unfold KV DS at ra
    rw [List.map_cons] at ra
    cases ra with
    | @cons _ z _ zs h t =>
      obtain ⟨h1, h2⟩ := h
      obtain ⟨k, v⟩ := z
      have h1' : (Sum.inr (S p.1) : Key) = k := h1
      subst h1'
      have h2' : RelV (VS p.2) v := h2
      obtain ⟨tv, rfl⟩ := h2'
      have rr := rb.val (Sum.inr (S p.1))
      rw [DS_val] at rr
      have ih := hits_S rb r zs t (A := A) (s := s)
      rw [List.all_cons]
      cases e : look q p.1 with
      | none =>
        rw [e] at rr
        rw [decide_eq_false (show ¬ (none : Option Row) = some p.2 from fun z => nomatch z), Bool.false_and]
        exact .miss rr.none_of
      | some y =>
        rw [e] at rr
        obtain ⟨u, hu, ru⟩ := rr.some_of
        obtain ⟨tu, rfl⟩ := ru
        have e2 : decide (some y = some p.2) = (S p.2 == S y) := by
          by_cases z : y = p.2
          · subst z; simp
          · rw [decide_eq_false fun w => z (Option.some.inj w)]
            exact (beq_eq_false_iff_ne.mpr fun w => z (S_inj w).symm).symm
        rw [e2]
        exact .hit hu (SeqAt.EqAt.str_str (S p.2) tv (S y) tu) ih
section
variable {X : Cx}
def rEqDS (neg : Bool) : R2 := fun x y H Q => ∃ a b r q, x = .ref a ∧ y = .ref b ∧ H a = some (.dK (DS r)) ∧ H b = some (.dK (DS q)) ∧ Q (.bl (if neg then !dEq r q else dEq r q)) H
theorem op_eq_dict (hu : X.A.units < cLine) : OpR X (compareOp .Eq) (rEqDS false) := by
  intro pins s σ H x y v u Q I rx ry h
  obtain ⟨a, b, r, q, rfl, rfl, ea, eb, k⟩ := h
  obtain rfl : v = Value.ref a := rx
  obtain rfl : u = Value.ref b := ry
  obtain ⟨_, ya, va, ra, da⟩ := (show ObjOk X.prog X.w H s.heap a (.dK (DS r)) from I.hok a _ ea)
  obtain ⟨_, yb, vb, rb, db⟩ := (show ObjOk X.prog X.w H s.heap b (.dK (DS q)) from I.hok b _ eb)
  refine PySem.W.keq_eq (knd := mixKind X.prog X.w) ya yb da db hu (fun _ => hits_S rb r va ra) (fin_bl I k ?_)
  have h1 := ra.length
  have h2 := rb.length
  rw [DS_len] at h1 h2
  simp only [Bool.false_eq_true, if_false]
  rw [dEq, ← h1, ← h2]
end
end Ho
namespace Ho
open PySem PySem.Spec PyProof.Rows L2 Evl
theorem joinL_nil : ∀ ys : List Row, TL.joinL [] ys = ys.flatten
  | [] => rfl
  | [p] => by simp [TL.joinL]
  | p :: q :: r => by
    show p ++ ([] ++ TL.joinL [] (q :: r)) = _
    rw [joinL_nil (q :: r)]
    simp
theorem map_S_tl : ∀ l : List Row, (l.map S).map TL.tl = l
  | [] => rfl
  | x :: l => by
    rw [List.map_cons, List.map_cons, map_S_tl l]
    rfl
theorem join_nil (ys : List Row) : Txt.join (S []) (ys.map S) = S ys.flatten := by
  rw [TL.join_eq]
  refine TL.ext_tl ?_
  rw [TL.tl_join, map_S_tl]
  show TL.joinL (S []).cps.toList ys = (S ys.flatten).cps.toList
  rw [S_cps, S_cps, joinL_nil]
theorem at_one {l : Row} {c i : Nat} : StrLaws.At (S l) (S [c]) (S l).length i ↔ l[i]? = some c := by
  have hne : TL.tl (S [c]) ≠ [] := by show (S [c]).cps.toList ≠ []; rw [S_cps]; simp
  rw [TL.at_iff hne]
  show ((((S l).cps.toList.drop i).take (S [c]).cps.toList.length) == (S [c]).cps.toList) = true ↔ _
  rw [S_cps, S_cps]
  simp only [beq_iff_eq, List.length_singleton]
  rw [← List.head?_drop]
  cases l.drop i with
  | nil => simp
  | cons a r => simp
theorem chain_count {l : Row} {c : Nat} : ∀ (cuts : List Nat) (a f : Nat), StrLaws.ChainG (S l) (S [c]) (S l).length a cuts f → (∀ k, f ≤ k → ¬ StrLaws.At (S l) (S [c]) (S l).length k) → cuts.length = (l.drop a).count c
  | [], a, f, h, hn => by
    have e : f = a := h
    subst e
    rw [eq_comm, List.length_nil, List.count_eq_zero]
    intro hm
    obtain ⟨i, hi⟩ := List.getElem?_of_mem hm
    rw [List.getElem?_drop] at hi
    exact hn (f + i) (Nat.le_add_right _ _) (at_one.mpr hi)
  | d :: r, a, f, h, hn => by
    obtain ⟨hac, hA, hno, hr⟩ := h
    have ih := chain_count r (d + 1) f (by rw [S_len] at hr; exact hr) hn
    have hd : l[d]? = some c := at_one.mp hA
    obtain ⟨hlt, hdc⟩ := List.getElem?_eq_some_iff.mp hd
    have e1 : l.drop a = (l.drop a).take (d - a) ++ (c :: l.drop (d + 1)) := by
      rw [← hdc, ← List.drop_eq_getElem_cons hlt]
      have : l.drop d = (l.drop a).drop (d - a) := by rw [List.drop_drop]; congr 1; omega
      rw [this, List.take_append_drop]
    rw [e1, List.count_append, List.count_cons, List.length_cons, ih]
    have e2 : ((l.drop a).take (d - a)).count c = 0 := by
      rw [List.count_eq_zero]
      intro hm
      obtain ⟨i, hi⟩ := List.getElem?_of_mem hm
      have hi2 : i < d - a := by
        have := (List.getElem?_eq_some_iff.mp hi).1
        rw [List.length_take] at this
        omega
      rw [List.getElem?_take_of_lt hi2, List.getElem?_drop] at hi
      exact hno (a + i) (Nat.le_add_right _ _) (by omega) (at_one.mpr hi)
    rw [e2]
    simp
theorem count_one (l : Row) (c : Nat) : Txt.count (S l) (S [c]) = (l.count c : Nat) := by
  obtain ⟨f, h1, h2⟩ := StrLaws.occ_tight (S l) (S [c]) (by rw [S_len]; exact Nat.le_refl _)
  have := chain_count _ 0 f h1 h2
  rw [List.drop_zero] at this
  show ((_ : Nat) : Int) = _
  rw [this]
/-- a cut of any list -/
def cutG {α : Type} (l : List α) (lo hi : Option Int) : List α := List.take (HT.sIx l.length l.length hi - HT.sIx l.length 0 lo) (List.drop (HT.sIx l.length 0 lo) l)
theorem cutV_map {α : Type} (f : α → V) (l : List α) (lo hi : Option Int) : cutV (l.map f) lo hi = (cutG l lo hi).map f := by
  unfold cutV cutG
  rw [List.length_map, List.map_take, List.map_drop]
theorem cutS_S (l : Row) (lo hi : Option Int) : cutS (S l) lo hi = S (cutG l lo hi) := by
  unfold cutS cutG
  rw [S_len, S_cps]
  rfl
theorem cutG_to {α : Type} (l : List α) {n : Int} (h : 0 ≤ n) : cutG l none (some n) = l.take n.toNat := by
  obtain ⟨k, rfl⟩ := Int.eq_ofNat_of_zero_le h
  unfold cutG
  rw [HT.sIx_nat, HT.sIx_none]
  simp only [Nat.sub_zero, List.drop_zero, Int.toNat_natCast]
  rw [List.take_eq_take_iff]
  omega
theorem cutG_from {α : Type} (l : List α) {n : Int} (h : 0 ≤ n) : cutG l (some n) none = l.drop n.toNat := by
  obtain ⟨k, rfl⟩ := Int.eq_ofNat_of_zero_le h
  unfold cutG
  rw [HT.sIx_nat, HT.sIx_none]
  simp only [Int.toNat_natCast]
  rw [List.take_of_length_le (by rw [List.length_drop]; omega)]
  by_cases hk : k ≤ l.length
  · rw [Nat.min_eq_left hk]
  · rw [Nat.min_eq_right (by omega), List.drop_eq_nil_of_le (Nat.le_refl _), List.drop_eq_nil_of_le (by omega)]
theorem cutG_butlast {α : Type} (l : List α) : cutG l none (some (-1)) = l.dropLast := by
  unfold cutG
  rw [HT.sIx_none]
  have e : HT.sIx l.length l.length (some (-1)) = l.length - 1 := by
    show (if (-1 : Int) < 0 then ((-1 : Int) + (l.length : Int)).toNat else min (-1 : Int).toNat l.length) = _
    rw [if_pos (by decide)]
    omega
  rw [e, Nat.sub_zero, List.drop_zero, List.dropLast_eq_take]
section
variable {X : Cx}
def rAddS : R2 := fun x y H Q => ∃ i j, x = .str i ∧ y = .str j ∧ i.length + j.length ≤ sizeLine ∧ Q (.str (i ++ j)) H
theorem op_addS : OpR X (binaryOp .Add) rAddS := op_add_str
def rInC (neg : Bool) : R2 := fun x y H Q => ∃ (c : Nat) (z : Str), x = .str ⟨#[c]⟩ ∧ y = .str z ∧ Q (.bl (if neg then !decide (c ∈ z.cps.toList) else decide (c ∈ z.cps.toList))) H
theorem op_inC : OpR X (compareOp .In) (rInC false) := op_in_sign
theorem op_ninC : OpR X (compareOp .NotIn) (rInC true) := op_notIn_sign
def rIsNo (neg : Bool) : R2 := fun x y H Q => y = .non ∧ Q (.bl (if neg then !decide (x = .non) else decide (x = .non))) H
theorem op_isNo : OpR X (compareOp .Is) (rIsNo false) := op_isN
theorem op_isntNo : OpR X (compareOp .IsNot) (rIsNo true) := op_notN
def rAbs : List V → Hp → VK → Prop := fun xs H Q => ∃ i, xs = [.int i] ∧ Q (.int (if i < 0 then -i else i)) H
theorem cb_abs : CallR X (.builtin "abs") rAbs := call_abs
def rMx : List V → Hp → VK → Prop := fun xs H Q => ∃ i j, xs = [.int i, .int j] ∧ Q (.int (if j > i then j else i)) H
def rMn : List V → Hp → VK → Prop := fun xs H Q => ∃ i j, xs = [.int i, .int j] ∧ Q (.int (if j < i then j else i)) H
theorem cb_max2 (hc : X.calm = true) : CallR X (.builtin "max") rMx := call_max2 hc
theorem cb_min2 (hc : X.calm = true) : CallR X (.builtin "min") rMn := call_min2 hc
def rLenQ (K : PySem.W.Frag) : List V → Hp → VK → Prop := fun xs H Q => ∃ p ys, xs = [.ref p] ∧ (SqL K H p ys ∨ SqT K H p ys) ∧ Q (.int ys.length) H
theorem cb_lenQ : CallR X (.builtin "len") (rLenQ X.K) := call_len_seq
def rLenS : List V → Hp → VK → Prop := fun xs H Q => ∃ z, xs = [.str z] ∧ z.length ≤ sizeLine ∧ Q (.int z.length) H
theorem cb_lenS : CallR X (.builtin "len") rLenS := call_len_str
def rListQ (K : PySem.W.Frag) : List V → Hp → VK → Prop := fun xs H Q => ∃ p ys, xs = [.ref p] ∧ (SqL K H p ys ∨ SqT K H p ys) ∧ ∀ l, H l = none → Q (.ref l) (upd H l (.lst ys))
theorem ct_list : CallR X (.type "list") (rListQ X.K) := call_list_of
def rDictD : List V → Hp → VK → Prop := fun xs H Q => ∃ (a : Addr) (kvs : List (Key × V)), xs = [.ref a] ∧ Rd H a (.dK kvs) ∧ ∀ p, H p = none → Q (.ref p) (upd H p (.dK kvs))
theorem ct_dict : CallR X (.type "dict") rDictD := call_dictD
def rJoin (K : PySem.W.Frag) : V → List V → Hp → VK → Prop := fun x xs H Q => ∃ a p, ∃ ys : List Str, x = .str a ∧ xs = [.ref p] ∧ (SqL K H p (ys.map V.str) ∨ SqT K H p (ys.map V.str)) ∧
    (ys.map (·.length)).sum + ys.length * a.length ≤ 16777216 ∧ Q (.str (Txt.join a ys)) H
theorem pe_joinQ {o e : Expr} {to te : TE} {apos pos : Pos} (ho : PE X o to) (he : PE X e te) (hs : starEach [e] X.env = [(false, eval e X.env)] := by rfl) (hbase : attributeBase o "join" X.env (eval o X.env) = eval o X.env := by rfl) (hline : (apos.endLine == pos.line) = true := by rfl) :
    PE X (.Call (.Attribute o "join" apos) [e] [] pos) (tM1 (rJoin X.K) to te) := pe_join ho he hs hbase hline
def rCount : V → List V → Hp → VK → Prop := fun x xs H Q => ∃ a b, x = .str a ∧ xs = [.str b] ∧ Q (.int (Txt.count a b)) H
theorem mt_countS : MtR X "str.count" rCount := mt_count
end
section
variable {X : Cx} {K : PySem.W.Frag}
theorem kop_in (hK : X.K = K := by rfl) : OpR X (compareOp .In) (rIn K false) := hK ▸ op_in_seq
theorem kcb_lenQ (hK : X.K = K := by rfl) : CallR X (.builtin "len") (rLenQ K) := hK ▸ cb_lenQ
theorem kct_list (hK : X.K = K := by rfl) : CallR X (.type "list") (rListQ K) := hK ▸ ct_list
theorem kcr_sum (hc : X.calm = true) (hK : X.K = K := by rfl) : CallR X (.builtin "sum") (rSum K) := hK ▸ cr_sum hc
theorem kcr_all (hc : X.calm = true) (hK : X.K = K := by rfl) : CallR X (.builtin "all") (rAll K) := hK ▸ cr_all hc
theorem kcr_any (hc : X.calm = true) (hK : X.K = K := by rfl) : CallR X (.builtin "any") (rAny K) := hK ▸ cr_any hc
theorem kix_list (hK : X.K = K := by rfl) : IxR X (rIxL K) := hK ▸ ix_list
theorem kix_tup (hK : X.K = K := by rfl) : IxR X (rIxT K) := hK ▸ ix_tup
theorem ksl_list (hK : X.K = K := by rfl) : SlR X (rSlL K) := hK ▸ sl_list
theorem kcall_isi (hK : X.K = K := by rfl) : CallR X (.builtin "isinstance") (rIsi K) := hK ▸ call_isi
theorem kop_eqD (hu : X.A.units + 64 < cLine) (hK : X.K = K := by rfl) : OpR X (compareOp .Eq) (rEqD K) := hK ▸ op_eqD hu
theorem kop_neD (hu : X.A.units + 64 < cLine) (hK : X.K = K := by rfl) : OpR X (compareOp .NotEq) (rNeD K) := hK ▸ op_neD hu
theorem kpi_list {l : Expr} {tg : Expr} {tl : TE} (hl : PE X l tl) (hK : X.K = K := by rfl) : PI X tg l (iList K tl) := hK ▸ pi_list hl
theorem kpi_zip {e e2 : Expr} {ta : TA} {p pos tpos : Pos} {elts : List Expr} {kk : Nat} (hg : Gl X "zip") (hm : X.mg "zip" = none) (ha : PA X [e, e2] ta)
    (hs : starEach [e, e2] X.env = (false, eval e X.env) :: starEach [e2] X.env := by rfl) (hpl : (backTo pos (starEach [e2] X.env)).any (·.1) = false := by rfl) (hK : X.K = K := by rfl) :
    PI X (.Tuple elts kk tpos) (.Call (.Name "zip" p) [e, e2] [] pos) (iZip K ta) := hK ▸ pi_zip hg hm ha hs hpl
theorem kpi_enum {e : Expr} {ta : TA} {p pos tpos : Pos} {elts : List Expr} {kk : Nat} (hg : Gl X "enumerate") (hm : X.mg "enumerate" = none) (ha : PA X [e] ta) (hs : starEach [e] X.env = [(false, eval e X.env)] := by rfl) (hK : X.K = K := by rfl) :
    PI X (.Tuple elts kk tpos) (.Call (.Name "enumerate" p) [e] [] pos) (iEnum K ta) := hK ▸ pi_enum hg hm ha hs
theorem kpe_joinQ {o e : Expr} {to te : TE} {apos pos : Pos} (ho : PE X o to) (he : PE X e te) (hs : starEach [e] X.env = [(false, eval e X.env)] := by rfl) (hbase : attributeBase o "join" X.env (eval o X.env) = eval o X.env := by rfl) (hline : (apos.endLine == pos.line) = true := by rfl) (hK : X.K = K := by rfl) :
    PE X (.Call (.Attribute o "join" apos) [e] [] pos) (tM1 (rJoin K) to te) := hK ▸ pe_joinQ ho he hs hbase hline
theorem kpe_revL {e : Expr} {te : TE} {k : Nat} {p1 p2 p3 pos : Pos} (he : PE X e te) (hK : X.K = K := by rfl) : PE X (.Subscript e (.Slice none none (some (.UnaryOp .USub (.Constant (.int 1) k p1) p2)) p3) pos) (tRevL K te) := hK ▸ pe_revL he
end
section
variable {K : PySem.W.Frag} {σ : L2.St} {H H' : Hp} {ta tb tc te tx tl : TE} {t u : TT} {x y z v : V} {r : R2} {xs ys : List V} {P : V → Hp → Prop} {Ps : List (V → Hp → Prop)} {tr : TA} {i j k : Int} {a b : Row}
theorem ev_cS {z : Str} {l : Row} (h : z = S l) : Ev (tC (.str z)) σ H (VS l) := h ▸ ev_c
theorem lit_nil : (Str.ofString "" : Str) = S [] := by decide +kernel
theorem lit_o : (Str.ofString "o" : Str) = S [111] := by decide +kernel
theorem lit_dot : (Str.ofString "." : Str) = S [46] := by decide +kernel
theorem ev_add (ha : Ev ta σ H (.int i)) (hb : Ev tb σ H (.int j)) : Ev (tOp (rI0 fun i j => .int (i + j)) ta tb) σ H (.int (i + j)) := ev_op ha hb rv_I0
theorem ev_sub (ha : Ev ta σ H (.int i)) (hb : Ev tb σ H (.int j)) : Ev (tOp (rI0 fun i j => .int (i - j)) ta tb) σ H (.int (i - j)) := ev_op ha hb rv_I0
theorem ev_mul (ha : Ev ta σ H (.int i)) (hb : Ev tb σ H (.int j)) (h : CMul i j) : Ev (tOp (rI CMul fun i j => .int (i * j)) ta tb) σ H (.int (i * j)) := ev_op ha hb (rv_I h)
theorem ev_fdiv (ha : Ev ta σ H (.int i)) (hb : Ev tb σ H (.int j)) (h : CDiv i j) : Ev (tOp (rI CDiv fun i j => .int (i / j)) ta tb) σ H (.int (i / j)) := ev_op ha hb (rv_I h)
theorem ev_mod (ha : Ev ta σ H (.int i)) (hb : Ev tb σ H (.int j)) (h : 0 < j) : Ev (tOp (rI (fun _ j => 0 < j) fun i j => .int (i % j)) ta tb) σ H (.int (i % j)) := ev_op ha hb (rv_I h)
theorem ev_pow (ha : Ev ta σ H (.int i)) (hb : Ev tb σ H (.int j)) (h : CPow i j) : Ev (tOp (rI CPow fun i j => .int (i ^ j.toNat)) ta tb) σ H (.int (i ^ j.toNat)) := ev_op ha hb (rv_I h)
theorem ev_shl (ha : Ev ta σ H (.int i)) (hb : Ev tb σ H (.int j)) (h : CPow i j) : Ev (tOp (rI CPow fun i j => .int (i * 2 ^ j.toNat)) ta tb) σ H (.int (i * 2 ^ j.toNat)) := ev_op ha hb (rv_I h)
theorem ev_shr (ha : Ev ta σ H (.int i)) (hb : Ev tb σ H (.int j)) (h : 0 ≤ j) : Ev (tOp (rI (fun _ j => 0 ≤ j) fun i j => .int (i / 2 ^ j.toNat)) ta tb) σ H (.int (i / 2 ^ j.toNat)) := ev_op ha hb (rv_I h)
theorem ev_and (ha : Ev ta σ H (.int i)) (hb : Ev tb σ H (.int j)) : Ev (tOp (rI0 fun i j => .int (Builtin.bitAnd i j)) ta tb) σ H (.int (Builtin.bitAnd i j)) := ev_op ha hb rv_I0
theorem ev_or (ha : Ev ta σ H (.int i)) (hb : Ev tb σ H (.int j)) : Ev (tOp (rI0 fun i j => .int (Builtin.bitOr i j)) ta tb) σ H (.int (Builtin.bitOr i j)) := ev_op ha hb rv_I0
theorem ev_neg (ha : Ev ta σ H (.int i)) : Ev (tUn (rU fun i => .int (-i)) ta) σ H (.int (-i)) := ev_un ha ru_neg
theorem ev_lt (ha : Ev ta σ H (.int i)) (hb : Ev tb σ H (.int j)) : Ev (tOp (rI0 fun i j => .bl (decide (i < j))) ta tb) σ H (.bl (decide (i < j))) := ev_op ha hb rv_I0
theorem ev_gt (ha : Ev ta σ H (.int i)) (hb : Ev tb σ H (.int j)) : Ev (tOp (rI0 fun i j => .bl (decide (j < i))) ta tb) σ H (.bl (decide (j < i))) := ev_op ha hb rv_I0
theorem ev_ge (ha : Ev ta σ H (.int i)) (hb : Ev tb σ H (.int j)) : Ev (tOp (rI0 fun i j => .bl (decide (j ≤ i))) ta tb) σ H (.bl (decide (j ≤ i))) := ev_op ha hb rv_I0
theorem rv_eqI : RV rEq (.int i) (.int j) H (.bl (decide (i = j))) := fun H1 e Q q => ⟨rfl, by rw [dec_VI]; exact q H1 (Ex.refl H1)⟩
theorem rv_neI : RV rNe (.int i) (.int j) H (.bl (!decide (i = j))) := fun H1 e Q q => ⟨rfl, by rw [dec_VI]; exact q H1 (Ex.refl H1)⟩
theorem rv_eqS : RV rEq (VS a) (VS b) H (.bl (decide (a = b))) := fun H1 e Q q => ⟨rfl, by rw [dec_VS]; exact q H1 (Ex.refl H1)⟩
theorem rv_neS : RV rNe (VS a) (VS b) H (.bl (!decide (a = b))) := fun H1 e Q q => ⟨rfl, by rw [dec_VS]; exact q H1 (Ex.refl H1)⟩
theorem rv_neB {a b : Bool} : RV rNe (.bl a) (.bl b) H (.bl (!decide (a = b))) := fun H1 e Q q => ⟨rfl, by rw [dec_VB]; exact q H1 (Ex.refl H1)⟩
theorem ev_eqI (ha : Ev ta σ H (.int i)) (hb : Ev tb σ H (.int j)) : Ev (tOp rEq ta tb) σ H (.bl (decide (i = j))) := ev_op ha hb rv_eqI
theorem ev_neI (ha : Ev ta σ H (.int i)) (hb : Ev tb σ H (.int j)) : Ev (tOp rNe ta tb) σ H (.bl (!decide (i = j))) := ev_op ha hb rv_neI
theorem ev_eqS (ha : Ev ta σ H (VS a)) (hb : Ev tb σ H (VS b)) : Ev (tOp rEq ta tb) σ H (.bl (decide (a = b))) := ev_op ha hb rv_eqS
theorem ev_neS (ha : Ev ta σ H (VS a)) (hb : Ev tb σ H (VS b)) : Ev (tOp rNe ta tb) σ H (.bl (!decide (a = b))) := ev_op ha hb rv_neS
theorem ev_neB {a b : Bool} (ha : Ev ta σ H (.bl a)) (hb : Ev tb σ H (.bl b)) : Ev (tOp rNe ta tb) σ H (.bl (!decide (a = b))) := ev_op ha hb rv_neB
theorem ev_isNo (ha : Ev ta σ H x) (hb : Ev tb σ H .non) : Ev (tOp (rIsNo false) ta tb) σ H (.bl (decide (x = .non))) := ev_op ha hb fun H1 _ _ q => ⟨rfl, q H1 (Ex.refl H1)⟩
theorem ev_isntNo (ha : Ev ta σ H x) (hb : Ev tb σ H .non) : Ev (tOp (rIsNo true) ta tb) σ H (.bl (!decide (x = .non))) := ev_op ha hb fun H1 _ _ q => ⟨rfl, q H1 (Ex.refl H1)⟩
/-- a <= b < c and its like -/
theorem ev_chain {p q : Int → Int → Bool} (ha : Ev ta σ H (.int i)) (hb : Ev tb σ H (.int j)) (hc : Ev tc σ H (.int k)) : Ev (tChain (rI0 fun i j => .bl (p i j)) (rI0 fun i j => .bl (q i j)) ta tb tc) σ H (.bl (p i j && q j k)) := fun H1 e Q kq =>
  ha H1 e _ fun H2 e2 => hb H2 (e.trans e2) _ fun H3 e3 => ⟨i, j, rfl, rfl, p i j, rfl, by
    cases hp : p i j with
    | true =>
      rw [hp, Bool.true_and] at kq
      show tc σ H3 _
      exact hc H3 ((e.trans e2).trans e3) _ fun H4 e4 => ⟨j, k, rfl, rfl, kq H4 ((e2.trans e3).trans e4)⟩
    | false =>
      rw [hp, Bool.false_and] at kq
      show Q (.bl false) H3
      exact kq H3 (e2.trans e3)⟩
theorem ev_addS (ha : Ev ta σ H (VS a)) (hb : Ev tb σ H (VS b)) (hl : a.length + b.length ≤ 100000) : Ev (tOp rAddS ta tb) σ H (VS (a ++ b)) := ev_op ha hb fun H1 _ _ q =>
  ⟨S a, S b, rfl, rfl, by rw [S_len, S_len]; exact sz_of hl, by rw [S_add]; exact q H1 (Ex.refl H1)⟩
theorem ev_inC {c : Nat} (ha : Ev ta σ H (VS [c])) (hb : Ev tb σ H (VS b)) : Ev (tOp (rInC false) ta tb) σ H (.bl (decide (c ∈ b))) := ev_op ha hb fun H1 _ Q q =>
  ⟨c, S b, rfl, rfl, by
    show Q (.bl (decide (c ∈ (S b).cps.toList))) H1
    simp only [S_cps]
    exact q H1 (Ex.refl H1)⟩
theorem ev_ninC {c : Nat} (ha : Ev ta σ H (VS [c])) (hb : Ev tb σ H (VS b)) : Ev (tOp (rInC true) ta tb) σ H (.bl (!decide (c ∈ b))) := ev_op ha hb fun H1 _ Q q =>
  ⟨c, S b, rfl, rfl, by
    show Q (.bl (!decide (c ∈ (S b).cps.toList))) H1
    simp only [S_cps]
    exact q H1 (Ex.refl H1)⟩
theorem ev_lenS (ha : Ev ta σ H (VS a)) (hl : a.length ≤ 100000) : Ev (tCB rLenS (tCons ta tNil)) σ H (.int (a.length : Int)) := fun H1 e Q q =>
  ha H1 e _ fun H2 e2 => ⟨S a, rfl, by rw [S_len]; exact sz_of hl, by rw [S_len]; exact q H2 e2⟩
theorem atI_getD {α : Type} {l : List α} {i : Int} (d : α) (h0 : 0 ≤ i) (h1 : i < l.length) : atI l i = some (l.getD i.toNat d) := by
  obtain ⟨k, rfl⟩ := Int.eq_ofNat_of_zero_le h0
  have hk : k < l.length := by
    have : (k : Int) < l.length := h1
    omega
  refine atI_nat (j := k) ?_
  show l[k]? = some (l.getD k d)
  rw [List.getD_eq_getElem?_getD, List.getElem?_eq_getElem hk]
  rfl
theorem ev_ixS {i : Int} (ha : Ev ta σ H (VS a)) (hb : Ev tb σ H (.int i)) (hl : a.length ≤ 100000) (h0 : 0 ≤ i) (h1 : i < a.length) : Ev (tOp rIxS ta tb) σ H (VS [a.getD i.toNat 0]) := ev_op ha hb fun H1 _ _ q =>
  ⟨S a, i, a.getD i.toNat 0, rfl, rfl, by rw [S_len]; exact sz_of hl, by rw [S_cps]; exact atI_getD 0 h0 h1, q H1 (Ex.refl H1)⟩
theorem ev_slS {tlo thi : TO} {lo hi : Option Int} (h : Ev te σ H (VS a)) (h1 : EvO tlo σ H lo) (h2 : EvO thi σ H hi) (hl : a.length ≤ 100000) : Ev (tSl rSlS te tlo thi) σ H (VS (cutG a lo hi)) := fun H1 e Q q =>
  h H1 e _ fun H2 e2 => h1 H2 (e.trans e2) _ fun H3 e3 => h2 H3 ((e.trans e2).trans e3) _ fun H4 e4 =>
    ⟨S a, rfl, by rw [S_len]; exact sz_of hl, by rw [cutS_S]; exact q H4 ((e2.trans e3).trans e4)⟩
theorem ev_count {c : Nat} (ha : Ev ta σ H (VS a)) (hb : Ev tb σ H (VS [c])) : Ev (tM1 rCount ta tb) σ H (.int (a.count c : Nat)) := fun H1 e Q q =>
  ha H1 e _ fun H2 e2 => ⟨⟨S a, rfl⟩, hb H2 (e.trans e2) _ fun H3 e3 => ⟨S a, S [c], rfl, rfl, by rw [count_one]; exact q H3 (e2.trans e3)⟩⟩
theorem ev_lenQ {α : Type} {l : List α} {g : α → V} (h : EvQ K te σ H (l.map g)) : Ev (tCB (rLenQ K) (tCons te tNil)) σ H (.int (l.length : Int)) := fun H1 e Q q =>
  h H1 e _ fun p H2 e2 h2 => ⟨p, l.map g, rfl, .inl (SL.q h2), by rw [List.length_map]; exact q H2 e2⟩
theorem el_slQ {α : Type} {l : List α} {g : α → V} {tlo thi : TO} {lo hi : Option Int} (h : EvQ K te σ H (l.map g)) (h1 : EvO tlo σ H lo) (h2 : EvO thi σ H hi) : EvL (tSl (rSlL K) te tlo thi) σ H ((cutG l lo hi).map g) := fun H1 e Q q =>
  h H1 e _ fun a H2 e2 hs => h1 H2 (e.trans e2) _ fun H3 e3 => h2 H3 ((e.trans e2).trans e3) _ fun H4 e4 =>
    ⟨a, l.map g, rfl, (exl (K := K) (e3.trans e4) hs).q, fun p hp => by
      rw [cutV_map]
      exact q p _ (fresh_back ((e2.trans e3).trans e4) hp) (((e2.trans e3).trans e4).trans (Ex.new hp)) upd_same⟩
theorem ev_ixQ {α : Type} {l : List α} {g : α → V} {i : Int} (d : α) (h : EvQ K ta σ H (l.map g)) (hb : Ev tb σ H (.int i)) (h0 : 0 ≤ i) (h1 : i < l.length) : Ev (tOp (rIxL K) ta tb) σ H (g (l.getD i.toNat d)) := fun H1 e Q q =>
  h H1 e _ fun a H2 e2 hs => hb H2 (e.trans e2) _ fun H3 e3 => ⟨a, l.map g, i, _, rfl, rfl, (exl (K := K) e3 hs).q, by
    have h2 : i < ((l.map g).length : Int) := by rw [List.length_map]; exact h1
    rw [atI_getD (g d) h0 h2, List.getD_eq_getElem?_getD, List.getElem?_map, List.getD_eq_getElem?_getD, Option.getD_map]
    , q H3 (e2.trans e3)⟩
theorem ev_ixT {α : Type} {l : List α} {g : α → V} {i : Int} {p : Addr} (d : α) (h : Ev ta σ H (.ref p)) (hs : ST K H p (l.map g)) (hb : Ev tb σ H (.int i)) (h0 : 0 ≤ i) (h1 : i < l.length) : Ev (tOp (rIxT K) ta tb) σ H (g (l.getD i.toNat d)) := fun H1 e Q q =>
  h H1 e _ fun H2 e2 => hb H2 (e.trans e2) _ fun H3 e3 => ⟨p, l.map g, i, _, rfl, rfl, (ext (K := K) ((e.trans e2).trans e3) hs).q, by
    have h2 : i < ((l.map g).length : Int) := by rw [List.length_map]; exact h1
    rw [atI_getD (g d) h0 h2, List.getD_eq_getElem?_getD, List.getElem?_map, List.getD_eq_getElem?_getD, Option.getD_map]
    , q H3 (e2.trans e3)⟩
/-- the last one -/
theorem ev_ixLast {α : Type} {l : List α} {g : α → V} {w : α} (h : EvQ K ta σ H (l.map g)) (hb : Ev tb σ H (.int (-1))) (hw : l.getLast? = some w) : Ev (tOp (rIxL K) ta tb) σ H (g w) := fun H1 e Q q =>
  h H1 e _ fun a H2 e2 hs => hb H2 (e.trans e2) _ fun H3 e3 => ⟨a, l.map g, -1, _, rfl, rfl, (exl (K := K) e3 hs).q, by
    have e1 : l = l.dropLast ++ [w] := by
      cases l with
      | nil => simp at hw
      | cons c r =>
        rw [List.getLast?_eq_getLast (List.cons_ne_nil c r)] at hw
        have := Option.some.inj hw
        rw [← this, List.dropLast_concat_getLast]
    rw [e1, List.map_append, List.map_singleton]
    exact atI_last _ _, q H3 (e2.trans e3)⟩
/-- a list that stands here -/
def EvH (te : TE) (σ : L2.St) (H : Hp) (xs : List V) : Prop := ∀ H1, Ex H H1 → ∀ Q : VK, (∀ p H2, Ex H1 H2 → H2 p = some (.lst xs) → Q (.ref p) H2) → te σ H1 Q
theorem h_new (h : EvL te σ H xs) : EvH te σ H xs := fun H1 e Q q => h H1 e Q fun p H2 _ e2 h2 => q p H2 e2 h2
theorem el_catH {α : Type} {l m : List α} {g : α → V} (ha : EvH ta σ H (l.map g)) (hb : EvH tb σ H (m.map g)) (hz : l.length + m.length ≤ 100000) : EvL (tOp rCat ta tb) σ H ((l ++ m).map g) := fun H1 e Q q =>
  ha H1 e _ fun p H2 e2 h2 => hb H2 (e.trans e2) _ fun p' H3 e3 h3 => ⟨p, p', _, _, rfl, rfl, e3 _ _ h2, h3, by rw [List.length_map, List.length_map]; exact sz_of hz, fun l hl => by
    rw [← List.map_append]
    exact q l _ (fresh_back (e2.trans e3) hl) ((e2.trans e3).trans (Ex.new hl)) upd_same⟩
theorem el_repH {α : Type} {l : List α} {g : α → V} {n : Int} (ha : EvH ta σ H (l.map g)) (hb : Ev tb σ H (.int n)) (h0 : -100000 ≤ n) (h1 : n ≤ 100000) (hz : l.length * n.toNat ≤ 100000) : EvL (tOp rRep ta tb) σ H (((List.replicate n.toNat l).flatten).map g) := fun H1 e Q q =>
  ha H1 e _ fun p H2 e2 h2 => hb H2 (e.trans e2) _ fun H3 e3 => ⟨p, n, _, rfl, rfl, e3 _ _ h2, by omega, by omega, by rw [List.length_map]; exact sz_of hz, fun l hl => by
    rw [List.map_flatten, List.map_replicate] at q
    exact q l _ (fresh_back (e2.trans e3) hl) ((e2.trans e3).trans (Ex.new hl)) upd_same⟩
theorem el_nil : EvL (tLst tNil) σ H [] := el_lst ea_nil (Nat.zero_le _)
theorem ev_sumV {ns : List Int} (h : EvQ K te σ H (ns.map V.int)) : Ev (tCB (rSum K) (tCons te tNil)) σ H (.int ns.sum) := fun H1 e Q q =>
  h H1 e _ fun p H2 e2 h2 => ⟨p, ns, rfl, SL.q h2, q H2 e2⟩
theorem ev_sumQ {α : Type} {l : List α} {f : α → Int} (h : EvQ K te σ H (l.map fun x => V.int (f x))) : Ev (tCB (rSum K) (tCons te tNil)) σ H (.int (l.map f).sum) := ev_sumV (by rw [List.map_map]; exact h)
theorem ev_allV {bs : List Bool} (h : EvQ K te σ H (bs.map V.bl)) : Ev (tCB (rAll K) (tCons te tNil)) σ H (.bl (bs.all id)) := fun H1 e Q q =>
  h H1 e _ fun p H2 e2 h2 => ⟨p, bs, rfl, SL.q h2, q H2 e2⟩
theorem ev_anyV {bs : List Bool} (h : EvQ K te σ H (bs.map V.bl)) : Ev (tCB (rAny K) (tCons te tNil)) σ H (.bl (bs.any id)) := fun H1 e Q q =>
  h H1 e _ fun p H2 e2 h2 => ⟨p, bs, rfl, SL.q h2, q H2 e2⟩
theorem ev_allQ {α : Type} {l : List α} {p : α → Bool} (h : EvQ K te σ H (l.map fun x => V.bl (p x))) : Ev (tCB (rAll K) (tCons te tNil)) σ H (.bl (l.all p)) := by
  have := ev_allV (K := K) (bs := l.map p) (te := te) (σ := σ) (H := H) (by rw [List.map_map]; exact h)
  rw [List.all_map] at this
  exact this
theorem ev_anyQ {α : Type} {l : List α} {p : α → Bool} (h : EvQ K te σ H (l.map fun x => V.bl (p x))) : Ev (tCB (rAny K) (tCons te tNil)) σ H (.bl (l.any p)) := by
  have := ev_anyV (K := K) (bs := l.map p) (te := te) (σ := σ) (H := H) (by rw [List.map_map]; exact h)
  rw [List.any_map] at this
  exact this
theorem flat_len (l : List Row) : l.flatten.length = (l.map (·.length)).sum := List.length_flatten
theorem ev_joinV {l : List Row} (ha : Ev ta σ H (VS [])) (h : EvQ K te σ H (l.map VS)) (hz : l.flatten.length ≤ 100000) : Ev (tM1 (rJoin K) ta te) σ H (VS l.flatten) := fun H1 e Q q =>
  ha H1 e _ fun H2 e2 => ⟨⟨S [], rfl⟩, h H2 (e.trans e2) _ fun p H3 e3 h3 => ⟨S [], p, l.map S, rfl, rfl, .inl (by rw [List.map_map]; exact SL.q h3), by
    rw [List.map_map, show ((fun z : Str => z.length) ∘ S) = fun z : Row => z.length from funext S_len, ← flat_len, S_len]
    show l.flatten.length + _ * 0 ≤ 16777216
    omega, by rw [join_nil]; exact q H3 (e2.trans e3)⟩⟩
theorem ev_joinQ {α : Type} {l : List α} {f : α → Row} (ha : Ev ta σ H (VS [])) (h : EvQ K te σ H (l.map fun x => VS (f x))) (hz : (l.map f).flatten.length ≤ 100000) : Ev (tM1 (rJoin K) ta te) σ H (VS (l.map f).flatten) :=
  ev_joinV ha (by rw [List.map_map]; exact h) hz
theorem ev_inQ {x : V} (ha : Ev ta σ H x) (hb : EvQ K tb σ H xs) (hx : flatV x = true) (hf : xs.all flatV = true) : Ev (tOp (rIn K false) ta tb) σ H (.bl (inV x xs)) := fun H1 e Q q =>
  ha H1 e _ fun H2 e2 => hb H2 (e.trans e2) _ fun p H3 e3 h3 => ⟨p, xs, rfl, .inl (SL.q h3), hx, hf, q H3 (e2.trans e3)⟩
theorem flat_Txts (l : List Row) : (l.map VS).all flatV = true := by simp [flatV]
theorem flat_Ints (l : List Int) : (l.map V.int).all flatV = true := by simp [flatV]
theorem inV_VS (a : Row) (l : List Row) : inV (VS a) (l.map VS) = decide (a ∈ l) := by
  unfold inV
  rw [List.any_map, Bool.eq_iff_iff, List.any_eq_true, decide_eq_true_eq]
  constructor
  · rintro ⟨b, hb, e⟩
    have e : eqV (VS b) (VS a) = true := e
    have : S b = S a := by simpa [eqV] using e
    rw [← S_inj this]; exact hb
  · intro h
    exact ⟨a, h, by simp [eqV]⟩
theorem inV_VI (a : Int) (l : List Int) : inV (.int a) (l.map V.int) = decide (a ∈ l) := by
  unfold inV
  rw [List.any_map, Bool.eq_iff_iff, List.any_eq_true, decide_eq_true_eq]
  constructor
  · rintro ⟨b, hb, e⟩
    have e : eqV (.int b) (.int a) = true := e
    have : b = a := by simpa [eqV] using e
    rw [← this]; exact hb
  · intro h
    exact ⟨a, h, by simp [eqV]⟩
theorem ev_inS {l : List Row} (ha : Ev ta σ H (VS a)) (hb : EvQ K tb σ H (l.map VS)) : Ev (tOp (rIn K false) ta tb) σ H (.bl (decide (a ∈ l))) := (inV_VS a l) ▸ ev_inQ ha hb rfl (flat_Txts l)
theorem ev_inI {l : List Int} (ha : Ev ta σ H (.int i)) (hb : EvQ K tb σ H (l.map V.int)) : Ev (tOp (rIn K false) ta tb) σ H (.bl (decide (i ∈ l))) := (inV_VI i l) ▸ ev_inQ ha hb rfl (flat_Ints l)
/-- in a written tuple of texts -/
theorem ev_inTS {l : List Row} (ha : Ev ta σ H (VS a)) (hb : EvU tb σ H (l.map VS)) : Ev (tOp (rIn K false) ta tb) σ H (.bl (decide (a ∈ l))) := (inV_VS a l) ▸ ev_inU ha hb rfl (flat_Txts l)
theorem ev_abs (ha : Ev ta σ H (.int i)) : Ev (tCB rAbs (tCons ta tNil)) σ H (.int (i.natAbs : Nat)) := fun H1 e Q q =>
  ha H1 e _ fun H2 e2 => ⟨i, rfl, by
    have : (if i < 0 then -i else i) = (i.natAbs : Int) := by split <;> omega
    rw [this]; exact q H2 e2⟩
theorem ev_mx2 (ha : Ev ta σ H (.int i)) (hb : Ev tb σ H (.int j)) : Ev (tCB rMx (tCons ta (tCons tb tNil))) σ H (.int (max i j)) := fun H1 e Q q =>
  ha H1 e _ fun H2 e2 => hb H2 (e.trans e2) _ fun H3 e3 => ⟨i, j, rfl, by
    have : (if j > i then j else i) = max i j := by split <;> omega
    rw [this]; exact q H3 (e2.trans e3)⟩
theorem ev_mn2 (ha : Ev ta σ H (.int i)) (hb : Ev tb σ H (.int j)) : Ev (tCB rMn (tCons ta (tCons tb tNil))) σ H (.int (min i j)) := fun H1 e Q q =>
  ha H1 e _ fun H2 e2 => hb H2 (e.trans e2) _ fun H3 e3 => ⟨i, j, rfl, by
    have : (if j < i then j else i) = min i j := by split <;> omega
    rw [this]; exact q H3 (e2.trans e3)⟩
theorem ed_new : EvD tDNewK σ H [] := fun H1 _ Q q => fun p hp => q p _ hp (Ex.new hp) upd_same
theorem ed_newS : EvD tDNewK σ H (DS []) := ed_new
theorem ed_dict {kvs : List (Key × V)} (h : EvG te σ H (isD kvs)) : EvD (tCB rDictD (tCons te tNil)) σ H kvs := fun H1 e Q q =>
  h H1 e _ fun v H2 e2 ⟨a, ea, h2⟩ => ⟨a, kvs, by rw [ea], .inl h2, fun p hp => q p _ (fresh_back e2 hp) (e2.trans (Ex.new hp)) upd_same⟩
theorem ev_get2 {r : Dic} {p : Addr} {d : Row} (h : Ev ta σ H (.ref p)) (hs : H p = some (.dK (DS r))) (hb : Ev tb σ H (VS a)) (hc : Ev tc σ H (VS d)) : Ev (tDGet2 ta tb tc) σ H (VS ((look r a).getD d)) := fun H1 e Q q =>
  h H1 e _ fun H2 e2 => ⟨p, rfl, .inl ⟨_, .inl (e2 _ _ (e _ _ hs))⟩, hb H2 (e.trans e2) _ fun H3 e3 => hc H3 ((e.trans e2).trans e3) _ fun H4 e4 => ⟨_, DGet.k (k := Sum.inr (S a)) (e4 _ _ (e3 _ _ (e2 _ _ (e _ _ hs)))), by
    rw [DS_val]
    have q4 := q H4 ((e2.trans e3).trans e4)
    cases hk : look r a with
    | none => rw [hk] at q4; exact q4
    | some v => rw [hk] at q4; exact q4⟩⟩
theorem ev_din {r : Dic} {p : Addr} (hb : Ev tb σ H (VS a)) (h : Ev ta σ H (.ref p)) (hs : H p = some (.dK (DS r))) : Ev (tDIn tb ta) σ H (.bl (look r a).isSome) := fun H1 e Q q =>
  hb H1 e _ fun H2 e2 => h H2 (e.trans e2) _ fun H3 e3 => ⟨p, _, rfl, DGet.k (k := Sum.inr (S a)) (e3 _ _ (e2 _ _ (e _ _ hs))), by
    rw [DS_val, Option.isSome_map]
    exact q H3 (e2.trans e3)⟩
theorem ev_dget {r : Dic} {p : Addr} (h : Ev ta σ H (.ref p)) (hs : H p = some (.dK (DS r))) (hb : Ev tb σ H (VS a)) (hv : (look r a).isSome = true) : Ev (tDGet ta tb) σ H (VS ((look r a).getD [])) := fun H1 e Q q =>
  h H1 e _ fun H2 e2 => hb H2 (e.trans e2) _ fun H3 e3 => ⟨p, VS ((look r a).getD []), rfl, by
    have := DGet.k (k := Sum.inr (S a)) (e3 _ _ (e2 _ _ (e _ _ hs)))
    obtain ⟨v, hv⟩ := Option.isSome_iff_exists.mp hv
    rw [DS_val, hv] at this
    rw [hv]
    exact this, q H3 (e2.trans e3)⟩
theorem ev_eqD {r s : Dic} (ha : EvG ta σ H (isD (DS r))) (hb : EvG tb σ H (isD (DS s))) : Ev (tOp (rEqDS false) ta tb) σ H (.bl (dEq r s)) := fun H1 e Q q =>
  ha H1 e _ fun v H2 e2 ⟨p, ep, h2⟩ => hb H2 (e.trans e2) _ fun w H3 e3 ⟨p', ep', h3⟩ => ⟨p, p', r, s, ep, ep', e3 _ _ h2, h3, q H3 (e2.trans e3)⟩
theorem el_keys {r : Dic} (h : EvG te σ H (isD (DS r))) : EvL (tCB rListD (tCons te tNil)) σ H ((r.map (·.1)).map VS) := fun H1 e Q q =>
  h H1 e _ fun v H2 e2 ⟨p, ep, h2⟩ => ⟨p, DS r, by rw [ep], h2, fun l hl => by
    have : ((DS r).map fun kv => kV kv.1) = (r.map (·.1)).map VS := by
      unfold DS
      rw [List.map_map, List.map_map]
      rfl
    rw [this]
    exact q l _ (fresh_back e2 hl) (e2.trans (Ex.new hl)) upd_same⟩
theorem ev_ifV {b : Bool} (h : EvT t σ H b) (h1 : b = true → Ev ta σ H x) (h2 : b = false → Ev tb σ H y) : Ev (tIf t ta tb) σ H (if b then x else y) := by
  cases b with
  | true => exact ev_if h (fun e => h1 e) (fun e => nomatch e)
  | false => exact ev_if h (fun e => nomatch e) (fun e => h2 e)
theorem ev_ifS {c : Bool} (h : EvT t σ H c) (h1 : c = true → Ev ta σ H (VS a)) (h2 : c = false → Ev tb σ H (VS b)) : Ev (tIf t ta tb) σ H (VS (if c then a else b)) := by
  cases c with
  | true => exact ev_if h (fun e => h1 e) (fun e => nomatch e)
  | false => exact ev_if h (fun e => nomatch e) (fun e => h2 e)
theorem ev_ifI {c : Bool} (h : EvT t σ H c) (h1 : c = true → Ev ta σ H (.int i)) (h2 : c = false → Ev tb σ H (.int j)) : Ev (tIf t ta tb) σ H (.int (if c then i else j)) := by
  cases c with
  | true => exact ev_if h (fun e => h1 e) (fun e => nomatch e)
  | false => exact ev_if h (fun e => nomatch e) (fun e => h2 e)
theorem ev_isi {c : V} {tt cc : Value} {b : Bool} (ha : EvG ta σ H P) (hb : Ev tb σ H c) (hp : ∀ v H1, Ex H H1 → P v H1 → TyX K H1 v tt) (m : Mon P) (hc : ClsV c cc) (hk : PySem.W.kitOne K tt cc = some b) : Ev (tCB (rIsi K) (tCons ta (tCons tb tNil))) σ H (.bl b) := fun H1 e Q q =>
  ha H1 e _ fun v H2 e2 hv => hb H2 (e.trans e2) _ fun H3 e3 => ⟨v, c, tt, cc, b, rfl, hc, hp v H3 ((e.trans e2).trans e3) (m v _ _ e3 hv), hk, q H3 (e2.trans e3)⟩
theorem ev_isiS {n : String} {b : Bool} (ha : Ev ta σ H (VS a)) (hb : Ev tb σ H (.ty n)) (hk : kitB "str" n = some b) : Ev (tCB (rIsi K) (tCons ta (tCons tb tNil))) σ H (.bl b) :=
  ev_isi (g_V ha) hb (fun v H1 _ hv => by cases hv; exact .base (.str _)) (mon_V _) (.ty n) (kit_ty hk)
theorem ev_isiI {n : String} {b : Bool} (ha : Ev ta σ H (.int i)) (hb : Ev tb σ H (.ty n)) (hk : kitB "int" n = some b) : Ev (tCB (rIsi K) (tCons ta (tCons tb tNil))) σ H (.bl b) :=
  ev_isi (g_V ha) hb (fun v H1 _ hv => by cases hv; exact .base (.int _)) (mon_V _) (.ty n) (kit_ty hk)
theorem ev_isiB {n : String} {c b : Bool} (ha : Ev ta σ H (.bl c)) (hb : Ev tb σ H (.ty n)) (hk : kitB "bool" n = some b) : Ev (tCB (rIsi K) (tCons ta (tCons tb tNil))) σ H (.bl b) :=
  ev_isi (g_V ha) hb (fun v H1 _ hv => by cases hv; exact .base (.bl _)) (mon_V _) (.ty n) (kit_ty hk)
theorem tyx_L {p : Addr} (h : SL K H p xs) : TyX K H (.ref p) (.type "list") := by
  rcases h with h | ⟨o, h⟩
  · exact .base (.lst h)
  · exact .base (.frz h)
theorem tyx_T {p : Addr} (h : ST K H p xs) : TyX K H (.ref p) (.type "tuple") := by
  rcases h with h | ⟨o, h⟩
  · exact .base (.tup h)
  · exact .fTuple h
theorem ev_isiL {n : String} {b : Bool} (ha : EvQ K ta σ H xs) (hb : Ev tb σ H (.ty n)) (hk : kitB "list" n = some b) : Ev (tCB (rIsi K) (tCons ta (tCons tb tNil))) σ H (.bl b) :=
  ev_isi (g_L ha) hb (fun v H1 _ hv => by obtain ⟨p, rfl, h⟩ := hv; exact tyx_L h) (mon_L _ _) (.ty n) (kit_ty hk)
theorem ev_isiD {n : String} {b : Bool} {kvs : List (Key × V)} (ha : EvG ta σ H (isD kvs)) (hb : Ev tb σ H (.ty n)) (hk : kitB "dict" n = some b) : Ev (tCB (rIsi K) (tCons ta (tCons tb tNil))) σ H (.bl b) :=
  ev_isi ha hb (fun v H1 _ hv => by obtain ⟨p, rfl, h⟩ := hv; exact .base (.dK h)) (mon_D _) (.ty n) (kit_ty hk)
end
end Ho
namespace Ho
open PySem PySem.Spec PyProof.Rows L2 Evl
def Xb (s : List Addr) (H H' : Hp) : Prop := ∀ a o, a ∉ s → H a = some o → H' a = some o
theorem Xb.refl (s : List Addr) (H : Hp) : Xb s H H := fun _ _ _ h => h
theorem Ex.xb {s : List Addr} {H H' : Hp} (e : Ex H H') : Xb s H H' := fun a o _ h => e a o h
theorem Xb.trans {s : List Addr} {H H1 H2 : Hp} (x : Xb s H H1) (y : Xb s H1 H2) : Xb s H H2 := fun a o n h => y a o n (x a o n h)
theorem Xb.ex {s : List Addr} {H H1 H2 : Hp} (x : Xb s H H1) (e : Ex H1 H2) : Xb s H H2 := fun a o n h => e a o (x a o n h)
theorem Xb.ex0 {s : List Addr} {H H1 H2 : Hp} (e : Ex H H1) (x : Xb s H1 H2) : Xb s H H2 := fun a o n h => x a o n (e a o h)
theorem Xb.upd {s : List Addr} {H H1 : Hp} {p : Addr} {o : HO} (x : Xb s H H1) (hp : p ∈ s) : Xb s H (upd H1 p o) := fun a u n h => by
  rw [upd_ne (fun e => n (by rw [e]; exact hp))]
  exact x a u n h
theorem Xb.mono {s t : List Addr} {H H' : Hp} (x : Xb s H H') (h : ∀ a ∈ s, a ∈ t) : Xb t H H' := fun a o n => x a o fun m => n (h a m)
theorem Xb.nil {H H' : Hp} (x : Xb [] H H') : Ex H H' := fun a o h => x a o (by simp) h
/-- what H0 does not know may change -/
theorem Ex.xb0 {s : List Addr} {H0 H H' : Hp} (e : Ex H0 H) (x : Xb s H H') (n : ∀ a ∈ s, H0 a = none) : Ex H0 H' := fun a o h => x a o (fun m => by rw [n a m] at h; cases h) (e a o h)
theorem Xb.rd {s : List Addr} {H H' : Hp} {a : Addr} {u : HO} (x : Xb s H H') (n : a ∉ s) (h : Rd H a u) : Rd H' a u := by
  rcases h with h | ⟨o, h⟩
  · exact .inl (x a _ n h)
  · exact .inr ⟨o, x a _ n h⟩
theorem Xb.l {K : PySem.W.Frag} {s : List Addr} {H H' : Hp} {a : Addr} {xs : List V} (x : Xb s H H') (n : a ∉ s) (h : SL K H a xs) : SL K H' a xs := x.rd n h
theorem Xb.t {K : PySem.W.Frag} {s : List Addr} {H H' : Hp} {a : Addr} {xs : List V} (x : Xb s H H') (n : a ∉ s) (h : ST K H a xs) : ST K H' a xs := x.rd n h
theorem Xb.lq {K : PySem.W.Frag} {s : List Addr} {H H' : Hp} {a : Addr} {xs : List V} (x : Xb s H H') (n : a ∉ s) (h : SqL K H a xs) : SqL K H' a xs := by
  rcases h with h | h
  · exact .inl (x.rd n h)
  · exact .inr h
theorem nin1 {a p : Addr} (h : a ≠ p) : a ∉ [p] := by simpa using h
theorem nin2 {a p q : Addr} (h : a ≠ p) (h2 : a ≠ q) : a ∉ [p, q] := by simp [h, h2]
theorem nin0 {a : Addr} : a ∉ ([] : List Addr) := by simp
theorem ne_new {H : Hp} {a b : Addr} {o : HO} (h : H b = none) (h' : H a = some o) : b ≠ a := fun e => by rw [e, h'] at h; cases h
/-- J walks l; g stores each; τ: the slots behind; while Gd -/
structure Src (J : It) {α : Type} (l : List α) (g : TG) (τ : α → L2.St → L2.St) (Gd : Hp → Prop) : Prop where
  go : ∀ i H, i < l.length → Gd H → J.go i H
  stop : ∀ H, Gd H → J.stop l.length H
  yld : ∀ i H x H' σ K, (hi : i < l.length) → Gd H → J.yld i H x H' → (∀ H'', Ex H H'' → K (τ l[i] σ) H'') → g x σ H' K
/-- the iterable begins a walk of l; it reads addresses of A or new ones alone -/
def EvI (A : Addr → Prop) {α : Type} (wi : TI) (g : TG) (σ : L2.St) (H : Hp) (l : List α) (τ : α → L2.St → L2.St) : Prop :=
  ∀ H1, Ex H H1 → ∀ R : It → Hp → Prop, (∀ (J : It) (H2 : Hp) (Gd : Hp → Prop) (fp : List Addr), Ex H1 H2 → (∀ a ∈ fp, A a ∨ H1 a = none) → Gd H2 → (∀ s Ha Hb, Xb s Ha Hb → (∀ a ∈ fp, a ∉ s) → Gd Ha → Gd Hb) → Src J l g τ Gd → R J H2) → wi σ H1 R
def EvQA (K : PySem.W.Frag) (A : Addr → Prop) (te : TE) (σ : L2.St) (H : Hp) (xs : List V) : Prop := ∀ H1, Ex H H1 → ∀ Q : VK, (∀ a H2, Ex H1 H2 → (A a ∨ H1 a = none) → SL K H2 a xs → Q (.ref a) H2) → te σ H1 Q
section
variable {K : PySem.W.Frag} {A : Addr → Prop} {σ : L2.St} {H H' : Hp} {ta tb tc te tx tl : TE} {t u : TT} {x y z v : V} {xs ys : List V} {tr : TA} {α β γ : Type}
theorem qa_new (h : EvL te σ H xs) : EvQA K A te σ H xs := fun H1 e Q q => h H1 e Q fun p H2 hp e2 h2 => q p H2 e2 (.inr hp) (slof h2)
theorem qa_old {a : Addr} (h : Ev te σ H (.ref a)) (hs : SL K H a xs) (ha : A a) : EvQA K A te σ H xs := fun H1 e Q q => h H1 e Q fun H2 e2 => q a H2 e2 (.inl ha) (exl (e.trans e2) hs)
theorem i_list {l : List α} {gv : α → V} {j : Nat} (h : EvQA K A tl σ H (l.map gv)) : EvI A (iList K tl) (gName j) σ H l (fun x s => s.set j (some (gv x))) := fun H1 e R q =>
  h H1 e _ fun a H2 e2 ha hs => have hs := hs.q; ⟨a, rfl, ⟨_, hs⟩, q (Itl K a) H2 (fun H => SqL K H a (l.map gv)) [a] e2 (by simpa using ha) hs (fun s Ha Hb x n g => x.lq (n a (by simp)) g)
    ⟨fun i H hi g => ⟨_, gv l[i], g, by simp [hi]⟩, fun H g => ⟨_, g, by simp⟩, fun i H x H' σ K hi g y k => by
      obtain ⟨e1, y⟩ := y
      subst e1
      have := y _ g
      simp [hi] at this
      subst this
      exact k H' (Ex.refl _)⟩⟩
theorem i_str {l : Row} {j : Nat} (h : Ev te σ H (VS l)) : EvI A (iStr te) (gName j) σ H l (fun c s => s.set j (some (VS [c]))) := fun H1 e R q =>
  h H1 e _ fun H2 e2 => ⟨S l, rfl, q (Its (S l)) H2 (fun _ => True) [] e2 (by simp) trivial (fun _ _ _ _ _ _ => trivial)
    ⟨fun i H hi _ => by show i < l.toArray.size; simpa using hi, fun H _ => by show l.toArray.size ≤ l.length; simp, fun i H x H' σ K hi _ y k => by
      obtain ⟨e1, c, ec, e3⟩ := y
      subst e1
      have ec : l.toArray[i]? = some c := ec
      simp [hi] at ec
      subst ec e3
      exact k H' (Ex.refl _)⟩⟩
theorem i_rng1 {ta : TA} {n : Int} {j : Nat} (h : EvA ta σ H [.int n]) (hn : -1000000 ≤ n ∧ n ≤ 1000000) : EvI A (iRng1 ta) (gName j) σ H (List.range n.toNat) (fun (i : Nat) s => s.set j (some (.int (i : Int)))) := fun H1 e R q =>
  h H1 e _ fun H2 e2 => ⟨n, rfl, by omega, by omega, q (Itr 0 n.toNat) H2 (fun _ => True) [] e2 (by simp) trivial (fun _ _ _ _ _ _ => trivial)
    ⟨fun i H hi _ => by show i < n.toNat; simpa using hi, fun H _ => by show n.toNat ≤ _; simp, fun i H x H' σ K hi _ y k => by
      obtain ⟨e1, e3⟩ := y
      subst e1 e3
      simp only [List.getElem_range] at k
      show K (σ.set j (some (.int (0 + (i : Int))))) H'
      rw [Int.zero_add]
      exact k H' (Ex.refl _)⟩⟩
theorem zip_get {l : List α} {m : List β} {i : Nat} (hi : i < (l.zip m).length) : ∃ (h1 : i < l.length) (h2 : i < m.length), (l.zip m)[i] = (l[i], m[i]) := by
  rw [List.length_zip] at hi
  exact ⟨by omega, by omega, List.getElem_zip⟩
theorem gTup2n {j1 j2 : Nat} {T : Addr} {H : Hp} {σ : L2.St} {K' : L2.St → Hp → Prop} (hT : SqT K H T [x, y]) (k : K' ((σ.set j1 (some x)).set j2 (some y)) H) : gTup K 2 (gCons (gName j1) (gCons (gName j2) gNil)) (.ref T) σ H K' :=
  ⟨T, [x, y], rfl, hT, rfl, x, [y], rfl, y, [], rfl, rfl, k⟩
theorem i_zip {l : List α} {m : List β} {g1 : α → V} {g2 : β → V} {j1 j2 : Nat} (h1 : EvQA K A ta σ H (l.map g1)) (h2 : EvQA K A tb σ H (m.map g2)) :
    EvI A (iZip K (tCons ta (tCons tb tNil))) (gTup K 2 (gCons (gName j1) (gCons (gName j2) gNil))) σ H (l.zip m) (fun p s => (s.set j1 (some (g1 p.1))).set j2 (some (g2 p.2))) := fun H1 e R q =>
  h1 H1 e _ fun a H2 e2 ha hs => have hs := hs.q; h2 H2 (e.trans e2) _ fun b H3 e3 hb ht => have ht := ht.q; ⟨a, b, _, _, rfl, ex_l e3 hs, ht, q (Itz K a b) H3 (fun H => SqL K H a (l.map g1) ∧ SqL K H b (m.map g2)) [a, b] (e2.trans e3)
    (by
      intro c hc
      rcases List.mem_cons.mp hc with rfl | hc
      · exact ha
      · obtain rfl := List.mem_singleton.mp hc
        rcases hb with hb | hb
        · exact .inl hb
        · exact .inr (fresh_back e2 hb)) ⟨ex_l e3 hs, ht⟩ (fun s Ha Hb x n g => ⟨x.lq (n a (by simp)) g.1, x.lq (n b (by simp)) g.2⟩)
    ⟨fun i H hi g => by
      obtain ⟨p1, p2, _⟩ := zip_get hi
      exact ⟨_, _, g1 l[i], g2 m[i], g.1, g.2, by simp [p1], by simp [p2]⟩, fun H g => ⟨_, _, g.1, g.2, by
      rw [List.length_map, List.length_map, List.length_zip]; omega⟩, fun i H x H' σ K hi g y k => by
      obtain ⟨p1, p2, e1⟩ := zip_get hi
      obtain ⟨T, x1, x2, rfl, hT, rfl, y1, y2⟩ := y
      have y1 := y1 _ g.1
      have y2 := y2 _ g.2
      simp [p1] at y1
      simp [p2] at y2
      subst y1 y2
      rw [e1] at k
      exact gTup2n (st_of upd_same) (k _ (Ex.new hT))⟩⟩
theorem i_zipSS {l m : Row} {j1 j2 : Nat} (h1 : Ev ta σ H (VS l)) (h2 : Ev tb σ H (VS m)) :
    EvI A (iZipSS (tCons ta (tCons tb tNil))) (gTup K 2 (gCons (gName j1) (gCons (gName j2) gNil))) σ H (l.zip m) (fun p s => (s.set j1 (some (VS [p.1]))).set j2 (some (VS [p.2]))) := fun H1 e R q =>
  h1 H1 e _ fun H2 e2 => h2 H2 (e.trans e2) _ fun H3 e3 => ⟨S l, S m, rfl, q (ItzS (S l) (S m)) H3 (fun _ => True) [] (e2.trans e3) (by simp) trivial (fun _ _ _ _ _ _ => trivial)
    ⟨fun i H hi _ => by
      obtain ⟨p1, p2, _⟩ := zip_get hi
      show i < l.toArray.size ∧ i < m.toArray.size
      simpa using ⟨p1, p2⟩, fun H _ => by
      show l.toArray.size ≤ _ ∨ m.toArray.size ≤ _
      simp only [List.size_toArray, List.length_zip]; omega, fun i H x H' σ K hi _ y k => by
      obtain ⟨p1, p2, e1⟩ := zip_get hi
      obtain ⟨T, c, d, rfl, hT, rfl, y1, y2⟩ := y
      have y1 : l.toArray[i]? = some c := y1
      have y2 : m.toArray[i]? = some d := y2
      simp [p1] at y1
      simp [p2] at y2
      subst y1 y2
      rw [e1] at k
      exact gTup2n (st_of upd_same) (k _ (Ex.new hT))⟩⟩
theorem i_enum {l : List α} {g1 : α → V} {j1 j2 : Nat} (h1 : EvQA K A ta σ H (l.map g1)) :
    EvI A (iEnum K (tCons ta tNil)) (gTup K 2 (gCons (gName j1) (gCons (gName j2) gNil))) σ H (l.zipIdx) (fun p s => (s.set j1 (some (.int (p.2 : Nat)))).set j2 (some (g1 p.1))) := fun H1 e R q =>
  h1 H1 e _ fun a H2 e2 ha hs => have hs := hs.q; ⟨a, _, rfl, hs, q (Ite K a) H2 (fun H => SqL K H a (l.map g1)) [a] e2 (by simpa using ha) hs (fun s Ha Hb x n g => x.lq (n a (by simp)) g)
    ⟨fun i H hi g => by
      rw [List.length_zipIdx] at hi
      exact ⟨_, g1 l[i], g, by simp [hi]⟩, fun H g => ⟨_, g, by simp⟩, fun i H x H' σ K hi g y k => by
      have hi' : i < l.length := by rw [List.length_zipIdx] at hi; exact hi
      obtain ⟨T, x2, rfl, hT, rfl, y2⟩ := y
      have y2 := y2 _ g
      simp [hi'] at y2
      subst y2
      have k := k (upd H T (.tup [.int (i : Nat), g1 l[i]])) (Ex.new hT)
      simp only [List.getElem_zipIdx, Nat.zero_add] at k
      exact gTup2n (st_of upd_same) k⟩⟩
theorem wipe_one (σ : L2.St) (j : Nat) (y : Option V) : wipe ((wipe σ [j]).set j y) [j] = wipe σ [j] := by
  show (((σ.set j none).set j y).set j none) = σ.set j none
  rw [List.set_set, List.set_set]
theorem wipe_two (σ : L2.St) {i j : Nat} (h : i ≠ j) (y z : Option V) : wipe (((wipe σ [i, j]).set i y).set j z) [i, j] = wipe σ [i, j] := by
  show (((((σ.set j none).set i none).set i y).set j z).set j none).set i none = (σ.set j none).set i none
  rw [List.set_set, List.set_set, List.set_comm _ _ h, List.set_set, List.set_set]
/-- l gone through so far: what stands at Dl -/
def CwL (H : Hp) (Dl : Addr) (acc : List V) (H' : Hp) : Prop := H Dl = none ∧ Ex H H' ∧ H' Dl = some (.lst acc)
theorem el_lc {l : List α} {b : α → Bool} {f : α → V} {wi : TI} {g : TG} {τ : α → L2.St → L2.St} {vs : List Nat} (src : EvI (fun _ => True) wi g σ H l τ) (hz : l.length ≤ 40000) (hw : ∀ x, wipe (τ x (wipe σ vs)) vs = wipe σ vs)
    (ht : ∀ x ∈ l, ∀ H1, Ex H H1 → EvT t (τ x (wipe σ vs)) H1 (b x)) (he : ∀ x ∈ l, b x = true → ∀ H1, Ex H H1 → Ev te (τ x (wipe σ vs)) H1 (f x)) : EvL (tLc wi g t te vs) σ H ((l.filter b).map f) := fun H0 e Q q =>
  src H0 e _ fun J H1 Gd fp e1 hfp gd0 stay S Dl hD => by
    refine ⟨fun i m H' => m = l.length - i ∧ i ≤ l.length ∧ CwL H1 Dl (((l.take i).filter b).map f) H', ⟨l.length, by simp, Nat.zero_le _, hD, Ex.new hD, upd_same⟩, ?_⟩
    rintro i m H' ⟨rfl, hi, p1, p2, p3⟩
    have gd : Gd H' := stay [] H1 H' (fun a o _ h => p2 a o h) (fun _ _ => by simp) gd0
    by_cases hlt : i < l.length
    · refine .inr ⟨S.go i H' hlt gd, fun H'' => CwL H1 Dl (((l.take (i + 1)).filter b).map f) H'', fun H'' c => ⟨l.length - (i + 1), by omega, rfl, hlt, c⟩, fun x H2 y => ?_⟩
      refine S.yld i H' x H2 (wipe σ vs) _ hlt gd y fun H3 e3 => ⟨hw _, ?_⟩
      have eH : Ex H H3 := (e.trans e1).trans (p2.trans e3)
      have hm : l[i] ∈ l := List.getElem_mem hlt
      have hx : l.take (i + 1) = l.take i ++ [l[i]] := by rw [List.take_succ, List.getElem?_eq_getElem hlt]; rfl
      refine ht l[i] hm H3 eH H3 (Ex.refl _) _ fun H4 e4 => ?_
      cases hb : b l[i] with
      | true =>
        show te _ H4 _
        refine he l[i] hm hb H4 (eH.trans e4) H4 (Ex.refl _) _ fun H5 e5 => ⟨_, e5 _ _ (e4 _ _ (e3 _ _ p3)), ?_, p1, Ex.mut (((p2.trans e3).trans e4).trans e5) p1, ?_⟩
        · refine sz_lt ?_
          rw [List.length_map]
          have := List.length_filter_le b (l.take i)
          rw [List.length_take] at this
          omega
        · rw [upd_same, hx, List.filter_append, List.map_append, List.filter_cons, if_pos hb]
          rfl
      | false =>
        show CwL H1 Dl _ H4
        refine ⟨p1, (p2.trans e3).trans e4, ?_⟩
        rw [hx, List.filter_append, List.filter_cons, if_neg (by rw [hb]; decide), List.filter_nil, List.append_nil]
        exact e4 _ _ (e3 _ _ p3)
    · have ei : i = l.length := by omega
      subst ei
      rw [List.take_length] at p3
      exact .inl ⟨S.stop H' gd, q Dl H' (fresh_back e1 p1) (e1.trans p2) p3⟩
theorem el_lc1 {l : List α} {f : α → V} {wi : TI} {g : TG} {τ : α → L2.St → L2.St} {vs : List Nat} (src : EvI (fun _ => True) wi g σ H l τ) (hz : l.length ≤ 40000) (hw : ∀ x, wipe (τ x (wipe σ vs)) vs = wipe σ vs)
    (he : ∀ x ∈ l, ∀ H1, Ex H H1 → Ev te (τ x (wipe σ vs)) H1 (f x)) : EvL (tLc wi g tYes te vs) σ H (l.map f) := by
  have := el_lc (b := fun _ => true) (t := tYes) (te := te) (f := f) src hz hw (fun x _ H1 _ H2 _ Q q => q H2 (Ex.refl _)) (fun x hx _ => he x hx)
  rwa [List.filter_eq_self.mpr (fun _ _ => rfl)] at this
variable {D : Ends} {tu tw tz : TS} {g : TG}
theorem s_for {s : List Addr} {l : List α} {wi : TI} {τ : α → L2.St → L2.St} (src : EvI (· ∉ s) wi g σ H l τ) (hs : ∀ a ∈ s, H a ≠ none)
    (k : ∀ H1, Ex H H1 → ∃ Pv : Nat → L2.St → Hp → Prop, Pv 0 σ H1 ∧ (∀ i σ' H', Pv i σ' H' → Xb s H1 H') ∧
      (∀ i x σ' H' H2, l[i]? = some x → Pv i σ' H' → Ex H' H2 → tu { D with nx := Pv (i + 1), ct := Pv (i + 1), bk := D.nx } (τ x σ') H2) ∧ (∀ σ' H', Pv l.length σ' H' → D.nx σ' H')) : tFor wi g tu D σ H :=
  src H (Ex.refl H) _ fun J H1 Gd fp e1 hfp gd0 stay S => by
    obtain ⟨Pv, h0, hx, hst, hd⟩ := k H1 e1
    refine ⟨fun i m σ' H' => m = l.length - i ∧ i ≤ l.length ∧ Pv i σ' H', ⟨l.length, by simp, Nat.zero_le _, h0⟩, ?_⟩
    rintro i m σ' H' ⟨rfl, hi, p⟩
    have gd : Gd H' := stay s H1 H' (hx i σ' H' p) (fun a ha hm => by
      rcases hfp a ha with h | h
      · exact h hm
      · exact hs a hm h) gd0
    by_cases hlt : i < l.length
    · refine .inr ⟨S.go i H' hlt gd, Pv (i + 1), fun σ'' H'' c => ⟨l.length - (i + 1), by omega, rfl, hlt, c⟩, fun x H2 y => ?_⟩
      exact S.yld i H' x H2 σ' _ hlt gd y fun H3 e3 => hst i l[i] σ' H' H3 (by simp [hlt]) p e3
    · have ei : i = l.length := by omega
      subst ei
      exact .inl ⟨S.stop H' gd, hd σ' H' p⟩
theorem q_for {s : List Addr} {l : List α} {wi : TI} {τ : α → L2.St → L2.St} (src : EvI (· ∉ s) wi g σ H l τ) (hs : ∀ a ∈ s, H a ≠ none)
    (k : ∀ H1, Ex H H1 → ∃ Pv : Nat → L2.St → Hp → Prop, Pv 0 σ H1 ∧ (∀ i σ' H', Pv i σ' H' → Xb s H1 H') ∧
      (∀ i x σ' H' H2, l[i]? = some x → Pv i σ' H' → Ex H' H2 → tu { D with nx := Pv (i + 1), ct := Pv (i + 1), bk := tz D } (τ x σ') H2) ∧ (∀ σ' H', Pv l.length σ' H' → tz D σ' H')) : tSeq (tFor wi g tu) tz D σ H :=
  s_for (D := { D with nx := tz D }) src hs k
/-- d while it is walked -/
def Lk (H : Hp) (d : Addr) (r : Dic) (od : Obj) : Hp := upd H d (.frz od (.dK (DS r)))
theorem lk_back {r : Dic} {d : Addr} {od : Obj} (hd : H d = some (.dK (DS r))) {H' : Hp} (e : Ex (Lk H d r od) H') : H' d = some (.frz od (.dK (DS r))) ∧ Ex H (upd H' d (.dK (DS r))) := ⟨e d _ upd_same, fun a o h => by
  by_cases ha : a = d
  · subst ha; rw [upd_same, ← hd, h]
  · rw [upd_ne ha]; exact e a o (by unfold Lk; rw [upd_ne ha]; exact h)⟩
/-- for row, letter in d.items(): .., a body that changes nothing -/
theorem s_items {r : Dic} {d : Addr} {td : TE} {j1 j2 : Nat} {Pv : Nat → L2.St → Prop} (hd : H d = some (.dK (DS r))) (ht : ∀ od, Ev td σ (Lk H d r od) (.ref d)) (h0 : Pv 0 σ)
    (hs : ∀ od i p σ' H', r[i]? = some p → Pv i σ' → Ex (Lk H d r od) H' →
      tu ⟨fun σ2 H2 => Ex (Lk H d r od) H2 ∧ Pv (i + 1) σ2, fun v H2 => H2 d = some (.frz od (.dK (DS r))) ∧ D.rt v (upd H2 d (.dK (DS r))), fun σ2 H2 => H2 d = some (.frz od (.dK (DS r))) ∧ D.nx σ2 (upd H2 d (.dK (DS r))), fun σ2 H2 => Ex (Lk H d r od) H2 ∧ Pv (i + 1) σ2⟩ ((σ'.set j1 (some (VS p.1))).set j2 (some (VS p.2))) H')
    (k : ∀ σ' H', Ex H H' → Pv r.length σ' → D.nx σ' H') : tLock (tFor (iItems td) (gTup K 2 (gCons (gName j1) (gCons (gName j2) gNil))) tu) D σ H := by
  refine ⟨d, _, hd, trivial, fun od => ?_⟩
  refine ht od _ (Ex.refl _) _ fun H1 e1 => ⟨d, od, DS r, rfl, e1 d _ upd_same, ?_⟩
  refine ⟨fun i m σ' H' => m = r.length - i ∧ i ≤ r.length ∧ Ex (Lk H d r od) H' ∧ Pv i σ', ⟨r.length, by simp, Nat.zero_le _, e1, h0⟩, ?_⟩
  rintro i m σ' H' ⟨rfl, hi, ex, p⟩
  have hq := lk_back hd ex
  by_cases hlt : i < r.length
  · refine .inr ⟨⟨hq.1, by rw [DS_len]; exact hlt⟩, fun σ'' H'' => Ex (Lk H d r od) H'' ∧ Pv (i + 1) σ'', fun σ'' H'' c => ⟨r.length - (i + 1), by omega, rfl, hlt, c⟩, fun x H2 y => ?_⟩
    obtain ⟨T, kk, v, hkv, rfl, hT, rfl⟩ := y
    have hkv : (DS r)[i]? = some (kk, v) := hkv
    unfold DS at hkv
    simp [hlt] at hkv
    obtain ⟨rfl, rfl⟩ := hkv
    exact gTup2n (x := VS r[i].1) (st_of upd_same) (hs od i r[i] σ' _ (by simp [hlt]) p (ex.trans (Ex.new hT)))
  · have ei : i = r.length := by omega
    subst ei
    exact .inl ⟨⟨hq.1, by rw [DS_len]; exact Nat.le_refl _⟩, hq.1, k σ' _ hq.2 p⟩
theorem q_items {r : Dic} {d : Addr} {td : TE} {j1 j2 : Nat} {Pv : Nat → L2.St → Prop} (hd : H d = some (.dK (DS r))) (ht : ∀ od, Ev td σ (Lk H d r od) (.ref d)) (h0 : Pv 0 σ)
    (hs : ∀ od i p σ' H', r[i]? = some p → Pv i σ' → Ex (Lk H d r od) H' →
      tu ⟨fun σ2 H2 => Ex (Lk H d r od) H2 ∧ Pv (i + 1) σ2, fun v H2 => H2 d = some (.frz od (.dK (DS r))) ∧ D.rt v (upd H2 d (.dK (DS r))), fun σ2 H2 => H2 d = some (.frz od (.dK (DS r))) ∧ tz D σ2 (upd H2 d (.dK (DS r))), fun σ2 H2 => Ex (Lk H d r od) H2 ∧ Pv (i + 1) σ2⟩ ((σ'.set j1 (some (VS p.1))).set j2 (some (VS p.2))) H')
    (k : ∀ σ' H', Ex H H' → Pv r.length σ' → tz D σ' H') : tSeq (tLock (tFor (iItems td) (gTup K 2 (gCons (gName j1) (gCons (gName j2) gNil))) tu)) tz D σ H :=
  s_items (D := { D with nx := tz D }) hd ht h0 hs k
theorem s_par {i j : Nat} {P1 P2 : V → Hp → Prop} (h : EvAG tr σ H [P1, P2]) (k : ∀ v w H1, Ex H H1 → P1 v H1 → P2 w H1 → D.nx ((σ.set i (some v)).set j (some w)) H1) : tPar i j tr D σ H :=
  h H (Ex.refl H) _ fun vs H1 e1 hp => by
    obtain ⟨v, r, rfl, h1, w, r', rfl, h2, rfl⟩ := hp
    exact ⟨v, w, rfl, k v w H1 e1 h1 h2⟩
theorem q_par {i j : Nat} {P1 P2 : V → Hp → Prop} (h : EvAG tr σ H [P1, P2]) (k : ∀ v w H1, Ex H H1 → P1 v H1 → P2 w H1 → tz D ((σ.set i (some v)).set j (some w)) H1) : tSeq (tPar i j tr) tz D σ H := s_par (D := { D with nx := tz D }) h k
/-- a new list, a new dict -/
def isNL (H0 : Hp) (xs : List V) : V → Hp → Prop := fun u H => ∃ p, u = .ref p ∧ H0 p = none ∧ H p = some (.lst xs)
def isND (H0 : Hp) (kvs : List (Key × V)) : V → Hp → Prop := fun u H => ∃ p, u = .ref p ∧ H0 p = none ∧ H p = some (.dK kvs)
theorem ag_NL {Ps : List (V → Hp → Prop)} (h : EvL te σ H xs) (hr : EvAG tr σ H Ps) : EvAG (tCons te tr) σ H (isNL H xs :: Ps) :=
  ag_cons (fun H1 e Q q => h H1 e Q fun p H2 hp e2 h2 => q _ H2 e2 ⟨p, rfl, fresh_back e hp, h2⟩) (fun _ _ _ e ⟨p, h1, h2, h3⟩ => ⟨p, h1, h2, e _ _ h3⟩) hr
theorem ag_ND {Ps : List (V → Hp → Prop)} {kvs : List (Key × V)} (h : EvD te σ H kvs) (hr : EvAG tr σ H Ps) : EvAG (tCons te tr) σ H (isND H kvs :: Ps) :=
  ag_cons (fun H1 e Q q => h H1 e Q fun p H2 hp e2 h2 => q _ H2 e2 ⟨p, rfl, fresh_back e hp, h2⟩) (fun _ _ _ e ⟨p, h1, h2, h3⟩ => ⟨p, h1, h2, e _ _ h3⟩) hr
/-- d[k] = v, a dict of texts -/
theorem s_dput {d : Addr} {r : Dic} {a b : Row} (hd : H d = some (.dK (DS r))) (hv : Ev te σ H (VS b)) (ho : Ev ta σ H (.ref d)) (hk : Ev tb σ H (VS a)) (hz : r.length < 100000) (k : ∀ H1, Ex H H1 → D.nx σ (upd H1 d (.dK (DS (put r a b))))) : sDPut ta tb te D σ H :=
  hv H (Ex.refl H) _ fun H1 e1 => ho H1 e1 _ fun H2 e2 => hk H2 (e1.trans e2) _ fun H3 e3 => ⟨d, _, rfl, DPut.k (k := Sum.inr (S a)) (e3 _ _ (e2 _ _ (e1 _ _ hd))) (by rw [DS_len]; exact sz_lt hz), by
    rw [DS_put]
    exact k H3 ((e1.trans e2).trans e3)⟩
theorem q_dput {d : Addr} {r : Dic} {a b : Row} (hd : H d = some (.dK (DS r))) (hv : Ev te σ H (VS b)) (ho : Ev ta σ H (.ref d)) (hk : Ev tb σ H (VS a)) (hz : r.length < 100000) (k : ∀ H1, Ex H H1 → tz D σ (upd H1 d (.dK (DS (put r a b))))) : tSeq (sDPut ta tb te) tz D σ H := s_dput (D := { D with nx := tz D }) hd hv ho hk hz k
/-- if ..: (never) -/
theorem q_skip (h : EvT t σ H false) (k : ∀ H1, Ex H H1 → tz D σ H1) : tSeq (tIfS t tu tNext) tz D σ H := q_if h (fun e => nomatch e) (fun _ => k)
theorem s_skip (h : EvT t σ H false) (k : ∀ H1, Ex H H1 → D.nx σ H1) : tIfS t tu tNext D σ H := s_if h (fun e => nomatch e) (fun _ => k)
theorem s_ret2 (h : Ev te σ H v) (k : RetV v H D.rt) : tRet te D σ H := s_ret h k
theorem s_retL2 (h : EvL te σ H xs) (k : RetL xs H D.rt) : tRet te D σ H := s_retL h k
end
theorem exh {H H' : Hp} {a : Addr} {o : HO} (e : Ex H H') (h : H a = some o) : H' a = some o := e a o h
/-- the promises, transported -/
theorem RetV.ex {v : V} {H H1 : Hp} {Q : VK} (k : RetV v H Q) (e : Ex H H1) : RetV v H1 Q := fun H2 e2 => k H2 (e.trans e2)
theorem RetL.ex {xs : List V} {H H1 : Hp} {Q : VK} (k : RetL xs H Q) (e : Ex H H1) : RetL xs H1 Q := fun p H2 hp e2 h => k p H2 (fresh_back e hp) (e.trans e2) h
end Ho
namespace Ho
open PySem PySem.Spec PyProof.Rows L2 Evl
/-- codes that a text may hold -/
def SmR (r : Row) : Prop := ∀ c ∈ r, c < 1114112
def SmT (l : List Row) : Prop := ∀ r ∈ l, SmR r
def dS (r : Row) : PyData := .str (S r)
theorem strOk_S {r : Row} (h : SmR r) : PyData.strOk (S r) = true := by
  unfold PyData.strOk
  show (r.toArray).all (· < 0x110000) = true
  rw [List.all_toArray]
  simp only [List.all_eq_true, decide_eq_true_eq]
  exact h
theorem eqvAll_S : ∀ l m : List Row, PyData.eqvAll (l.map dS) (m.map dS) = decide (l = m)
  | [], [] => by simp [PyData.eqvAll]
  | [], b :: m => by simp [PyData.eqvAll]
  | a :: l, [] => by simp [PyData.eqvAll]
  | a :: l, b :: m => by
    rw [List.map_cons, List.map_cons, PyData.eqvAll, eqvAll_S l m]
    show (PyData.eqv (.str (S a)) (.str (S b)) && _) = _
    rw [PyData.eqv]
    by_cases h : a = b
    · subst h; simp
    · have : (S a == S b) = false := beq_eq_false_iff_ne.mpr fun e => h (S_inj e)
      rw [this]; simp [h]
theorem eqvAll_I : ∀ l m : List Int, PyData.eqvAll (l.map .int) (m.map .int) = decide (l = m)
  | [], [] => by simp [PyData.eqvAll]
  | [], b :: m => by simp [PyData.eqvAll]
  | a :: l, [] => by simp [PyData.eqvAll]
  | a :: l, b :: m => by
    rw [List.map_cons, List.map_cons, PyData.eqvAll, eqvAll_I l m, PyData.eqv]
    by_cases h : a = b
    · subst h; simp
    · simp [h]
theorem lay_S : ∀ l : List Row, SmT l → PyData.canLayAll0 (l.map dS) = true
  | [], _ => by simp [PyData.canLayAll0]
  | a :: l, h => by
    rw [List.map_cons, PyData.canLayAll0, lay_S l fun r hr => h r (List.mem_cons_of_mem _ hr)]
    show (PyData.canLay0 (.str (S a)) && true) = true
    rw [PyData.canLay0, strOk_S (h a List.mem_cons_self)]
    rfl
theorem lay_I : ∀ l : List Int, PyData.canLayAll0 (l.map .int) = true
  | [] => by simp [PyData.canLayAll0]
  | a :: l => by rw [List.map_cons, PyData.canLayAll0, lay_I l, PyData.canLay0]; rfl
theorem depth_S : ∀ l : List Row, PyData.depthAll (l.map dS) = 0
  | [] => by simp [PyData.depthAll]
  | a :: l => by
    rw [List.map_cons, PyData.depthAll, depth_S l]
    show max (PyData.depth (.str (S a))) 0 = 0
    rw [PyData.depth]; rfl
theorem depth_I : ∀ l : List Int, PyData.depthAll (l.map .int) = 0
  | [] => by simp [PyData.depthAll]
  | a :: l => by rw [List.map_cons, PyData.depthAll, depth_I l, PyData.depth]; rfl
theorem shaped_S {l : List Row} (h : SmT l) : SeqAt.shaped (.list (l.map dS)) = true := by
  unfold SeqAt.shaped
  rw [PyData.canLay0, lay_S l h, PyData.depth, depth_S]
  rfl
theorem shaped_I (l : List Int) : SeqAt.shaped (.list (l.map .int)) = true := by
  unfold SeqAt.shaped
  rw [PyData.canLay0, lay_I l, PyData.depth, depth_I]
  rfl
section
variable {K : PySem.W.Frag} {σ : L2.St} {H : Hp} {ta tb te : TE} {t : TT} {tr : TA} {a b : Row} {i : Int}
theorem dp_S : ∀ l : List Row, DpAll K H (l.map VS) (l.map dS)
  | [] => .nil
  | a :: l => .cons (.str (S a)) (dp_S l)
theorem dp_I : ∀ l : List Int, DpAll K H (l.map V.int) (l.map .int)
  | [] => .nil
  | a :: l => .cons (.int a) (dp_I l)
theorem ev_eqLS {l m : List Row} (h1 : EvQ K ta σ H (l.map VS)) (h2 : EvQ K tb σ H (m.map VS)) (s1 : SmT l) (s2 : SmT m) : Ev (tOp (rEqD K) ta tb) σ H (.bl (decide (l = m))) := fun H1 e Q q =>
  h1 H1 e _ fun p H2 e2 g1 => h2 H2 (e.trans e2) _ fun p' H3 e3 g2 => ⟨.list (l.map dS), .list (m.map dS), .lst (SL.q (K := K) (exl (K := K) e3 g1)) (dp_S l), .lst (SL.q g2) (dp_S m), shaped_S s1, shaped_S s2, by
    rw [PyData.eqv, eqvAll_S]; exact q H3 (e2.trans e3)⟩
theorem ev_neLS {l m : List Row} (h1 : EvQ K ta σ H (l.map VS)) (h2 : EvQ K tb σ H (m.map VS)) (s1 : SmT l) (s2 : SmT m) : Ev (tOp (rNeD K) ta tb) σ H (.bl (!decide (l = m))) := fun H1 e Q q =>
  h1 H1 e _ fun p H2 e2 g1 => h2 H2 (e.trans e2) _ fun p' H3 e3 g2 => ⟨.list (l.map dS), .list (m.map dS), .lst (SL.q (K := K) (exl (K := K) e3 g1)) (dp_S l), .lst (SL.q g2) (dp_S m), shaped_S s1, shaped_S s2, by
    rw [PyData.eqv, eqvAll_S]; exact q H3 (e2.trans e3)⟩
theorem ev_neLI {l m : List Int} (h1 : EvQ K ta σ H (l.map V.int)) (h2 : EvQ K tb σ H (m.map V.int)) : Ev (tOp (rNeD K) ta tb) σ H (.bl (!decide (l = m))) := fun H1 e Q q =>
  h1 H1 e _ fun p H2 e2 g1 => h2 H2 (e.trans e2) _ fun p' H3 e3 g2 => ⟨.list (l.map .int), .list (m.map .int), .lst (SL.q (K := K) (exl (K := K) e3 g1)) (dp_I l), .lst (SL.q g2) (dp_I m), shaped_I l, shaped_I m, by
    rw [PyData.eqv, eqvAll_I]; exact q H3 (e2.trans e3)⟩
theorem el_nilM {α : Type} {g : α → V} : EvL (tLst tNil) σ H (List.map g []) := el_nil
theorem emS_nil : EvA tNil σ H (List.map VS []) := ea_nil
theorem emS_cons {l : List Row} (h : Ev te σ H (VS a)) (hr : EvA tr σ H (List.map VS l)) : EvA (tCons te tr) σ H (List.map VS (a :: l)) := ea_cons h hr
theorem emI_nil : EvA tNil σ H (List.map V.int []) := ea_nil
theorem emI_cons {l : List Int} (h : Ev te σ H (.int i)) (hr : EvA tr σ H (List.map V.int l)) : EvA (tCons te tr) σ H (List.map V.int (i :: l)) := ea_cons h hr
end
end Ho
namespace Ho
open PySem PySem.Spec PyProof.Rows L2 Evl
def IteS (x : Str) : It :=
  ⟨fun i _ => i < x.cps.size, fun i H v H' => ∃ T c, v = .ref T ∧ H T = none ∧ H' = upd H T (.tup [.int (i : Nat), .str ⟨#[c]⟩]) ∧ x.cps[i]? = some c, fun i _ => x.cps.size ≤ i⟩
theorem turn_enumS {P : Program} {w : World} {K : PySem.W.Frag} {elts : List Expr} {kk : Nat} {tpos : Pos} {x : Str} {t : Tok} (e it : Addr) :
    Turn P w K (.Tuple elts kk tpos) (IteS x) [e, it] e (fun i h => i ≤ x.cps.size ∧ (∃ old, IsEnum h e it ((i : Nat) : Int) old) ∧ h.IsStrIter it (strIterType x) x t i ∧ e ≠ it) where
  mem := by simp
  obj := fun i h st b hb => by
    obtain ⟨_, ⟨old, he⟩, ⟨o, ho, hc, hd⟩, _⟩ := st
    have e' : b = e ∨ b = it := by simpa using hb
    rcases e' with z | z
    · rw [z]; exact ⟨_, he, fun v q => nomatch q⟩
    · rw [z]; exact ⟨o, ho, fun v q => by rw [hd] at q; cases q⟩
  keep := fun i h h' st k => let ⟨hl, ⟨old, he⟩, hi, hne⟩ := st; ⟨hl, ⟨old, k e (by simp) _ he⟩, strit_at hi fun o q => k it (by simp) o q, hne⟩
  item := by
    intro X hP hw hK hc i pins s σ H E I hf st hg
    subst hP hw hK
    obtain ⟨_, ⟨old, he⟩, hit, hne⟩ := st
    have hg : i < x.cps.size := hg
    have hh := I.ok.hd hc
    have hel : e < s.heap.objs.size := Heap.lt_size he
    have hil : it < s.heap.objs.size := by obtain ⟨_, q, _⟩ := hit; exact Heap.lt_size q
    refine wpAny_pyNext_enum_itemD (Draws.text (A := X.A.in1) hh it x t) he hit hg hne (by simpa using hne) fun y h' tk hP ho hit' hT hsz hk => ?_
    obtain ⟨c, tc, ec, rfl⟩ := hP
    refine ⟨_, rfl, wpAny_letOwnedTupleGo_enum (s := { s with heap := h', toks := tk + 1 }) ho fun h'' he' sb => ?_⟩
    have hT2 : h''.get? s.heap.objs.size = some { cls := .type "tuple", data := .seq #[.int i tk, .str ⟨#[c]⟩ tc] } := (sb.2 _ (Nat.ne_of_gt hel)).trans hT
    have new : ObjOk X.prog X.w (upd H s.heap.objs.size (.tup [.int (i : Nat), .str ⟨#[c]⟩])) h'' s.heap.objs.size (.tup [.int (i : Nat), .str ⟨#[c]⟩]) :=
      ⟨by show 2 ≤ sizeLine; decide, [.int i tk, .str ⟨#[c]⟩ tc], .cons ⟨_, rfl⟩ (.cons ⟨_, rfl⟩ .nil), ⟨_, hT2, rfl, _, rfl⟩⟩
    have I1 : Inv X pins σ (upd H s.heap.objs.size (.tup [.int (i : Nat), .str ⟨#[c]⟩])) { s with heap := h'', toks := tk + 1 } :=
      I.turnedNew (ch := [e, it]) (fun b ob hb q => (sb.2 b (fun z => hb (by simp [z]))).trans (hk b ob (fun z => hb (by simp [z])) (fun z => hb (by simp [z])) q)) hf (Nat.le_refl _) new
    refine ⟨.ref s.heap.objs.size, _, I1, rfl, ⟨_, c, rfl, I.hok.fresh (Nat.le_refl _), rfl, ec⟩, ⟨hg, ⟨.str ⟨#[c]⟩ tc, ?_⟩, strit_at hit' fun o q => (sb.2 it (Ne.symm hne)).trans q, hne⟩, fun b hb => ?_⟩
    · have e1 : ((i + 1 : Nat) : Int) = (i : Int) + 1 := by omega
      rw [e1]; exact he'
    · have hb' : b < s.heap.objs.size := by
        have e' : b = e ∨ b = it := by simpa using hb
        rcases e' with z | z
        · rw [z]; exact hel
        · rw [z]; exact hil
      rw [upd_ne (Nat.ne_of_lt hb')]
      exact (hf b hb).1
  done := by
    intro X hP hw hK hc i pins s σ H E I hf st hg
    subst hP hw hK
    obtain ⟨hl, ⟨old, he⟩, hit, hne⟩ := st
    have hg : x.cps.size ≤ i := hg
    have hi : i = x.cps.size := Nat.le_antisymm hl hg
    subst hi
    obtain ⟨f0, f1, f2, f3, f4, f5⟩ := hf it (by simp)
    exact wpAny_pyNext_enum_endD (Draws.text (A := X.A.in1) (I.ok.hd hc) it x t) he hit fun h' eb => ⟨rfl, I.turned (t' := s.toks) (fun b o hb q => eb b o hb q) f0 f1 f3 f4 f5⟩
  self := fun A i s Q E st h => let ⟨_, ⟨_, he⟩, _⟩ := st; wpAny_pyIter_enum he h
def iEnumS (ta : TA) : TI := fun σ H R => ta σ H fun vs H1 => ∃ x, vs = [.str x] ∧ R (IteS x) H1
theorem pi_enumS {X : Cx} {e : Expr} {ta : TA} {p pos tpos : Pos} {elts : List Expr} {kk : Nat} (hg : Gl X "enumerate") (hm : X.mg "enumerate" = none) (ha : PA X [e] ta) (hs : starEach [e] X.env = [(false, eval e X.env)] := by rfl) :
    PI X (.Tuple elts kk tpos) (.Call (.Name "enumerate" p) [e] [] pos) (iEnumS ta) := by
  refine ⟨fun pins s σ H R I h => ?_⟩
  refine Call_ (ld_blt I hg hm boot_enumerate (PyProof.Rows.callWith_type1 (thn (ha.run pos pins s σ H _ I h) fun us s1 ⟨vs, H1, I1, r1, q1⟩ => ?_) hs rfl))
  obtain ⟨x, ex, q⟩ := q1
  subst ex
  cases r1 with
  | cons r rr =>
    cases rr
    obtain ⟨t, rfl⟩ := r
    refine call_enumerate_str fun h' he hit hsz hk => wpAny_pyIter_enum he ?_
    have I2 : Inv X pins σ H1 { s1 with heap := h' } := I1.kept (t' := s1.toks) hk
    refine ⟨s1.heap.objs.size + 1, [s1.heap.objs.size + 1, s1.heap.objs.size], _, _, H1, rfl, I2, turn_enumS (t := t) (s1.heap.objs.size + 1) s1.heap.objs.size, ⟨Nat.zero_le _, ⟨.none, he⟩, hit, Nat.succ_ne_self _⟩, fun b hb => ?_, q⟩
    have e' : b = s1.heap.objs.size + 1 ∨ b = s1.heap.objs.size := by simpa using hb
    have hle : s1.heap.objs.size ≤ b := by
      rcases e' with z | z
      · rw [z]; exact Nat.le_add_right _ _
      · rw [z]; exact Nat.le_refl _
    exact I1.fpOk hle (I1.hok.fresh hle)
theorem lt_iff_ltCps : ∀ (a b : Row), PySem.Spec.ltCps a b = decide (a < b)
  | [], [] => by simp [PySem.Spec.ltCps]
  | [], _ :: _ => by simp [PySem.Spec.ltCps]
  | _ :: _, [] => by simp [PySem.Spec.ltCps]
  | a :: r, b :: t => by
    unfold PySem.Spec.ltCps
    rw [lt_iff_ltCps r t, Bool.eq_iff_iff]
    simp [List.cons_lt_cons_iff]
def rising : List Row → Prop
  | [] => True
  | a :: r => (∀ b ∈ r, ¬ b < a) ∧ rising r
theorem row_le_trans {a b c : Row} (h1 : ¬ b < a) (h2 : ¬ c < b) : ¬ c < a := List.not_lt.mpr (List.le_trans (List.not_lt.mp h1) (List.not_lt.mp h2))
theorem risingS_rows : ∀ (p : Row) (l : List Row), risingS (S p) (l.map S) = true → (∀ b ∈ l, ¬ b < p) ∧ rising l
  | p, [], _ => ⟨fun b hb => (nomatch hb), trivial⟩
  | p, a :: r, h => by
    have h : (!PySem.Spec.ltCps a p && risingS (S a) (r.map S)) = true := h
    rw [Bool.and_eq_true, lt_iff_ltCps] at h
    have ih := risingS_rows a r h.2
    have hp : ¬ a < p := by simpa using h.1
    refine ⟨fun b hb => ?_, ih.1, ih.2⟩
    rcases List.mem_cons.mp hb with rfl | hb
    · exact hp
    · exact row_le_trans hp (ih.1 b hb)
theorem sortedS_rows : ∀ (l : List Row), sortedS (l.map S) = true → rising l
  | [], _ => trivial
  | a :: r, h => ⟨(risingS_rows a r h).1, (risingS_rows a r h).2⟩
theorem rising_perm : ∀ {l m : List Row}, rising l → rising m → l.Perm m → l = m
  | [], m, _, _, p => (List.perm_nil.mp p.symm).symm
  | a :: r, [], _, _, p => by simpa using p
  | a :: r, b :: t, h1, h2, p => by
    have e : a = b := by
      have ha : a ∈ b :: t := p.subset List.mem_cons_self
      have hb : b ∈ a :: r := p.symm.subset List.mem_cons_self
      rcases List.mem_cons.mp ha with e | ha
      · exact e
      · rcases List.mem_cons.mp hb with e | hb
        · exact e.symm
        · have q1 := h1.1 b hb
          have q2 := h2.1 a ha
          exact List.le_antisymm (List.not_lt.mp q1) (List.not_lt.mp q2)
    subst e
    rw [rising_perm h1.2 h2.2 (List.Perm.cons_inv p)]
theorem map_S_inj : ∀ {ys : List Str} {l : List Row}, ys.Perm (l.map S) → ∃ m : List Row, ys = m.map S ∧ m.Perm l := by
  intro ys l p
  refine ⟨ys.map fun z => z.cps.toList, ?_, ?_⟩
  · rw [List.map_map]
    have : (S ∘ fun z : Str => z.cps.toList) = id := by
      funext z
      show (⟨z.cps.toList.toArray⟩ : Str) = z
      cases z
      simp
    rw [this, List.map_id]
  · have := p.map fun z : Str => z.cps.toList
    rw [List.map_map] at this
    have e : ((fun z : Str => z.cps.toList) ∘ S) = id := rfl
    rwa [e, List.map_id] at this
section
variable {K : PySem.W.Frag} {σ : L2.St} {H H' : Hp} {ta tb tc te tx tl : TE} {t u : TT} {x y z v : V} {r : R2} {xs ys : List V} {P : V → Hp → Prop} {Ps : List (V → Hp → Prop)} {tr : TA} {i j k : Int} {a b : Row} {A : Addr → Prop}
theorem kcr_sortedS {X : Cx} (hK : X.K = K := by rfl) : CallR X (.builtin "sorted") (rSortedS K) := hK ▸ cr_sortedS
theorem el_sortedS {l m : List Row} (h : EvQ K te σ H (l.map VS)) (hz : l.length < 64) (hp : m.Perm l) (hm : rising m) : EvL (tCB (rSortedS K) (tCons te tNil)) σ H (m.map VS) := fun H1 e Q q =>
  h H1 e _ fun a H2 e2 hs => ⟨a, l.map S, rfl, by
    rw [List.map_map]
    exact hs.q, by rw [List.length_map]; exact hz, fun ys p h1 h2 hn => by
    obtain ⟨m', rfl, h3⟩ := map_S_inj h1
    have e : m' = m := rising_perm (sortedS_rows m' h2) hm (h3.trans hp.symm)
    subst e
    refine q p _ (fresh_back e2 hn) (e2.trans (Ex.new hn)) ?_
    rw [upd_same, List.map_map]
    rfl⟩
theorem i_enumS {l : Row} {j1 j2 : Nat} (h : Ev ta σ H (VS l)) :
    EvI A (iEnumS (tCons ta tNil)) (gTup K 2 (gCons (gName j1) (gCons (gName j2) gNil))) σ H l.zipIdx (fun p s => (s.set j1 (some (.int (p.2 : Nat)))).set j2 (some (VS [p.1]))) := fun H1 e R q =>
  h H1 e _ fun H2 e2 => ⟨S l, rfl, q (IteS (S l)) H2 (fun _ => True) [] e2 (by simp) trivial (fun _ _ _ _ _ _ => trivial)
    ⟨fun i H hi _ => by
      show i < l.toArray.size
      rw [List.length_zipIdx] at hi
      simpa using hi, fun H _ => by
      show l.toArray.size ≤ _
      simp, fun i H x H' σ K hi _ y k => by
      have hi' : i < l.length := by rw [List.length_zipIdx] at hi; exact hi
      obtain ⟨T, c, rfl, hT, rfl, y1⟩ := y
      have y1 : l.toArray[i]? = some c := y1
      simp [hi'] at y1
      subst y1
      have e1 : l.zipIdx[i] = (l[i], i) := by simp
      rw [e1] at k
      exact gTup2n (st_of upd_same) (k _ (Ex.new hT))⟩⟩
end
end Ho
namespace Ho
open PySem PySem.Spec PyProof.Rows L2 Evl
/-- an address of A, of a list (a tuple) with these items -/
def kL {β : Type} (K : PySem.W.Frag) (f : β → List V) (A : Addr → Prop) (y : β) : V → Hp → Prop := fun u H => ∃ a, u = .ref a ∧ H a = some (.lst (f y)) ∧ A a
def kT {β : Type} (K : PySem.W.Frag) (f : β → List V) (A : Addr → Prop) (y : β) : V → Hp → Prop := fun u H => ∃ a, u = .ref a ∧ H a = some (.tup (f y)) ∧ A a
theorem SL.some {K : PySem.W.Frag} {H : Hp} {a : Addr} {xs : List V} (h : SL K H a xs) : H a ≠ none := fun n => h.ne n rfl
theorem ST.some {K : PySem.W.Frag} {H : Hp} {a : Addr} {xs : List V} (h : ST K H a xs) : H a ≠ none := fun n => h.ne n rfl
def MonK {β : Type} (Pk : β → V → Hp → Prop) : Prop := ∀ y, Mon (Pk y)
theorem mkL {β : Type} {K : PySem.W.Frag} {f : β → List V} {A : Addr → Prop} : MonK (kL K f A) := fun y v H H' e ⟨a, h1, h2, h3⟩ => ⟨a, h1, e _ _ h2, h3⟩
theorem mkT {β : Type} {K : PySem.W.Frag} {f : β → List V} {A : Addr → Prop} : MonK (kT K f A) := fun y v H H' e ⟨a, h1, h2, h3⟩ => ⟨a, h1, e _ _ h2, h3⟩
theorem allP_imp {β : Type} {P Q : β → V → Hp → Prop} {H H' : Hp} (h : ∀ y u, P y u H → Q y u H') : ∀ {ys : List β} {vs : List V}, AllP (ys.map P) vs H → AllP (ys.map Q) vs H'
  | [], _, z => z
  | y :: ys, _, ⟨v, r, e, p, t⟩ => ⟨v, r, e, h y v p, allP_imp h t⟩
theorem allP_ex {β : Type} {P : β → V → Hp → Prop} {H H' : Hp} (m : MonK P) (e : Ex H H') {ys : List β} {vs : List V} (h : AllP (ys.map P) vs H) : AllP (ys.map P) vs H' := allP_imp (fun y u p => m y u _ _ e p) h
/-- the list at a, its items as told -/
def AG {β : Type} (K : PySem.W.Frag) (H : Hp) (a : Addr) (Pk : β → V → Hp → Prop) (ys : List β) : Prop := ∃ vs, SL K H a vs ∧ AllP (ys.map Pk) vs H
theorem AG.ex {β : Type} {K : PySem.W.Frag} {H H' : Hp} {a : Addr} {Pk : β → V → Hp → Prop} {ys : List β} (m : MonK Pk) (e : Ex H H') (h : AG K H a Pk ys) : AG K H' a Pk ys := by
  obtain ⟨vs, h1, h2⟩ := h
  exact ⟨vs, exl e h1, allP_ex m e h2⟩
theorem AG.imp {β : Type} {K : PySem.W.Frag} {H : Hp} {a : Addr} {P Q : β → V → Hp → Prop} {ys : List β} (h : AG K H a P ys) (i : ∀ y u, P y u H → Q y u H) : AG K H a Q ys := by
  obtain ⟨vs, h1, h2⟩ := h
  exact ⟨vs, h1, allP_imp i h2⟩
theorem AG.ne {β : Type} {K : PySem.W.Frag} {H : Hp} {a b : Addr} {P : β → V → Hp → Prop} {ys : List β} (h : AG K H a P ys) (n : H b = none) : a ≠ b := by
  obtain ⟨vs, h1, _⟩ := h
  exact h1.ne n
/-- to a new list of new items -/
def EvNA {β : Type} (te : TE) (σ : L2.St) (H : Hp) (N : Hp → β → V → Hp → Prop) (ys : List β) : Prop := ∀ H1, Ex H H1 → ∀ Q : VK, (∀ p vs H2, H1 p = none → Ex H1 H2 → H2 p = some (.lst vs) → AllP (ys.map (N H1)) vs H2 → Q (.ref p) H2) → te σ H1 Q
def RetA {β : Type} (N : Hp → β → V → Hp → Prop) (ys : List β) (H : Hp) (Q : VK) : Prop := ∀ p vs H2, H p = none → Ex H H2 → H2 p = some (.lst vs) → AllP (ys.map (N H)) vs H2 → Q (.ref p) H2
def AntiN {β : Type} (N : Hp → β → V → Hp → Prop) : Prop := ∀ H0 H1 y u H, Ex H0 H1 → N H1 y u H → N H0 y u H
section
variable {K : PySem.W.Frag} {σ : L2.St} {H H' : Hp} {ta tb tc te tx tl : TE} {t u : TT} {x y z v : V} {r : R2} {xs : List V} {P : V → Hp → Prop} {Ps : List (V → Hp → Prop)} {tr : TA} {i j k : Int} {a b : Row} {A : Addr → Prop} {β : Type} {N : Hp → β → V → Hp → Prop} {Pk : β → V → Hp → Prop} {ys : List β}
theorem RetA.ex {Q : VK} (m : AntiN N) (k : RetA N ys H Q) {H1 : Hp} (e : Ex H H1) : RetA N ys H1 Q := fun p vs H2 hp e2 h1 h2 => k p vs H2 (fresh_back e hp) (e.trans e2) h1 (allP_imp (fun y u q => m _ _ y u _ e q) h2)
theorem EvNA.is {zs : List β} (h : EvNA te σ H N ys) (e : ys = zs) : EvNA te σ H N zs := e ▸ h
end
end Ho
namespace Ho
open PySem PySem.Spec PyProof.Rows L2 Evl
section
variable {K : PySem.W.Frag} {σ : L2.St} {H H' : Hp} {ta tb tc te tx tl : TE} {t u : TT} {x y z v : V} {xs ys : List V} {i j k : Int} {a b : Row} {A : Addr → Prop}
def rMulS : R2 := fun x y H Q => ∃ (a : Row) (i : Int), x = VS a ∧ y = .int i ∧ 0 ≤ i ∧ i ≤ 1000 ∧ a.length ≤ 40 ∧ Q (VS (List.replicate i.toNat a).flatten) H
theorem foldl_cps (a : Row) : ∀ (n : Nat) (acc : Array Nat), (List.replicate n (S a).cps).foldl (· ++ ·) acc = acc ++ ((List.replicate n a).flatten).toArray
  | 0, acc => by simp
  | n + 1, acc => by
    rw [List.replicate_succ, List.foldl_cons, foldl_cps a n, List.replicate_succ, List.flatten_cons]
    show (acc ++ a.toArray) ++ _ = _
    simp
theorem op_mulS {X : Cx} : OpR X (binaryOp .Mult) rMulS := by
  intro pins s σ H x y v u Q I rx ry h
  obtain ⟨a, i, rfl, rfl, h0, h1, hl, q⟩ := h
  obtain ⟨t, rfl⟩ := rx
  obtain ⟨t', rfl⟩ := ry
  have hS : (S a).length = a.length := S_len a
  refine PySem.P.mul_str (by
    rw [decide_eq_false (show ¬ i < -(2 ^ 63 : Int) by omega), decide_eq_false (show ¬ i ≥ 2 ^ 63 by omega)]; rfl) (fun g _ => ?_) (fun g _ => ?_) ?_
  · intro hh
    have : (1 : Int) ≤ (2 ^ 63 - 1) / i := by
      refine Int.le_ediv_of_mul_le (by omega) (by omega)
    have h2 : (40 : Int) ≤ (2 ^ 63 - 1) / i := Int.le_ediv_of_mul_le (by omega) (by omega)
    omega
  · have hb : (S a).length * i.toNat ≤ 40 * 1000 := Nat.mul_le_mul (by omega) (by omega)
    exact PyProof.Rows.short24 (Nat.le_trans hb (by decide))
  · by_cases h2 : i < 1
    · rw [if_pos h2]
      have hi : i = 0 := by omega
      subst hi
      exact ⟨by decide, ⟨VS [], H, I.tok _, ⟨_, rfl⟩, q⟩⟩
    · rw [if_neg h2]
      by_cases h3 : (i == 1 || (S a).length == 0) = true
      · rw [if_pos h3]
        have e : (List.replicate i.toNat a).flatten = a := by
          rw [Bool.or_eq_true, beq_iff_eq, beq_iff_eq] at h3
          rcases h3 with h3 | h3
          · subst h3
            simp
          · rw [hS] at h3
            have : a = [] := List.length_eq_zero_iff.mp h3
            subst this
            simp
        exact ⟨VS a, H, I, ⟨t, rfl⟩, e ▸ q⟩
      · rw [if_neg h3]
        have e : (⟨(List.replicate i.toNat (S a).cps).foldl (· ++ ·) #[]⟩ : Str) = S (List.replicate i.toNat a).flatten := by
          rw [foldl_cps]
          show (⟨#[] ++ ((List.replicate i.toNat a).flatten).toArray⟩ : Str) = ⟨((List.replicate i.toNat a).flatten).toArray⟩
          rw [Array.empty_append]
        rw [e]
        refine ⟨?_, ⟨VS (List.replicate i.toNat a).flatten, H, I.tok _, ⟨_, rfl⟩, q⟩⟩
        rw [S_len, List.length_flatten, List.map_replicate, List.sum_replicate_nat]
        have hb : i.toNat * a.length ≤ 1000 * 40 := Nat.mul_le_mul (by omega) hl
        exact Nat.le_trans hb (by decide)
theorem ev_mulS (ha : Ev ta σ H (VS a)) (hb : Ev tb σ H (.int i)) (h0 : 0 ≤ i) (h1 : i ≤ 1000) (hl : a.length ≤ 40) : Ev (tOp rMulS ta tb) σ H (VS (List.replicate i.toNat a).flatten) := fun H1 e Q q =>
  ha H1 e _ fun H2 e2 => hb H2 (e.trans e2) _ fun H3 e3 => ⟨a, i, rfl, rfl, h0, h1, hl, q H3 (e2.trans e3)⟩
theorem el_cat2 (ha : EvH ta σ H xs) (hb : EvH tb σ H ys) (hz : xs.length + ys.length ≤ 100000) : EvL (tOp rCat ta tb) σ H (xs ++ ys) := fun H1 e Q q =>
  ha H1 e _ fun p H2 e2 h2 => hb H2 (e.trans e2) _ fun p' H3 e3 h3 => ⟨p, p', _, _, rfl, rfl, e3 _ _ h2, h3, sz_of hz, fun l hl => q l _ (fresh_back (e2.trans e3) hl) ((e2.trans e3).trans (Ex.new hl)) upd_same⟩
end
end Ho
namespace Ho
open PySem PySem.Spec PyProof.Rows L2 Evl
/-- the kind of an object -/
inductive Sh where
  | l | t | d (ks : List Key) | e (ks : List (List Key)) | i (C : Addr) (ns : List Str)
/-- data -/
inductive Dt where
  | sc (v : V)
  | node (s : Sh) (ds : List Dt)
/-- who owns it: shared; its own object and its items as told -/
inductive Pat where
  | sh | ow (p : Pat) | fs (ps : List Pat)
abbrev Dt.lst (ds : List Dt) : Dt := .node .l ds
abbrev Dt.tup (ds : List Dt) : Dt := .node .t ds
abbrev uI (i : Int) : Dt := .sc (.int i)
abbrev uS (r : Row) : Dt := .sc (VS r)
abbrev uB (b : Bool) : Dt := .sc (.bl b)
abbrev uN : Dt := .sc .non
abbrev uL {α : Type} (f : α → Dt) (xs : List α) : Dt := .node .l (xs.map f)
/-- a dict of texts to data -/
abbrev uDS {α : Type} (f : α → Dt) (r : List (Row × α)) : Dt := .node (.d (r.map fun p => .inr (S p.1))) (r.map fun p => f p.2)
/-- a dict of numbers to data -/
abbrev uDI {α : Type} (f : α → Dt) (r : List (Int × α)) : Dt := .node (.d (r.map fun p => .inl p.1)) (r.map fun p => f p.2)
abbrev uD (r : Dic) : Dt := uDS uS r
/-- what stands at a, its items vs -/
def ObAt (H : Hp) : Sh → Addr → List V → Prop
  | .l, a, vs => H a = some (.lst vs)
  | .t, a, vs => H a = some (.tup vs)
  | .d ks, a, vs => H a = some (.dK (ks.zip vs)) ∧ ks.length = vs.length
  | .e ks, a, vs => H a = some (.dT (ks.zip vs)) ∧ ks.length = vs.length
  | .i C ns, a, vs => ∃ dx, H a = some (.ins C dx (ns.zip vs)) ∧ ns.length = vs.length
theorem ObAt.ex {H : Hp} {s : Sh} {a : Addr} {vs : List V} (h : ObAt H s a vs) : ∃ o, H a = some o := by
  cases s with
  | l => exact ⟨_, h⟩
  | t => exact ⟨_, h⟩
  | d ks => exact ⟨_, h.1⟩
  | e ks => exact ⟨_, h.1⟩
  | i C ns => exact ⟨_, h.choose_spec.1⟩
theorem ObAt.go {H H' : Hp} {s : Sh} {a : Addr} {vs : List V} (k : ∀ o, H a = some o → H' a = some o) (h : ObAt H s a vs) : ObAt H' s a vs := by
  cases s with
  | l => exact k _ h
  | t => exact k _ h
  | d ks => exact ⟨k _ h.1, h.2⟩
  | e ks => exact ⟨k _ h.1, h.2⟩
  | i C ns => obtain ⟨dx, h1, h2⟩ := h; exact ⟨dx, k _ h1, h2⟩
mutual
def Rp (M : Addr → Prop) (H : Hp) : Dt → V → Prop
  | .sc w, v => v = w
  | .node s ds, v => ∃ a vs, v = .ref a ∧ ¬ M a ∧ ObAt H s a vs ∧ RpL M H ds vs
def RpL (M : Addr → Prop) (H : Hp) : List Dt → List V → Prop
  | [], vs => vs = []
  | d :: ds, vs => ∃ v r, vs = v :: r ∧ Rp M H d v ∧ RpL M H ds r
end
mutual
def Ow (M : Addr → Prop) (H : Hp) : Dt → Pat → V → List Addr → Prop
  | .sc w, p, v, bs => p = .sh ∧ v = w ∧ bs = []
  | .node s ds, .sh, v, bs => bs = [] ∧ ∃ a vs, v = .ref a ∧ ¬ M a ∧ ObAt H s a vs ∧ RpL M H ds vs
  | .node s ds, .ow p, v, bs => ∃ a vs cs, v = .ref a ∧ ObAt H s a vs ∧ bs = a :: cs ∧ OwF M H ds (List.replicate ds.length p) vs cs
  | .node s ds, .fs ps, v, bs => ∃ a vs cs, v = .ref a ∧ ObAt H s a vs ∧ bs = a :: cs ∧ OwF M H ds ps vs cs
def OwF (M : Addr → Prop) (H : Hp) : List Dt → List Pat → List V → List Addr → Prop
  | [], ps, vs, cs => ps = [] ∧ vs = [] ∧ cs = []
  | d :: ds, ps, vs, cs => ∃ p pr v r b c, ps = p :: pr ∧ vs = v :: r ∧ cs = b ++ c ∧ Ow M H d p v b ∧ OwF M H ds pr r c
end
theorem ow_sh {M : Addr → Prop} {H : Hp} {d : Dt} {v : V} {bs : List Addr} : Ow M H d .sh v bs ↔ bs = [] ∧ Rp M H d v := by
  cases d with
  | sc w =>
    unfold Ow Rp
    constructor
    · rintro ⟨_, h1, h2⟩; exact ⟨h2, h1⟩
    · rintro ⟨h1, h2⟩; exact ⟨rfl, h2, h1⟩
  | node s ds =>
    unfold Ow Rp
    exact Iff.rfl
/-- what is kept and shared -/
def Go (M : Addr → Prop) (H : Hp) (M' : Addr → Prop) (H' : Hp) : Prop := ∀ a o, ¬ M a → H a = some o → H' a = some o ∧ ¬ M' a
mutual
theorem Rp.go {M M' : Addr → Prop} {H H' : Hp} (g : Go M H M' H') : ∀ {d : Dt} {v : V}, Rp M H d v → Rp M' H' d v
  | .sc w, v, h => by
    unfold Rp at h ⊢
    exact h
  | .node s ds, v, h => by
    unfold Rp at h ⊢
    obtain ⟨a, vs, e, n, o, r⟩ := h
    obtain ⟨u, hu⟩ := ObAt.ex o
    exact ⟨a, vs, e, (g a u n hu).2, ObAt.go (fun u hu => (g a u n hu).1) o, RpL.go g r⟩
theorem RpL.go {M M' : Addr → Prop} {H H' : Hp} (g : Go M H M' H') : ∀ {ds : List Dt} {vs : List V}, RpL M H ds vs → RpL M' H' ds vs
  | [], vs, h => by
    unfold RpL at h ⊢
    exact h
  | d :: ds, vs, h => by
    unfold RpL at h ⊢
    obtain ⟨v, r, e, p, t⟩ := h
    exact ⟨v, r, e, Rp.go g p, RpL.go g t⟩
end
mutual
theorem Ow.go {M M' : Addr → Prop} {H H' : Hp} (g : Go M H M' H') : ∀ {d : Dt} {p : Pat} {v : V} {bs : List Addr}, (∀ a ∈ bs, ∀ o, H a = some o → H' a = some o) → Ow M H d p v bs → Ow M' H' d p v bs
  | .sc w, p, v, bs, _, h => by
    unfold Ow at h ⊢
    exact h
  | .node s ds, .sh, v, bs, k, h => by
    rw [ow_sh] at h ⊢
    exact ⟨h.1, h.2.go g⟩
  | .node s ds, .ow p, v, bs, k, h => by
    unfold Ow at h ⊢
    obtain ⟨a, vs, cs, e, o, rfl, f⟩ := h
    exact ⟨a, vs, cs, e, ObAt.go (k a List.mem_cons_self) o, rfl, OwF.go g (fun b hb => k b (List.mem_cons_of_mem _ hb)) f⟩
  | .node s ds, .fs ps, v, bs, k, h => by
    unfold Ow at h ⊢
    obtain ⟨a, vs, cs, e, o, rfl, f⟩ := h
    exact ⟨a, vs, cs, e, ObAt.go (k a List.mem_cons_self) o, rfl, OwF.go g (fun b hb => k b (List.mem_cons_of_mem _ hb)) f⟩
theorem OwF.go {M M' : Addr → Prop} {H H' : Hp} (g : Go M H M' H') : ∀ {ds : List Dt} {ps : List Pat} {vs : List V} {bs : List Addr}, (∀ a ∈ bs, ∀ o, H a = some o → H' a = some o) → OwF M H ds ps vs bs → OwF M' H' ds ps vs bs
  | [], ps, vs, bs, _, h => by
    unfold OwF at h ⊢
    exact h
  | d :: ds, ps, vs, bs, k, h => by
    unfold OwF at h ⊢
    obtain ⟨p, pr, v, r, b, c, e1, e2, rfl, h1, h2⟩ := h
    exact ⟨p, pr, v, r, b, c, e1, e2, rfl, Ow.go g (fun x hx => k x (List.mem_append_left _ hx)) h1, OwF.go g (fun x hx => k x (List.mem_append_right _ hx)) h2⟩
end
mutual
theorem Ow.fr {M M' : Addr → Prop} {H : Hp} (g : ∀ a, ¬ M a → ¬ M' a) : ∀ {d : Dt} {p : Pat} {v : V} {bs : List Addr}, (∀ a ∈ bs, ¬ M' a) → Ow M H d p v bs → Rp M' H d v
  | .sc w, p, v, bs, _, h => by
    unfold Ow at h
    unfold Rp
    exact h.2.1
  | .node s ds, .sh, v, bs, k, h => by
    rw [ow_sh] at h
    exact h.2.go fun a o n e => ⟨e, g a n⟩
  | .node s ds, .ow p, v, bs, k, h => by
    unfold Ow at h
    unfold Rp
    obtain ⟨a, vs, cs, e, o, rfl, f⟩ := h
    exact ⟨a, vs, e, k a List.mem_cons_self, o, OwF.fr g (fun b hb => k b (List.mem_cons_of_mem _ hb)) f⟩
  | .node s ds, .fs ps, v, bs, k, h => by
    unfold Ow at h
    unfold Rp
    obtain ⟨a, vs, cs, e, o, rfl, f⟩ := h
    exact ⟨a, vs, e, k a List.mem_cons_self, o, OwF.fr g (fun b hb => k b (List.mem_cons_of_mem _ hb)) f⟩
theorem OwF.fr {M M' : Addr → Prop} {H : Hp} (g : ∀ a, ¬ M a → ¬ M' a) : ∀ {ds : List Dt} {ps : List Pat} {vs : List V} {bs : List Addr}, (∀ a ∈ bs, ¬ M' a) → OwF M H ds ps vs bs → RpL M' H ds vs
  | [], ps, vs, bs, _, h => by
    unfold OwF at h
    unfold RpL
    exact h.2.1
  | d :: ds, ps, vs, bs, k, h => by
    unfold OwF at h
    unfold RpL
    obtain ⟨p, pr, v, r, b, c, e1, e2, rfl, h1, h2⟩ := h
    exact ⟨v, r, e2, Ow.fr g (fun x hx => k x (List.mem_append_left _ hx)) h1, OwF.fr g (fun x hx => k x (List.mem_append_right _ hx)) h2⟩
end
mutual
theorem Ow.al {M : Addr → Prop} {H : Hp} : ∀ {d : Dt} {p : Pat} {v : V} {bs : List Addr}, Ow M H d p v bs → ∀ a ∈ bs, H a ≠ none
  | .sc w, p, v, bs, h => by
    unfold Ow at h
    rw [h.2.2]
    intro a ha; cases ha
  | .node s ds, .sh, v, bs, h => by
    rw [ow_sh] at h
    rw [h.1]
    intro a ha; cases ha
  | .node s ds, .ow p, v, bs, h => by
    unfold Ow at h
    obtain ⟨a, vs, cs, e, o, rfl, f⟩ := h
    intro b hb
    rcases List.mem_cons.mp hb with rfl | hb
    · obtain ⟨u, hu⟩ := ObAt.ex o
      rw [hu]; simp
    · exact OwF.al f b hb
  | .node s ds, .fs ps, v, bs, h => by
    unfold Ow at h
    obtain ⟨a, vs, cs, e, o, rfl, f⟩ := h
    intro b hb
    rcases List.mem_cons.mp hb with rfl | hb
    · obtain ⟨u, hu⟩ := ObAt.ex o
      rw [hu]; simp
    · exact OwF.al f b hb
theorem OwF.al {M : Addr → Prop} {H : Hp} : ∀ {ds : List Dt} {ps : List Pat} {vs : List V} {bs : List Addr}, OwF M H ds ps vs bs → ∀ a ∈ bs, H a ≠ none
  | [], ps, vs, bs, h => by
    unfold OwF at h
    rw [h.2.2]
    intro a ha; cases ha
  | d :: ds, ps, vs, bs, h => by
    unfold OwF at h
    obtain ⟨p, pr, v, r, b, c, e1, e2, rfl, h1, h2⟩ := h
    intro x hx
    rcases List.mem_append.mp hx with hx | hx
    · exact Ow.al h1 x hx
    · exact OwF.al h2 x hx
end
/-- the items shared -/
theorem owF_sh {M : Addr → Prop} {H : Hp} : ∀ {ds : List Dt} {vs : List V} {cs : List Addr}, OwF M H ds (List.replicate ds.length .sh) vs cs ↔ cs = [] ∧ RpL M H ds vs
  | [], vs, cs => by
    unfold OwF RpL
    simp [and_comm]
  | d :: ds, vs, cs => by
    unfold OwF RpL
    constructor
    · rintro ⟨p, pr, v, r, b, c, e1, e2, e3, h1, h2⟩
      rw [List.length_cons, List.replicate_succ] at e1
      obtain ⟨rfl, rfl⟩ := List.cons.inj e1
      rw [ow_sh] at h1
      rw [owF_sh] at h2
      rw [e3, h1.1, h2.1]
      exact ⟨rfl, v, r, e2, h1.2, h2.2⟩
    · rintro ⟨rfl, v, r, e, h1, h2⟩
      exact ⟨.sh, List.replicate ds.length .sh, v, r, [], [], rfl, e, rfl, ow_sh.mpr ⟨rfl, h1⟩, owF_sh.mpr ⟨rfl, h2⟩⟩
/-- a flat owned one -/
theorem ow_mu {M : Addr → Prop} {H : Hp} {s : Sh} {ds : List Dt} {v : V} {bs : List Addr} : Ow M H (.node s ds) (.ow .sh) v bs ↔ ∃ a vs, v = .ref a ∧ ObAt H s a vs ∧ bs = [a] ∧ RpL M H ds vs := by
  unfold Ow
  constructor
  · rintro ⟨a, vs, cs, e, o, e2, f⟩
    rw [owF_sh] at f
    rw [f.1] at e2
    exact ⟨a, vs, e, o, e2, f.2⟩
  · rintro ⟨a, vs, e, o, e2, f⟩
    exact ⟨a, vs, [], e, o, e2, owF_sh.mpr ⟨rfl, f⟩⟩
theorem RpL.len {M : Addr → Prop} {H : Hp} : ∀ {ds : List Dt} {vs : List V}, RpL M H ds vs → vs.length = ds.length
  | [], vs, h => by
    unfold RpL at h
    rw [h]; rfl
  | d :: ds, vs, h => by
    unfold RpL at h
    obtain ⟨v, r, rfl, _, t⟩ := h
    rw [List.length_cons, List.length_cons, t.len]
theorem RpL.at {M : Addr → Prop} {H : Hp} : ∀ {ds : List Dt} {vs : List V}, RpL M H ds vs → ∀ (i : Nat) (d : Dt), ds[i]? = some d → ∃ v, vs[i]? = some v ∧ Rp M H d v
  | [], vs, h, i, d, e => by simp at e
  | d0 :: ds, vs, h, i, d, e => by
    unfold RpL at h
    obtain ⟨v, r, rfl, p, t⟩ := h
    cases i with
    | zero =>
      simp at e
      subst e
      exact ⟨v, rfl, p⟩
    | succ i =>
      simp at e
      simpa using t.at i d e
theorem RpL.app {M : Addr → Prop} {H : Hp} : ∀ {ds es : List Dt} {vs ws : List V}, RpL M H ds vs → RpL M H es ws → RpL M H (ds ++ es) (vs ++ ws)
  | [], es, vs, ws, h, k => by
    unfold RpL at h
    rw [h]; exact k
  | d :: ds, es, vs, ws, h, k => by
    unfold RpL at h
    obtain ⟨v, r, rfl, p, t⟩ := h
    show RpL M H (d :: (ds ++ es)) _
    unfold RpL
    exact ⟨v, r ++ ws, rfl, p, t.app k⟩
theorem RpL.one {M : Addr → Prop} {H : Hp} {d : Dt} {v : V} (h : Rp M H d v) : RpL M H [d] [v] := by
  unfold RpL
  exact ⟨v, [], rfl, h, by unfold RpL; rfl⟩
theorem RpL.take {M : Addr → Prop} {H : Hp} : ∀ (n : Nat) {ds : List Dt} {vs : List V}, RpL M H ds vs → RpL M H (ds.take n) (vs.take n)
  | 0, ds, vs, h => by simp [RpL]
  | n + 1, [], vs, h => by
    unfold RpL at h
    rw [h]; simp [RpL]
  | n + 1, d :: ds, vs, h => by
    unfold RpL at h
    obtain ⟨v, r, rfl, p, t⟩ := h
    show RpL M H (d :: ds.take n) (v :: r.take n)
    unfold RpL
    exact ⟨v, _, rfl, p, t.take n⟩
theorem RpL.drop {M : Addr → Prop} {H : Hp} : ∀ (n : Nat) {ds : List Dt} {vs : List V}, RpL M H ds vs → RpL M H (ds.drop n) (vs.drop n)
  | 0, ds, vs, h => h
  | n + 1, [], vs, h => by
    unfold RpL at h
    rw [h]; simp [RpL]
  | n + 1, d :: ds, vs, h => by
    unfold RpL at h
    obtain ⟨v, r, rfl, p, t⟩ := h
    exact t.drop n
theorem RpL.rev {M : Addr → Prop} {H : Hp} : ∀ {ds : List Dt} {vs : List V}, RpL M H ds vs → RpL M H ds.reverse vs.reverse
  | [], vs, h => by
    unfold RpL at h
    rw [h]; simp [RpL]
  | d :: ds, vs, h => by
    unfold RpL at h
    obtain ⟨v, r, rfl, p, t⟩ := h
    rw [List.reverse_cons, List.reverse_cons]
    exact t.rev.app (RpL.one p)
theorem RpL.set {M : Addr → Prop} {H : Hp} {d : Dt} {v : V} (h : Rp M H d v) : ∀ (i : Nat) {ds : List Dt} {vs : List V}, RpL M H ds vs → RpL M H (ds.set i d) (vs.set i v)
  | i, [], vs, k => by
    unfold RpL at k
    rw [k]; simp [RpL]
  | 0, e :: ds, vs, k => by
    unfold RpL at k
    obtain ⟨u, r, rfl, p, t⟩ := k
    show RpL M H (d :: ds) (v :: r)
    unfold RpL
    exact ⟨v, r, rfl, h, t⟩
  | i + 1, e :: ds, vs, k => by
    unfold RpL at k
    obtain ⟨u, r, rfl, p, t⟩ := k
    show RpL M H (e :: ds.set i d) (u :: r.set i v)
    unfold RpL
    exact ⟨u, _, rfl, p, RpL.set h i t⟩
theorem RpL.rep {M : Addr → Prop} {H : Hp} {ds : List Dt} {vs : List V} (h : RpL M H ds vs) : ∀ n : Nat, RpL M H (List.replicate n ds).flatten (List.replicate n vs).flatten
  | 0 => by simp [RpL]
  | n + 1 => by
    rw [List.replicate_succ, List.replicate_succ, List.flatten_cons, List.flatten_cons]
    exact h.app (RpL.rep h n)
/-- values alone -/
theorem rpL_sc {M : Addr → Prop} {H : Hp} {α : Type} {g : α → V} : ∀ {xs : List α} {vs : List V}, RpL M H (xs.map fun x => Dt.sc (g x)) vs ↔ vs = xs.map g
  | [], vs => by
    rw [List.map_nil, List.map_nil]
    unfold RpL
    exact Iff.rfl
  | x :: xs, vs => by
    rw [List.map_cons, List.map_cons]
    unfold RpL
    constructor
    · rintro ⟨v, r, rfl, p, t⟩
      unfold Rp at p
      rw [p, rpL_sc.mp t]
    · rintro rfl
      exact ⟨g x, xs.map g, rfl, by unfold Rp; rfl, rpL_sc.mpr rfl⟩
/-- as known with nothing owned -/
abbrev Mo : Addr → Prop := fun _ => False
mutual
theorem Ow.rd {M : Addr → Prop} {H : Hp} : ∀ {d : Dt} {p : Pat} {v : V} {bs : List Addr}, Ow M H d p v bs → Rp Mo H d v
  | d, p, v, bs, h => Ow.fr (M' := Mo) (fun _ _ z => z) (fun _ _ z => z) h
end
inductive Sl where
  | una | any | own (d : Dt) (p : Pat)
abbrev st (d : Dt) : Sl := .own d .sh
abbrev mu (d : Dt) : Sl := .own d (.ow .sh)
def OkL (M : Addr → Prop) (H : Hp) : List Sl → List (Option V) → List Addr → Prop
  | [], σ, as => σ = [] ∧ as = []
  | .una :: ρ, σ, as => ∃ r, σ = none :: r ∧ OkL M H ρ r as
  | .any :: ρ, σ, as => ∃ x r, σ = x :: r ∧ OkL M H ρ r as
  | .own d p :: ρ, σ, as => ∃ v r bs cs, σ = some v :: r ∧ as = bs ++ cs ∧ Ow M H d p v bs ∧ OkL M H ρ r cs
theorem OkL.go {M M' : Addr → Prop} {H H' : Hp} (g : Go M H M' H') : ∀ {ρ : List Sl} {σ : List (Option V)} {as : List Addr}, (∀ a ∈ as, ∀ o, H a = some o → H' a = some o) → OkL M H ρ σ as → OkL M' H' ρ σ as
  | [], σ, as, k, h => h
  | .una :: ρ, σ, as, k, ⟨r, e, t⟩ => ⟨r, e, OkL.go g k t⟩
  | .any :: ρ, σ, as, k, ⟨x, r, e, t⟩ => ⟨x, r, e, OkL.go g k t⟩
  | .own d p :: ρ, σ, as, k, ⟨v, r, bs, cs, e, ea, o, t⟩ => by
    subst ea
    exact ⟨v, r, bs, cs, e, rfl, o.go g fun a ha => k a (List.mem_append_left _ ha), OkL.go g (fun a ha => k a (List.mem_append_right _ ha)) t⟩
theorem OkL.al {M : Addr → Prop} {H : Hp} : ∀ {ρ : List Sl} {σ : List (Option V)} {as : List Addr}, OkL M H ρ σ as → ∀ a ∈ as, H a ≠ none
  | [], σ, as, h => by
    rw [h.2]
    intro a ha; cases ha
  | .una :: ρ, σ, as, ⟨r, e, t⟩ => t.al
  | .any :: ρ, σ, as, ⟨x, r, e, t⟩ => t.al
  | .own d p :: ρ, σ, as, ⟨v, r, bs, cs, e, ea, o, t⟩ => by
    subst ea
    intro a ha
    rcases List.mem_append.mp ha with ha | ha
    · exact o.al a ha
    · exact t.al a ha
/-- one slot apart -/
theorem OkL.out {M : Addr → Prop} {H : Hp} {d : Dt} {p : Pat} : ∀ {i : Nat} {ρ : List Sl} {σ : List (Option V)} {as : List Addr}, OkL M H ρ σ as → ρ[i]? = some (.own d p) →
    ∃ v bs cs, σ[i]? = some (some v) ∧ Ow M H d p v bs ∧ OkL M H (ρ.set i .any) σ cs ∧ (bs ++ cs).Perm as
  | i, [], σ, as, h, e => by simp at e
  | 0, s :: ρ, σ, as, h, e => by
    simp at e
    subst e
    obtain ⟨v, r, bs, cs, rfl, rfl, o, t⟩ := h
    exact ⟨v, bs, cs, rfl, o, ⟨some v, r, rfl, t⟩, List.Perm.refl _⟩
  | i + 1, .una :: ρ, σ, as, ⟨r, es, t⟩, e => by
    subst es
    obtain ⟨v, bs, cs, h1, h2, h3, h4⟩ := OkL.out (i := i) t (by simpa using e)
    exact ⟨v, bs, cs, by simpa using h1, h2, ⟨r, rfl, h3⟩, h4⟩
  | i + 1, .any :: ρ, σ, as, ⟨x, r, es, t⟩, e => by
    subst es
    obtain ⟨v, bs, cs, h1, h2, h3, h4⟩ := OkL.out (i := i) t (by simpa using e)
    exact ⟨v, bs, cs, by simpa using h1, h2, ⟨x, r, rfl, h3⟩, h4⟩
  | i + 1, .own d' p' :: ρ, σ, as, ⟨v', r, bs', cs', es, ea, o, t⟩, e => by
    subst es ea
    obtain ⟨v, bs, cs, h1, h2, h3, h4⟩ := OkL.out (i := i) t (by simpa using e)
    refine ⟨v, bs, bs' ++ cs, by simpa using h1, h2, ⟨v', r, bs', cs, rfl, rfl, o, h3⟩, ?_⟩
    rw [← List.append_assoc]
    exact ((List.perm_append_comm (l₁ := bs) (l₂ := bs')).append_right cs).trans (by rw [List.append_assoc]; exact h4.append_left bs')
/-- a slot stored anew -/
theorem OkL.set {M : Addr → Prop} {H : Hp} {d : Dt} {p : Pat} {v : V} {bs : List Addr} (w : Ow M H d p v bs) : ∀ {i : Nat} {ρ : List Sl} {σ : List (Option V)} {as : List Addr}, OkL M H ρ σ as →
    ∃ b0 cs as', (b0 ++ cs).Perm as ∧ OkL M H (ρ.set i (.own d p)) (σ.set i (some v)) as' ∧ (as' = cs ∨ as'.Perm (bs ++ cs))
  | i, [], σ, as, h => by
    obtain ⟨rfl, rfl⟩ := h
    exact ⟨[], [], [], List.Perm.refl _, ⟨rfl, rfl⟩, .inl rfl⟩
  | 0, .una :: ρ, σ, as, ⟨r, es, t⟩ => by
    subst es
    exact ⟨[], as, bs ++ as, List.Perm.refl _, ⟨v, r, bs, as, rfl, rfl, w, t⟩, .inr (List.Perm.refl _)⟩
  | 0, .any :: ρ, σ, as, ⟨x, r, es, t⟩ => by
    subst es
    exact ⟨[], as, bs ++ as, List.Perm.refl _, ⟨v, r, bs, as, rfl, rfl, w, t⟩, .inr (List.Perm.refl _)⟩
  | 0, .own d' p' :: ρ, σ, as, ⟨v', r, bs', cs', es, ea, o, t⟩ => by
    subst es ea
    exact ⟨bs', cs', bs ++ cs', List.Perm.refl _, ⟨v, r, bs, cs', rfl, rfl, w, t⟩, .inr (List.Perm.refl _)⟩
  | i + 1, .una :: ρ, σ, as, ⟨r, es, t⟩ => by
    subst es
    obtain ⟨b0, cs, as', h1, h2, h3⟩ := OkL.set w (i := i) t
    exact ⟨b0, cs, as', h1, ⟨r.set i (some v), rfl, h2⟩, h3⟩
  | i + 1, .any :: ρ, σ, as, ⟨x, r, es, t⟩ => by
    subst es
    obtain ⟨b0, cs, as', h1, h2, h3⟩ := OkL.set w (i := i) t
    exact ⟨b0, cs, as', h1, ⟨x, r.set i (some v), rfl, h2⟩, h3⟩
  | i + 1, .own d' p' :: ρ, σ, as, ⟨v', r, bs', cs', es, ea, o, t⟩ => by
    subst es ea
    obtain ⟨b0, cs, as', h1, h2, h3⟩ := OkL.set w (i := i) t
    refine ⟨b0, bs' ++ cs, bs' ++ as', ?_, ⟨v', r.set i (some v), bs', as', rfl, rfl, o, h2⟩, ?_⟩
    · rw [← List.append_assoc]
      exact ((List.perm_append_comm (l₁ := b0) (l₂ := bs')).append_right cs).trans (by rw [List.append_assoc]; exact h1.append_left bs')
    · rcases h3 with rfl | h3
      · exact .inl rfl
      · right
        refine (h3.append_left bs').trans ?_
        rw [← List.append_assoc, ← List.append_assoc]
        exact (List.perm_append_comm (l₁ := bs') (l₂ := bs)).append_right cs
/-- a slot dropped -/
theorem OkL.off {M : Addr → Prop} {H : Hp} : ∀ {i : Nat} {ρ : List Sl} {σ : List (Option V)} {as : List Addr}, OkL M H ρ σ as →
    ∃ b0 cs, (b0 ++ cs).Perm as ∧ OkL M H (ρ.set i .una) (σ.set i none) cs
  | i, [], σ, as, h => by
    obtain ⟨rfl, rfl⟩ := h
    exact ⟨[], [], List.Perm.refl _, ⟨rfl, rfl⟩⟩
  | 0, .una :: ρ, σ, as, ⟨r, es, t⟩ => by
    subst es
    exact ⟨[], as, List.Perm.refl _, ⟨r, rfl, t⟩⟩
  | 0, .any :: ρ, σ, as, ⟨x, r, es, t⟩ => by
    subst es
    exact ⟨[], as, List.Perm.refl _, ⟨r, rfl, t⟩⟩
  | 0, .own d' p' :: ρ, σ, as, ⟨v', r, bs', cs', es, ea, o, t⟩ => by
    subst es ea
    exact ⟨bs', cs', List.Perm.refl _, ⟨r, rfl, t⟩⟩
  | i + 1, .una :: ρ, σ, as, ⟨r, es, t⟩ => by
    subst es
    obtain ⟨b0, cs, h1, h2⟩ := OkL.off (i := i) t
    exact ⟨b0, cs, h1, ⟨r.set i none, rfl, h2⟩⟩
  | i + 1, .any :: ρ, σ, as, ⟨x, r, es, t⟩ => by
    subst es
    obtain ⟨b0, cs, h1, h2⟩ := OkL.off (i := i) t
    exact ⟨b0, cs, h1, ⟨x, r.set i none, rfl, h2⟩⟩
  | i + 1, .own d' p' :: ρ, σ, as, ⟨v', r, bs', cs', es, ea, o, t⟩ => by
    subst es ea
    obtain ⟨b0, cs, h1, h2⟩ := OkL.off (i := i) t
    refine ⟨b0, bs' ++ cs, ?_, ⟨v', r.set i none, bs', cs, rfl, rfl, o, h2⟩⟩
    rw [← List.append_assoc]
    exact ((List.perm_append_comm (l₁ := b0) (l₂ := bs')).append_right cs).trans (by rw [List.append_assoc]; exact h1.append_left bs')
/-- a slot put back -/
theorem OkL.back {M : Addr → Prop} {H : Hp} {d : Dt} {p : Pat} {v : V} {bs : List Addr} (w : Ow M H d p v bs) : ∀ {i : Nat} {ρ : List Sl} {σ : List (Option V)} {cs : List Addr}, i < ρ.length → OkL M H (ρ.set i .any) σ cs → σ[i]? = some (some v) →
    ∃ as', OkL M H (ρ.set i (.own d p)) σ as' ∧ as'.Perm (bs ++ cs)
  | i, [], σ, cs, hi, h, e => by simp at hi
  | 0, s :: ρ, σ, cs, hi, h, e => by
    obtain ⟨x, r, rfl, t⟩ := h
    simp at e
    subst e
    exact ⟨bs ++ cs, ⟨v, r, bs, cs, rfl, rfl, w, t⟩, List.Perm.refl _⟩
  | i + 1, .una :: ρ, σ, cs, hi, h, e => by
    obtain ⟨r, rfl, t⟩ := h
    obtain ⟨as', h1, h2⟩ := OkL.back w (i := i) (by simpa using hi) t (by simpa using e)
    exact ⟨as', ⟨r, rfl, h1⟩, h2⟩
  | i + 1, .any :: ρ, σ, cs, hi, h, e => by
    obtain ⟨x, r, rfl, t⟩ := h
    obtain ⟨as', h1, h2⟩ := OkL.back w (i := i) (by simpa using hi) t (by simpa using e)
    exact ⟨as', ⟨x, r, rfl, h1⟩, h2⟩
  | i + 1, .own d' p' :: ρ, σ, cs, hi, h, e => by
    obtain ⟨v', r, bs', cs', rfl, rfl, o, t⟩ := h
    obtain ⟨as', h1, h2⟩ := OkL.back w (i := i) (by simpa using hi) t (by simpa using e)
    refine ⟨bs' ++ as', ⟨v', r, bs', as', rfl, rfl, o, h1⟩, ?_⟩
    refine (h2.append_left bs').trans ?_
    rw [← List.append_assoc, ← List.append_assoc]
    exact (List.perm_append_comm (l₁ := bs') (l₂ := bs)).append_right cs'
/-- later: what is not owned is kept; what is owned was, or is new -/
def Lt (H : Hp) (O : Addr → Prop) (H' : Hp) (O' : Addr → Prop) : Prop := (∀ a o, ¬ O a → H a = some o → H' a = some o) ∧ ∀ b, O' b → O b ∨ H b = none
theorem Lt.refl (H : Hp) (O : Addr → Prop) : Lt H O H O := ⟨fun _ _ _ h => h, fun _ h => .inl h⟩
theorem Lt.trans {H H1 H2 : Hp} {O O1 O2 : Addr → Prop} (x : Lt H O H1 O1) (y : Lt H1 O1 H2 O2) : Lt H O H2 O2 := by
  refine ⟨fun a o n e => y.1 a o (fun z => ?_) (x.1 a o n e), fun b hb => ?_⟩
  · rcases x.2 a z with z | z
    · exact n z
    · rw [z] at e; cases e
  · rcases y.2 b hb with z | z
    · exact x.2 b z
    · by_cases q : O b
      · exact .inl q
      · cases e : H b with
        | none => exact .inr rfl
        | some o => rw [x.1 b o q e] at z; cases z
theorem Lt.ex {H H' : Hp} {O : Addr → Prop} (e : Ex H H') : Lt H O H' O := ⟨fun a o _ h => e a o h, fun _ h => .inl h⟩
theorem Lt.out {H H' : Hp} {O : Addr → Prop} (x : Lt H Mo H' O) : Ex H H' := fun a o h => x.1 a o (fun z => z) h
def ownM (M F : Addr → Prop) : Addr → Prop := fun a => M a ∧ ¬ F a
def Mb (M : Addr → Prop) (bs : List Addr) : Addr → Prop := fun a => M a ∨ a ∈ bs
/-- the slots σ hold ρ in H; F: owned elsewhere; M: all that is owned; Z: what is known of the way here -/
structure Ok (F : Addr → Prop) (Z : Hp → (Addr → Prop) → Prop) (ρ : List Sl) (σ : L2.St) (H : Hp) (M : Addr → Prop) : Prop where
  sl : ∃ as : List Addr, as.Nodup ∧ (∀ a ∈ as, M a ∧ ¬ F a) ∧ OkL M H ρ σ as
  al : ∀ a, M a → H a ≠ none
  fr : ∀ a, F a → M a
  z : Z H (ownM M F)
  mz : ∀ H O H' O', Z H O → Lt H O H' O' → Z H' O'
section
variable {F : Addr → Prop} {Z Z' : Hp → (Addr → Prop) → Prop} {ρ : List Sl} {σ : L2.St} {H H' : Hp} {M : Addr → Prop} {d : Dt} {p : Pat} {v : V} {bs : List Addr} {i : Nat}
theorem Go.ex {M : Addr → Prop} (e : Ex H H') : Go M H M H' := fun a o n h => ⟨e a o h, n⟩
theorem Go.add (e : Ex H H') (n : ∀ b ∈ bs, H b = none) : Go M H (Mb M bs) H' := fun a o m h => ⟨e a o h, fun z => by
  rcases z with z | z
  · exact m z
  · rw [n a z] at h; cases h⟩
theorem Ok.ex (ok : Ok F Z ρ σ H M) (e : Ex H H') : Ok F Z ρ σ H' M := by
  obtain ⟨as, nd, own, sl⟩ := ok.sl
  refine ⟨⟨as, nd, own, sl.go (Go.ex e) fun a _ o h => e a o h⟩, fun a ha hn => ?_, ok.fr, ok.mz _ _ _ _ ok.z (Lt.ex e), ok.mz⟩
  exact ok.al a ha (fresh_back e hn)
theorem Ok.weak (ok : Ok F Z' ρ σ H M) (h : ∀ H O, Z' H O → Z H O) (m : ∀ H O H' O', Z H O → Lt H O H' O' → Z H' O') : Ok F Z ρ σ H M := ⟨ok.sl, ok.al, ok.fr, h _ _ ok.z, m⟩
theorem Ok.mark (ok : Ok F Z ρ σ H M) : Ok F (fun H' O' => Z H' O' ∧ Lt H (ownM M F) H' O') ρ σ H M := ⟨ok.sl, ok.al, ok.fr, ⟨ok.z, Lt.refl _ _⟩, fun H1 O1 H2 O2 z l => ⟨ok.mz _ _ _ _ z.1 l, z.2.trans l⟩⟩
/-- a value that comes is stored -/
theorem Ok.set (ok : Ok F Z ρ σ H M) (e : Ex H H') (nd : bs.Nodup) (n : ∀ b ∈ bs, H b = none) (w : Ow (Mb M bs) H' d p v bs) : Ok F Z (ρ.set i (.own d p)) (σ.set i (some v)) H' (Mb M bs) := by
  obtain ⟨as, and_, own, sl⟩ := ok.sl
  have sl1 := sl.go (Go.add (M := M) (bs := bs) e n) fun a _ o h => e a o h
  obtain ⟨b0, cs, as', h1, h2, h3⟩ := OkL.set w (i := i) sl1
  have ndc : cs.Nodup := (List.nodup_append.mp (h1.nodup_iff.mpr and_)).2.1
  have hcs : ∀ a ∈ cs, a ∈ as := fun a ha => h1.subset (List.mem_append_right _ ha)
  have hb : ∀ b ∈ bs, b ∉ cs := fun b hb hc => sl.al b (hcs b hc) (n b hb)
  refine ⟨⟨as', ?_, ?_, h2⟩, ?_, fun a ha => .inl (ok.fr a ha), ?_, ok.mz⟩
  · rcases h3 with rfl | h3
    · exact ndc
    · rw [h3.nodup_iff, List.nodup_append]
      exact ⟨nd, ndc, fun a ha b hb' z => hb a ha (z ▸ hb')⟩
  · intro a ha
    have : a ∈ bs ∨ a ∈ cs := by
      rcases h3 with rfl | h3
      · exact .inr ha
      · exact List.mem_append.mp (h3.subset ha)
    rcases this with h | h
    · exact ⟨.inr h, fun z => ok.al a (ok.fr a z) (n a h)⟩
    · have := own a (hcs a h)
      exact ⟨.inl this.1, this.2⟩
  · rintro a (ha | ha) hn
    · exact ok.al a ha (fresh_back e hn)
    · exact w.al a ha hn
  · refine ok.mz _ _ _ _ ok.z ⟨fun a o _ h => e a o h, fun b hb => ?_⟩
    rcases hb.1 with h | h
    · exact .inl ⟨h, hb.2⟩
    · exact .inr (n b h)
theorem mb_nil (M : Addr → Prop) : Mb M [] = M := by
  funext a
  apply propext
  constructor
  · rintro (h | h)
    · exact h
    · cases h
  · exact .inl
theorem Ok.setR (ok : Ok F Z ρ σ H M) (e : Ex H H') (w : Rp M H' d v) : Ok F Z (ρ.set i (.own d .sh)) (σ.set i (some v)) H' M := by
  have := ok.set (i := i) (d := d) (p := .sh) (v := v) (bs := []) e List.nodup_nil (fun b hb => nomatch hb) (ow_sh.mpr ⟨rfl, by rw [mb_nil]; exact w⟩)
  rwa [mb_nil] at this
theorem Ok.off (ok : Ok F Z ρ σ H M) : Ok F Z (ρ.set i .una) (σ.set i none) H M := by
  obtain ⟨as, and_, own, sl⟩ := ok.sl
  obtain ⟨b0, cs, h1, h2⟩ := OkL.off (i := i) sl
  exact ⟨⟨cs, (List.nodup_append.mp (h1.nodup_iff.mpr and_)).2.1, fun a ha => own a (h1.subset (List.mem_append_right _ ha)), h2⟩, ok.al, ok.fr, ok.z, ok.mz⟩
/-- what a slot owns is shared from now on -/
theorem Ok.share (ok : Ok F Z ρ σ H M) (i : Nat) (h : ρ[i]? = some (.own d p)) : ∃ M', Ok F Z (ρ.set i (.own d .sh)) σ H M' := by
  obtain ⟨as, nd, own, sl⟩ := ok.sl
  obtain ⟨v, bs, cs, h1, h2, h3, h4⟩ := sl.out h
  have nd2 := List.nodup_append.mp (h4.nodup_iff.mpr nd)
  have hM : ∀ a, ¬ M a → ¬ (M a ∧ a ∉ bs) := fun a n z => n z.1
  have w : Rp (fun a => M a ∧ a ∉ bs) H d v := h2.fr hM fun a ha z => z.2 ha
  have sl' := h3.go (M' := fun a => M a ∧ a ∉ bs) (H' := H) (fun a o n e => ⟨e, hM a n⟩) fun _ _ _ h => h
  have hi : i < ρ.length := (List.getElem?_eq_some_iff.mp h).1
  obtain ⟨as', k1, k2⟩ := OkL.back (bs := []) (ow_sh.mpr ⟨rfl, w⟩) hi sl' h1
  refine ⟨_, ⟨as', by rw [k2.nodup_iff]; exact nd2.2.1, fun a ha => ?_, k1⟩, fun a ha => ok.al a ha.1, fun a ha => ⟨ok.fr a ha, fun hb => (own a (h4.subset (List.mem_append_left _ hb))).2 ha⟩, ?_, ok.mz⟩
  · have hc : a ∈ cs := k2.subset ha
    have := own a (h4.subset (List.mem_append_right _ hc))
    exact ⟨⟨this.1, fun hb => nd2.2.2 a hb a hc rfl⟩, this.2⟩
  · exact ok.mz _ _ _ _ ok.z ⟨fun _ _ _ h => h, fun b hb => .inl ⟨hb.1.1, hb.2⟩⟩
/-- what a slot holds -/
theorem Ok.get (ok : Ok F Z ρ σ H M) (h : ρ[i]? = some (.own d p)) : ∃ v bs, σ[i]? = some (some v) ∧ Ow M H d p v bs := by
  obtain ⟨as, nd, own, sl⟩ := ok.sl
  obtain ⟨v, bs, cs, h1, h2, h3, h4⟩ := sl.out h
  exact ⟨v, bs, h1, h2⟩
/-- the object of a flat owned slot is changed -/
theorem Ok.mut (ok : Ok F Z ρ σ H M) {s : Sh} {ds : List Dt} (h : ρ[i]? = some (.own (.node s ds) (.ow .sh))) : ∃ a vs, σ[i]? = some (some (.ref a)) ∧ ObAt H s a vs ∧ RpL M H ds vs ∧
    ∀ H1, Ex H H1 → ∀ (o : HO) (s' : Sh) (ds' : List Dt) (vs' : List V), ObAt (upd H1 a o) s' a vs' → RpL M H1 ds' vs' → Ok F Z (ρ.set i (.own (.node s' ds') (.ow .sh))) σ (upd H1 a o) M := by
  obtain ⟨as, nd, own, sl⟩ := ok.sl
  obtain ⟨v, bs, cs, h1, h2, h3, h4⟩ := sl.out h
  obtain ⟨a, vs, rfl, ob, rfl, r⟩ := ow_mu.mp h2
  refine ⟨a, vs, h1, ob, r, fun H1 e o s' ds' vs' ob' r' => ?_⟩
  have nd2 := List.nodup_append.mp (h4.nodup_iff.mpr nd)
  have ha := own a (h4.subset (List.mem_append_left _ (List.mem_singleton.mpr rfl)))
  have g : Go M H1 M (upd H1 a o) := fun b u n hb => ⟨by rw [upd_ne (fun z => n (by rw [z]; exact ha.1))]; exact hb, n⟩
  have g0 : Go M H M (upd H1 a o) := fun b u n hb => g b u n (e b u hb)
  have hi : i < ρ.length := (List.getElem?_eq_some_iff.mp h).1
  have sl' := h3.go g0 fun b hb u hu => by
    rw [upd_ne (fun z => nd2.2.2 a (List.mem_singleton.mpr rfl) b hb z.symm)]
    exact e b u hu
  obtain ⟨as', k1, k2⟩ := OkL.back (bs := [a]) (ow_mu.mpr ⟨a, vs', rfl, ob', rfl, r'.go g⟩) hi sl' h1
  refine ⟨⟨as', by rw [k2.nodup_iff]; exact h4.nodup_iff.mpr nd, fun b hb => own b (h4.subset (k2.subset hb)), k1⟩, fun b hb hn => ?_, ok.fr, ?_, ok.mz⟩
  · by_cases z : b = a
    · rw [z, upd_same] at hn; cases hn
    · rw [upd_ne z] at hn
      exact ok.al b hb (fresh_back e hn)
  · exact ok.mz _ _ _ _ ok.z ⟨fun b u n hb => by rw [upd_ne (fun z => n (by rw [z]; exact ha))]; exact e b u hb, fun b hb => .inl hb⟩
/-- a set of slots set aside, as comprehensions do -/
def wipeS (ρ : List Sl) : List Nat → List Sl
  | [] => ρ
  | i :: is => (wipeS ρ is).set i .una
theorem Ok.wipe (ok : Ok F Z ρ σ H M) : ∀ vs : List Nat, Ok F Z (wipeS ρ vs) (L2.wipe σ vs) H M
  | [] => ok
  | i :: is => (ok.wipe is).off
end
end Ho
namespace Ho
open PySem PySem.Spec PyProof.Rows L2 Evl
def isR (M : Addr → Prop) (d : Dt) : V → Hp → Prop := fun v H => Rp M H d v
def isN (M : Addr → Prop) (s : Sh) (ds : List Dt) : V → Hp → Prop := fun v H => ∃ a vs, v = .ref a ∧ ObAt H s a vs ∧ RpL M H ds vs
abbrev EvR (M : Addr → Prop) (te : TE) (σ : L2.St) (H : Hp) (d : Dt) : Prop := EvG te σ H (isR M d)
abbrev EvN (M : Addr → Prop) (te : TE) (σ : L2.St) (H : Hp) (s : Sh) (ds : List Dt) : Prop := EvG te σ H (isN M s ds)
/-- a value whose owned parts are new -/
def EvP (M : Addr → Prop) (te : TE) (σ : L2.St) (H : Hp) (d : Dt) (p : Pat) : Prop := ∀ H1, Ex H H1 → ∀ Q : VK, (∀ v bs H2, Ex H1 H2 → bs.Nodup → (∀ b ∈ bs, H1 b = none) → Ow (Mb M bs) H2 d p v bs → Q v H2) → te σ H1 Q
def Al (M : Addr → Prop) (H : Hp) : Prop := ∀ a, M a → H a ≠ none
theorem mon_R (M : Addr → Prop) (d : Dt) : Mon (isR M d) := fun v H H' e h => Rp.go (Go.ex e) h
theorem mon_N (M : Addr → Prop) (s : Sh) (ds : List Dt) : Mon (isN M s ds) := fun v H H' e ⟨a, vs, h1, h2, h3⟩ => ⟨a, vs, h1, ObAt.go (fun o h => e _ _ h) h2, RpL.go (Go.ex e) h3⟩
theorem zip_maps {α β γ : Type} (f : α → β) (g : α → γ) : ∀ l : List α, (l.map f).zip (l.map g) = l.map fun x => (f x, g x)
  | [] => rfl
  | a :: l => by rw [List.map_cons, List.map_cons, List.zip_cons_cons, zip_maps f g l, List.map_cons]
theorem DS_zip (r : Dic) : (r.map fun p => (Sum.inr (S p.1) : Key)).zip (r.map fun p => VS p.2) = DS r := zip_maps _ _ r
theorem Mo_al (H : Hp) : Al Mo H := fun _ h => h.elim
section
variable {K : PySem.W.Frag} {F : Addr → Prop} {Z Z' : Hp → (Addr → Prop) → Prop} {ρ : List Sl} {σ : L2.St} {H H' : Hp} {M : Addr → Prop} {d : Dt} {p : Pat} {v w : V} {bs : List Addr} {i j : Nat} {ta tb tc te tl : TE} {t : TT} {s : Sh} {ds es : List Dt} {α β γ : Type} {tr : TA} {Ps : List (V → Hp → Prop)} {A : Addr → Prop}
theorem Ok.ev (ok : Ok F Z ρ σ H M) (h : ρ[i]? = some (.own (.sc v) p)) : Ev (tVar i) σ H v := by
  obtain ⟨u, bs, h1, h2⟩ := ok.get h
  unfold Ow at h2
  rw [h2.2.1] at h1
  exact ev_var h1
theorem g_var {P : V → Hp → Prop} (h : σ[i]? = some (some v)) (m : Mon P) (hp : P v H) : EvG (tVar i) σ H P := fun H1 e Q q => ⟨v, h, q v H1 (Ex.refl _) (m v _ _ e hp)⟩
theorem Ok.r (ok : Ok F Z ρ σ H M) (h : ρ[i]? = some (.own d .sh)) : EvR M (tVar i) σ H d := by
  obtain ⟨u, bs, h1, h2⟩ := ok.get h
  exact g_var h1 (mon_R _ _) (ow_sh.mp h2).2
theorem Ok.ro (ok : Ok F Z ρ σ H M) (h : ρ[i]? = some (.own d p)) : EvR Mo (tVar i) σ H d := by
  obtain ⟨u, bs, h1, h2⟩ := ok.get h
  exact g_var h1 (mon_R _ _) h2.rd
theorem Ok.n (ok : Ok F Z ρ σ H M) (h : ρ[i]? = some (.own (.node s ds) (.ow .sh))) : EvN M (tVar i) σ H s ds := by
  obtain ⟨u, bs, h1, h2⟩ := ok.get h
  obtain ⟨a, vs, e, o, _, r⟩ := ow_mu.mp h2
  exact g_var h1 (mon_N _ _ _) ⟨a, vs, e, o, r⟩
theorem Rp.n {M : Addr → Prop} (h : Rp M H (.node s ds) v) : isN M s ds v H := by
  unfold Rp at h
  obtain ⟨a, vs, e, _, o, r⟩ := h
  exact ⟨a, vs, e, o, r⟩
theorem r_n (h : EvR M te σ H (.node s ds)) : EvN M te σ H s ds := fun H1 e Q q => h H1 e Q fun v H2 e2 r => q v H2 e2 r.n
theorem Rp.o {M : Addr → Prop} (h : Rp M H d v) : Rp Mo H d v := Rp.go (fun a o _ e => ⟨e, fun z => z⟩) h
theorem r_o (h : EvR M te σ H d) : EvR Mo te σ H d := fun H1 e Q q => h H1 e Q fun v H2 e2 r => q v H2 e2 (Rp.o r)
/-- what a slot holds, to be read -/
theorem Ok.nn (ok : Ok F Z ρ σ H M) (h : ρ[i]? = some (.own (.node s ds) p)) : EvN Mo (tVar i) σ H s ds := r_n (ok.ro h)
theorem q_n {g : α → V} {xs : List α} (h : EvN M te σ H .l (xs.map fun x => .sc (g x))) : EvQ K te σ H (xs.map g) := fun H1 e Q q => h H1 e Q fun v H2 e2 ⟨a, vs, h1, h2, h3⟩ => by
  subst h1
  rw [rpL_sc] at h3
  subst h3
  exact q a H2 e2 (slof h2)
theorem q_r {g : α → V} {xs : List α} (h : EvR M te σ H (.node .l (xs.map fun x => .sc (g x)))) : EvQ K te σ H (xs.map g) := q_n (r_n h)
theorem h_n {g : α → V} {xs : List α} (h : EvN M te σ H .l (xs.map fun x => .sc (g x))) : EvH te σ H (xs.map g) := fun H1 e Q q => h H1 e Q fun v H2 e2 ⟨a, vs, h1, h2, h3⟩ => by
  subst h1
  rw [rpL_sc] at h3
  subst h3
  exact q a H2 e2 h2
theorem d_n {r : Dic} (h : EvN M te σ H (.d (r.map fun p => .inr (S p.1))) (r.map fun p => uS p.2)) : EvG te σ H (isD (DS r)) := fun H1 e Q q => h H1 e Q fun v H2 e2 ⟨a, vs, h1, h2, h3⟩ => by
  rw [rpL_sc (g := fun p : Row × Row => VS p.2)] at h3
  subst h3
  have h2 := h2.1
  rw [DS_zip] at h2
  exact q v H2 e2 ⟨a, h1, h2⟩
/-- short ways -/
theorem Ok.q {g : α → V} {xs : List α} (ok : Ok F Z ρ σ H M) (h : ρ[i]? = some (.own (.node .l (xs.map fun x => .sc (g x))) p)) : EvQ K (tVar i) σ H (xs.map g) := q_n (ok.nn h)
theorem Ok.h {g : α → V} {xs : List α} (ok : Ok F Z ρ σ H M) (h : ρ[i]? = some (.own (.node .l (xs.map fun x => .sc (g x))) p)) : EvH (tVar i) σ H (xs.map g) := h_n (ok.nn h)
theorem Ok.dd {r : Dic} (ok : Ok F Z ρ σ H M) (h : ρ[i]? = some (.own (uD r) p)) : EvG (tVar i) σ H (isD (DS r)) := d_n (ok.nn h)
theorem ev_r (h : EvR M te σ H (.sc v)) : Ev te σ H v := fun H1 e Q q => h H1 e Q fun u H2 e2 r => by
  unfold isR Rp at r
  rw [r]
  exact q H2 e2
theorem r_ev (h : Ev te σ H v) : EvR M te σ H (.sc v) := fun H1 e Q q => h H1 e Q fun H2 e2 => q v H2 e2 (by unfold isR Rp; rfl)
theorem EvP.is {d' : Dt} (h : EvP M te σ H d p) (e : d = d') : EvP M te σ H d' p := e ▸ h
theorem EvR.is {d' : Dt} (h : EvR M te σ H d) (e : d = d') : EvR M te σ H d' := e ▸ h
theorem p_r (h : EvR M te σ H d) : EvP M te σ H d .sh := fun H1 e Q q => h H1 e Q fun v H2 e2 r => q v [] H2 e2 List.nodup_nil (fun b hb => nomatch hb) (by rw [mb_nil]; exact ow_sh.mpr ⟨rfl, r⟩)
theorem p_ev (h : Ev te σ H v) : EvP M te σ H (.sc v) .sh := p_r (r_ev h)
theorem r_p (al : Al M H) (h : EvP M te σ H d p) : EvR M te σ H d := fun H1 e Q q => h H1 e Q fun v bs H2 e2 nd n w => q v H2 e2 (w.fr (M' := M) (fun a m z => m (.inl z)) fun a ha z => al a z (fresh_back e (n a ha)))
theorem ev_p (h : EvP M te σ H (.sc v) p) : Ev te σ H v := fun H1 e Q q => h H1 e Q fun u bs H2 e2 nd n w => by
  unfold Ow at w
  rw [w.2.1]
  exact q H2 e2
theorem p_L {g : α → V} {xs : List α} (h : EvL te σ H (xs.map g)) : EvP M te σ H (.node .l (xs.map fun x => .sc (g x))) (.ow .sh) := fun H1 e Q q => h H1 e Q fun p H2 hp e2 h2 => q _ [p] H2 e2 (by simp) (by simpa using hp) (ow_mu.mpr ⟨p, _, rfl, h2, rfl, rpL_sc.mpr rfl⟩)
theorem p_D {r : Dic} (h : EvD te σ H (DS r)) : EvP M te σ H (uD r) (.ow .sh) := fun H1 e Q q => h H1 e Q fun p H2 hp e2 h2 => q _ [p] H2 e2 (by simp) (by simpa using hp) (ow_mu.mpr ⟨p, r.map fun p => VS p.2, rfl, ⟨by rw [DS_zip]; exact h2, by simp⟩, rfl, rpL_sc.mpr rfl⟩)
theorem q_p {g : α → V} {xs : List α} (h : EvP M te σ H (.node .l (xs.map fun x => .sc (g x))) p) : EvQ K te σ H (xs.map g) := fun H1 e Q q => h H1 e Q fun v bs H2 e2 nd n w => by
  obtain ⟨a, vs, h1, h2, h3⟩ := Rp.n w.rd
  subst h1
  rw [rpL_sc] at h3
  subst h3
  exact q a H2 e2 (slof h2)
def RetP (F : Addr → Prop) (H0 : Hp) (d : Dt) (p : Pat) (Q : VK) : Prop := ∀ v bs H', Ex H0 H' → bs.Nodup → (∀ b ∈ bs, H0 b = none) → Ow (Mb F bs) H' d p v bs → Q v H'
def spR (n : Nat) (R : (Addr → Prop) → List V → Hp → Dt → Pat → Prop) : Sp := fun vs H Q _ => vs.length = n ∧ ∃ F d p, Al F H ∧ R F vs H d p ∧ RetP F H d p Q
theorem ag_R (h : EvR M te σ H d) (hr : EvAG tr σ H Ps) : EvAG (tCons te tr) σ H (isR M d :: Ps) := ag_cons h (mon_R M d) hr
theorem p_callR {n : Nat} {R : (Addr → Prop) → List V → Hp → Dt → Pat → Prop} {E : XK} (al : Al M H) (h : EvAG tr σ H Ps) (hn : Ps.length = n) (hr : ∀ vs H1, AllP Ps vs H1 → R M vs H1 d p) : EvP M (tCallO (spR n R) E tr) σ H d p := fun H1 e Q q =>
  h H1 e _ fun vs H2 e2 hp => ⟨hp.length.trans hn, M, d, p, fun a ha z => al a ha (fresh_back (e.trans e2) z), hr vs H2 hp, fun v bs H3 e3 nd nn w => q v bs H3 (e2.trans e3) nd (fun b hb => fresh_back e2 (nn b hb)) w⟩
mutual
def Scal : Dt → Pat → Prop
  | .sc _, _ => True
  | .node s ds, .sh => False
  | .node s ds, .ow p => ScalF ds (List.replicate ds.length p)
  | .node s ds, .fs ps => ScalF ds ps
def ScalF : List Dt → List Pat → Prop
  | [], _ => True
  | d :: ds, [] => False
  | d :: ds, p :: ps => Scal d p ∧ ScalF ds ps
end
mutual
theorem Ow.scal {M1 M2 : Addr → Prop} {H : Hp} : ∀ {d : Dt} {p : Pat} {v : V} {bs : List Addr}, Scal d p → Ow M1 H d p v bs → Ow M2 H d p v bs
  | .sc w, p, v, bs, _, h => by
    unfold Ow at h ⊢
    exact h
  | .node s ds, .sh, v, bs, k, h => by
    unfold Scal at k
    exact k.elim
  | .node s ds, .ow p, v, bs, k, h => by
    unfold Ow at h ⊢
    unfold Scal at k
    obtain ⟨a, vs, cs, e, o, rfl, f⟩ := h
    exact ⟨a, vs, cs, e, o, rfl, OwF.scal k f⟩
  | .node s ds, .fs ps, v, bs, k, h => by
    unfold Ow at h ⊢
    unfold Scal at k
    obtain ⟨a, vs, cs, e, o, rfl, f⟩ := h
    exact ⟨a, vs, cs, e, o, rfl, OwF.scal k f⟩
theorem OwF.scal {M1 M2 : Addr → Prop} {H : Hp} : ∀ {ds : List Dt} {ps : List Pat} {vs : List V} {bs : List Addr}, ScalF ds ps → OwF M1 H ds ps vs bs → OwF M2 H ds ps vs bs
  | [], ps, vs, bs, _, h => by
    unfold OwF at h ⊢
    exact h
  | d :: ds, [], vs, bs, k, h => by
    unfold ScalF at k
    exact k.elim
  | d :: ds, q :: qs, vs, bs, k, h => by
    unfold ScalF at k
    unfold OwF at h ⊢
    obtain ⟨p, pr, v, r, b, c, e1, e2, e3, h1, h2⟩ := h
    obtain ⟨rfl, rfl⟩ := List.cons.inj e1
    exact ⟨q, qs, v, r, b, c, rfl, e2, e3, Ow.scal k.1 h1, OwF.scal k.2 h2⟩
end
theorem scalF_of : ∀ {ds : List Dt}, (∀ d ∈ ds, Scal d p) → ScalF ds (List.replicate ds.length p)
  | [], _ => by unfold ScalF; trivial
  | d :: ds, h => by
    rw [List.length_cons, List.replicate_succ]
    unfold ScalF
    exact ⟨h d List.mem_cons_self, scalF_of fun e he => h e (List.mem_cons_of_mem _ he)⟩
theorem scal_sc : Scal (.sc v) p := by unfold Scal; trivial
theorem scal_ow (h : ∀ d ∈ ds, Scal d p) : Scal (.node s ds) (.ow p) := by
  unfold Scal
  exact scalF_of h
theorem scal_map {f : α → Dt} {xs : List α} (h : ∀ x, Scal (f x) p) : Scal (.node s (xs.map f)) (.ow p) := scal_ow fun d hd => by
  obtain ⟨x, _, rfl⟩ := List.mem_map.mp hd
  exact h x
theorem p_scal (h : EvP Mo te σ H d p) (k : Scal d p) : EvP M te σ H d p := fun H1 e Q q => h H1 e Q fun v bs H2 e2 nd n w => q v bs H2 e2 nd n (w.scal k)
theorem r_ix (dd : Dt) {n : Int} (h : EvN M ta σ H .l ds) (hb : Ev tb σ H (.int n)) (h0 : 0 ≤ n) (h1 : n < ds.length) : EvR M (tOp (rIxL K) ta tb) σ H (ds.getD n.toNat dd) := fun H1 e Q q =>
  h H1 e _ fun v H2 e2 ⟨a, vs, hv, ho, hr⟩ => hb H2 (e.trans e2) _ fun H3 e3 => by
    subst hv
    have hy : ds[n.toNat]? = some (ds.getD n.toNat dd) := by
      rw [List.getD_eq_getElem?_getD, List.getElem?_eq_getElem (show n.toNat < ds.length by omega)]
      rfl
    obtain ⟨w, hw, hp⟩ := hr.at n.toNat _ hy
    have hl : n < (vs.length : Int) := by rw [hr.len]; exact h1
    refine ⟨a, vs, n, _, rfl, rfl, (exl (K := K) e3 (slof ho)).q, atI_getD V.non h0 hl, ?_⟩
    rw [List.getD_eq_getElem?_getD, hw]
    exact q w H3 (e2.trans e3) (mon_R _ _ _ _ _ e3 hp)
theorem r_ixL (x0 : α) {f : α → Dt} {xs : List α} {n : Int} (h : EvN M ta σ H .l (xs.map f)) (hb : Ev tb σ H (.int n)) (h0 : 0 ≤ n) (h1 : n < xs.length) : EvR M (tOp (rIxL K) ta tb) σ H (f (xs.getD n.toNat x0)) := by
  have := r_ix (K := K) (f x0) h hb h0 (by rw [List.length_map]; exact h1)
  rwa [List.getD_eq_getElem?_getD, List.getElem?_map, Option.getD_map, ← List.getD_eq_getElem?_getD] at this
theorem r_last {f : α → Dt} {xs : List α} {x : α} (h : EvN M ta σ H .l (xs.map f)) (hb : Ev tb σ H (.int (-1))) (hx : xs.getLast? = some x) : EvR M (tOp (rIxL K) ta tb) σ H (f x) := fun H1 e Q q =>
  h H1 e _ fun v H2 e2 ⟨a, vs, hv, ho, hr⟩ => hb H2 (e.trans e2) _ fun H3 e3 => by
    subst hv
    have hl := hr.len
    rw [List.length_map] at hl
    have hn : xs ≠ [] := by rintro rfl; simp at hx
    have hy : (xs.map f)[xs.length - 1]? = some (f x) := by
      rw [List.getElem?_map, ← List.getLast?_eq_getElem?, hx]
      rfl
    obtain ⟨w', hw', hp⟩ := hr.at _ _ hy
    have hvn : vs ≠ [] := by
      rintro rfl
      simp at hw'
    have hv : vs = vs.dropLast ++ [w'] := by
      have : vs.getLast hvn = w' := by
        rw [← hl, ← List.getLast?_eq_getElem?, List.getLast?_eq_getLast hvn] at hw'
        exact Option.some.inj hw'
      rw [← this, List.dropLast_concat_getLast]
    refine ⟨a, vs, -1, w', rfl, rfl, (exl (K := K) e3 (slof ho)).q, ?_, q w' H3 (e2.trans e3) (mon_R _ _ _ _ _ e3 hp)⟩
    rw [hv]
    exact atI_last _ _
/-- written items, shared -/
def EvRs (M : Addr → Prop) (ta : TA) (σ : L2.St) (H : Hp) (ds : List Dt) : Prop := ∀ H1, Ex H H1 → ∀ Q : List V → Hp → Prop, (∀ vs H2, Ex H1 H2 → RpL M H2 ds vs → Q vs H2) → ta σ H1 Q
theorem rs_nil : EvRs M tNil σ H [] := fun H1 e Q q => q [] H1 (Ex.refl _) (by unfold RpL; rfl)
theorem rs_cons (h : EvR M te σ H d) (hr : EvRs M tr σ H ds) : EvRs M (tCons te tr) σ H (d :: ds) := fun H1 e Q q =>
  h H1 e _ fun v H2 e2 h2 => hr H2 (e.trans e2) _ fun vs H3 e3 h3 => q _ H3 (e2.trans e3) (by
    unfold RpL
    exact ⟨v, vs, rfl, mon_R _ _ _ _ _ e3 h2, h3⟩)
theorem p_lst (h : EvRs M tr σ H ds) (hz : ds.length ≤ 100000) : EvP M (tLst tr) σ H (.node .l ds) (.ow .sh) := fun H1 e Q q =>
  h H1 e _ fun vs H2 e2 h2 => ⟨sz_of (by rw [h2.len]; exact hz), fun p hp => q _ [p] _ (e2.trans (Ex.new hp)) (by simp) (by simpa using fresh_back e2 hp) (ow_mu.mpr ⟨p, vs, rfl, upd_same, rfl, RpL.go (Go.add (Ex.new hp) (by simpa using hp)) h2⟩)⟩
theorem p_revL {f : α → Dt} {xs : List α} (h : EvN M te σ H .l (xs.map f)) : EvP M (tRevL K te) σ H (.node .l (xs.reverse.map f)) (.ow .sh) := fun H1 e Q q =>
  h H1 e _ fun v H2 e2 ⟨a, vs, hv, ho, hr⟩ => by
    subst hv
    exact ⟨a, vs, rfl, SL.q (slof ho), fun p hp => q _ [p] _ (e2.trans (Ex.new hp)) (by simp) (by simpa using fresh_back e2 hp) (ow_mu.mpr ⟨p, _, rfl, upd_same, rfl, by
      rw [List.map_reverse]
      exact RpL.go (Go.add (Ex.new hp) (by simpa using hp)) hr.rev⟩)⟩
theorem p_list {f : α → Dt} {xs : List α} (h : EvN M te σ H .l (xs.map f)) : EvP M (tCB (rListQ K) (tCons te tNil)) σ H (.node .l (xs.map f)) (.ow .sh) := fun H1 e Q q =>
  h H1 e _ fun v H2 e2 ⟨a, vs, hv, ho, hr⟩ => by
    subst hv
    exact ⟨a, vs, rfl, .inl (SL.q (slof ho)), fun p hp => q _ [p] _ (e2.trans (Ex.new hp)) (by simp) (by simpa using fresh_back e2 hp) (ow_mu.mpr ⟨p, _, rfl, upd_same, rfl, RpL.go (Go.add (Ex.new hp) (by simpa using hp)) hr⟩)⟩
theorem p_sl {f : α → Dt} {xs : List α} {tlo thi : TO} {lo hi : Option Int} (h : EvN M te σ H .l (xs.map f)) (h1 : EvO tlo σ H lo) (h2 : EvO thi σ H hi) : EvP M (tSl (rSlL K) te tlo thi) σ H (.node .l ((cutG xs lo hi).map f)) (.ow .sh) := fun H1 e Q q =>
  h H1 e _ fun v H2 e2 ⟨a, vs, hv, ho, hr⟩ => h1 H2 (e.trans e2) _ fun H3 e3 => h2 H3 ((e.trans e2).trans e3) _ fun H4 e4 => by
    subst hv
    have e24 := e3.trans e4
    have hr4 : RpL M H4 (xs.map f) vs := RpL.go (Go.ex e24) hr
    refine ⟨a, vs, rfl, SL.q (exl e24 (slof ho)), fun p hp => q _ [p] _ ((e2.trans e24).trans (Ex.new hp)) (by simp) (by simpa using fresh_back (e2.trans e24) hp) (ow_mu.mpr ⟨p, _, rfl, upd_same, rfl, RpL.go (Go.add (Ex.new hp) (by simpa using hp)) ?_⟩)⟩
    have hl := hr.len
    rw [List.length_map] at hl
    have key : cutV vs lo hi = cutG vs lo hi := rfl
    rw [key]
    unfold cutG
    rw [hl, List.map_take, List.map_drop]
    exact (hr4.drop _).take _
theorem p_cat {f : α → Dt} {xs ys : List α} (ha : EvN M ta σ H .l (xs.map f)) (hb : EvN M tb σ H .l (ys.map f)) (hz : xs.length + ys.length ≤ 100000) : EvP M (tOp rCat ta tb) σ H (.node .l ((xs ++ ys).map f)) (.ow .sh) := fun H1 e Q q =>
  ha H1 e _ fun v H2 e2 ⟨a, vs, hv, ho, hr⟩ => hb H2 (e.trans e2) _ fun v' H3 e3 ⟨a', vs', hv', ho', hr'⟩ => by
    subst hv hv'
    refine ⟨a, a', _, _, rfl, rfl, e3 _ _ ho, ho', sz_of (by rw [hr.len, hr'.len, List.length_map, List.length_map]; exact hz), fun p hp => q _ [p] _ ((e2.trans e3).trans (Ex.new hp)) (by simp) (by simpa using fresh_back (e2.trans e3) hp) (ow_mu.mpr ⟨p, _, rfl, upd_same, rfl, RpL.go (Go.add (Ex.new hp) (by simpa using hp)) ?_⟩)⟩
    rw [List.map_append]
    exact (RpL.go (Go.ex e3) hr).app hr'
theorem n_p (al : Al M H) (h : EvP M te σ H (.node s ds) p) : EvN M te σ H s ds := r_n (r_p al h)
theorem r_if {c : Bool} {d1 d2 : Dt} (h : EvT t σ H c) (h1 : c = true → EvR M ta σ H d1) (h2 : c = false → EvR M tb σ H d2) : EvR M (tIf t ta tb) σ H (if c then d1 else d2) := fun H1 e Q q => h H1 e _ fun H2 e2 => by
  cases c with
  | true =>
    show ta σ H2 Q
    exact h1 rfl H2 (e.trans e2) Q fun v H3 e3 => q v H3 (e2.trans e3)
  | false =>
    show tb σ H2 Q
    exact h2 rfl H2 (e.trans e2) Q fun v H3 e3 => q v H3 (e2.trans e3)
theorem p_if {c : Bool} {d1 d2 : Dt} (h : EvT t σ H c) (h1 : c = true → EvP M ta σ H d1 p) (h2 : c = false → EvP M tb σ H d2 p) : EvP M (tIf t ta tb) σ H (if c then d1 else d2) p := fun H1 e Q q => h H1 e _ fun H2 e2 => by
  cases c with
  | true =>
    show ta σ H2 Q
    exact h1 rfl H2 (e.trans e2) Q fun v bs H3 e3 nd n => q v bs H3 (e2.trans e3) nd fun b hb => fresh_back e2 (n b hb)
  | false =>
    show tb σ H2 Q
    exact h2 rfl H2 (e.trans e2) Q fun v bs H3 e3 nd n => q v bs H3 (e2.trans e3) nd fun b hb => fresh_back e2 (n b hb)
end
def GoM : Hp → (Addr → Prop) → Hp → (Addr → Prop) → Prop := fun H M H' M' => Go M H M' H'
def GoE : Hp → (Addr → Prop) → Hp → (Addr → Prop) → Prop := fun H M H' M' => Ex H H' ∧ ∀ a, ¬ M a → H a ≠ none → ¬ M' a
structure SrcJ (J : It) {α : Type} (l : List α) (g : TG) (js : List Nat) (u : α → List Sl → List Sl) (Gd : Hp → (Addr → Prop) → Prop) : Prop where
  go : ∀ i H M, i < l.length → Gd H M → J.go i H
  stop : ∀ H M, Gd H M → J.stop l.length H
  yld : ∀ i H M x H' σ K, (hi : i < l.length) → Gd H M → J.yld i H x H' →
    (∀ σ'' H'', Ex H H'' → σ''.length = σ.length → (∀ k, k ∉ js → σ''[k]? = σ[k]?) → (∀ F Z ρ, Ok F Z ρ σ H M → Ok F Z (u l[i] ρ) σ'' H'' M) → K σ'' H'') → g x σ H' K
def EvJ (C : Hp → (Addr → Prop) → Hp → (Addr → Prop) → Prop) (M : Addr → Prop) (wi : TI) (g : TG) (js : List Nat) (σ : L2.St) (H : Hp) {α : Type} (l : List α) (u : α → List Sl → List Sl) : Prop :=
  ∀ H1, Ex H H1 → ∀ R : It → Hp → Prop, (∀ (J : It) (H2 : Hp) (Gd : Hp → (Addr → Prop) → Prop), Ex H1 H2 → Gd H2 M → (∀ Ha Ma Hb Mb, C Ha Ma Hb Mb → Gd Ha Ma → Gd Hb Mb) → SrcJ J l g js u Gd → R J H2) → wi σ H1 R
section
variable {K : PySem.W.Frag} {C : Hp → (Addr → Prop) → Hp → (Addr → Prop) → Prop} {F : Addr → Prop} {Z Z' : Hp → (Addr → Prop) → Prop} {ρ : List Sl} {σ : L2.St} {H H' : Hp} {M : Addr → Prop} {d : Dt} {p : Pat} {v w : V} {bs : List Addr} {i j j1 j2 j3 : Nat} {ta tb tc te tl : TE} {t : TT} {s : Sh} {ds es : List Dt} {α β γ : Type} {tr : TA}
theorem set_at {k : Nat} {x : Option V} (h : k ∉ [j]) : (σ.set j x)[k]? = σ[k]? := by
  rw [List.getElem?_set_ne]
  intro e
  exact h (by rw [e]; simp)
theorem set_at2 {k : Nat} {x y : Option V} (h : k ∉ [j1, j2]) : ((σ.set j1 x).set j2 y)[k]? = σ[k]? := by
  rw [List.getElem?_set_ne, List.getElem?_set_ne]
  · intro e; exact h (by rw [e]; simp)
  · intro e; exact h (by rw [e]; simp)
/-- a list that stands -/
theorem j_listR {l : List α} {f : α → Dt} (h : EvR M tl σ H (.node .l (l.map f))) : EvJ GoM M (iList K tl) (gName j) [j] σ H l (fun x ρ => ρ.set j (st (f x))) := fun H1 e R q =>
  h H1 e _ fun v H2 e2 r => by
    unfold isR Rp at r
    obtain ⟨a, vs, rfl, n, o, r⟩ := r
    have o : H2 a = some (.lst vs) := o
    refine ⟨a, rfl, ⟨vs, SL.q (slof o)⟩, q (Itl K a) H2 (fun H M => ¬ M a ∧ H a = some (.lst vs) ∧ RpL M H (l.map f) vs) e2 ⟨n, o, r⟩ (fun Ha Ma Hb Mb g ⟨g1, g2, g3⟩ => ⟨(g a _ g1 g2).2, (g a _ g1 g2).1, RpL.go g g3⟩) ⟨?_, ?_, ?_⟩⟩
    · intro i H M hi ⟨g1, g2, g3⟩
      have hl := g3.len
      rw [List.length_map] at hl
      exact ⟨vs, vs[i]'(by omega), SL.q (slof g2), by simp [hl, hi]⟩
    · intro H M ⟨g1, g2, g3⟩
      have hl := g3.len
      rw [List.length_map] at hl
      exact ⟨vs, SL.q (slof g2), by omega⟩
    · intro i H M x H' σ K' hi ⟨g1, g2, g3⟩ y k
      obtain ⟨e1, y⟩ := y
      subst e1
      obtain ⟨w, hw, hp⟩ := g3.at i (f l[i]) (by simp [hi])
      have := y vs (SL.q (slof g2))
      rw [hw] at this
      obtain rfl := Option.some.inj this
      exact k _ H' (Ex.refl _) (by simp) (fun _ h => set_at h) fun F Z ρ ok => ok.setR (Ex.refl _) hp
/-- one that is not changed meanwhile -/
theorem j_listN {l : List α} {f : α → Dt} (h : EvN M tl σ H .l (l.map f)) : EvJ GoE M (iList K tl) (gName j) [j] σ H l (fun x ρ => ρ.set j (st (f x))) := fun H1 e R q =>
  h H1 e _ fun v H2 e2 r => by
    obtain ⟨a, vs, rfl, o, r⟩ := r
    have o : H2 a = some (.lst vs) := o
    refine ⟨a, rfl, ⟨vs, SL.q (slof o)⟩, q (Itl K a) H2 (fun H M => H a = some (.lst vs) ∧ RpL M H (l.map f) vs) e2 ⟨o, r⟩ (fun Ha Ma Hb Mb g ⟨g2, g3⟩ => ⟨g.1 _ _ g2, RpL.go (fun b o n e => ⟨g.1 _ _ e, g.2 b n (by rw [e]; simp)⟩) g3⟩) ⟨?_, ?_, ?_⟩⟩
    · intro i H M hi ⟨g2, g3⟩
      have hl := g3.len
      rw [List.length_map] at hl
      exact ⟨vs, vs[i]'(by omega), SL.q (slof g2), by simp [hl, hi]⟩
    · intro H M ⟨g2, g3⟩
      have hl := g3.len
      rw [List.length_map] at hl
      exact ⟨vs, SL.q (slof g2), by omega⟩
    · intro i H M x H' σ K' hi ⟨g2, g3⟩ y k
      obtain ⟨e1, y⟩ := y
      subst e1
      obtain ⟨w, hw, hp⟩ := g3.at i (f l[i]) (by simp [hi])
      have := y vs (SL.q (slof g2))
      rw [hw] at this
      obtain rfl := Option.some.inj this
      exact k _ H' (Ex.refl _) (by simp) (fun _ h => set_at h) fun F Z ρ ok => ok.setR (Ex.refl _) hp
theorem EvJ.e {wi : TI} {g : TG} {js : List Nat} {l : List α} {u : α → List Sl → List Sl} (h : EvJ GoM M wi g js σ H l u) : EvJ GoE M wi g js σ H l u := fun H1 e R q => h H1 e R fun J H2 Gd e2 g st S => q J H2 Gd e2 g (fun Ha Ma Hb Mb c => st Ha Ma Hb Mb fun a o n h => ⟨c.1 a o h, c.2 a n (by rw [h]; simp)⟩) S
theorem j_rng1 {ta : TA} {n : Int} (h : EvA ta σ H [.int n]) (hn : -1000000 ≤ n ∧ n ≤ 1000000) : EvJ C M (iRng1 ta) (gName j) [j] σ H (List.range n.toNat) (fun (i : Nat) ρ => ρ.set j (st (uI (i : Int)))) := fun H1 e R q =>
  h H1 e _ fun H2 e2 => ⟨n, rfl, by omega, by omega, q (Itr 0 n.toNat) H2 (fun _ _ => True) e2 trivial (fun _ _ _ _ _ _ => trivial)
    ⟨fun i H M hi _ => by show i < n.toNat; simpa using hi, fun H M _ => by show n.toNat ≤ _; simp, fun i H M x H' σ K hi _ y k => by
      obtain ⟨e1, e3⟩ := y
      subst e1 e3
      simp only [List.getElem_range] at k
      show K (σ.set j (some (.int (0 + (i : Int))))) H'
      rw [Int.zero_add]
      exact k _ H' (Ex.refl _) (by simp) (fun _ h => set_at h) fun F Z ρ ok => ok.setR (Ex.refl _) (by unfold Rp; rfl)⟩⟩
theorem j_enumS {l : Row} (h : Ev ta σ H (VS l)) :
    EvJ C M (iEnumS (tCons ta tNil)) (gTup K 2 (gCons (gName j1) (gCons (gName j2) gNil))) [j1, j2] σ H l.zipIdx (fun p ρ => (ρ.set j1 (st (uI (p.2 : Nat)))).set j2 (st (uS [p.1]))) := fun H1 e R q =>
  h H1 e _ fun H2 e2 => ⟨S l, rfl, q (IteS (S l)) H2 (fun _ _ => True) e2 trivial (fun _ _ _ _ _ _ => trivial)
    ⟨fun i H M hi _ => by
      show i < l.toArray.size
      rw [List.length_zipIdx] at hi
      simpa using hi, fun H M _ => by
      show l.toArray.size ≤ _
      simp, fun i H M x H' σ K' hi _ y k => by
      have hi' : i < l.length := by rw [List.length_zipIdx] at hi; exact hi
      obtain ⟨T, c, rfl, hT, rfl, y1⟩ := y
      have y1 : l.toArray[i]? = some c := y1
      simp [hi'] at y1
      subst y1
      have e1 : l.zipIdx[i] = (l[i], i) := by simp
      rw [e1] at k
      exact gTup2n (st_of upd_same) (k _ _ (Ex.new hT) (by simp) (fun _ h => set_at2 h) fun F Z ρ ok => (ok.setR (Ex.new hT) (by unfold Rp; rfl)).setR (Ex.refl _) (by unfold Rp; rfl))⟩⟩
theorem j_zip {l : List α} {m : List β} {f1 : α → Dt} {f2 : β → Dt} (h1 : EvR M ta σ H (.node .l (l.map f1))) (h2 : EvR M tb σ H (.node .l (m.map f2))) :
    EvJ GoM M (iZip K (tCons ta (tCons tb tNil))) (gTup K 2 (gCons (gName j1) (gCons (gName j2) gNil))) [j1, j2] σ H (l.zip m) (fun p ρ => (ρ.set j1 (st (f1 p.1))).set j2 (st (f2 p.2))) := fun H1 e R q =>
  h1 H1 e _ fun v H2 e2 r => h2 H2 (e.trans e2) _ fun v' H3 e3 r' => by
    unfold isR Rp at r r'
    obtain ⟨a, vs, rfl, n, o, r⟩ := r
    obtain ⟨a', vs', rfl, n', o', r'⟩ := r'
    have o : H2 a = some (.lst vs) := o
    have o' : H3 a' = some (.lst vs') := o'
    refine ⟨a, a', vs, vs', rfl, SL.q (slof (e3 _ _ o)), SL.q (slof o'), q (Itz K a a') H3 (fun H M => (¬ M a ∧ H a = some (.lst vs) ∧ RpL M H (l.map f1) vs) ∧ (¬ M a' ∧ H a' = some (.lst vs') ∧ RpL M H (m.map f2) vs')) (e2.trans e3) ⟨⟨n, e3 _ _ o, RpL.go (Go.ex e3) r⟩, n', o', r'⟩
      (fun Ha Ma Hb Mb g ⟨⟨g1, g2, g3⟩, k1, k2, k3⟩ => ⟨⟨(g a _ g1 g2).2, (g a _ g1 g2).1, RpL.go g g3⟩, (g a' _ k1 k2).2, (g a' _ k1 k2).1, RpL.go g k3⟩) ⟨?_, ?_, ?_⟩⟩
    · intro i H M hi ⟨⟨g1, g2, g3⟩, k1, k2, k3⟩
      obtain ⟨p1, p2, _⟩ := zip_get hi
      have hl := g3.len
      have hl' := k3.len
      rw [List.length_map] at hl hl'
      exact ⟨vs, vs', vs[i]'(by omega), vs'[i]'(by omega), SL.q (slof g2), SL.q (slof k2), by simp [hl, p1], by simp [hl', p2]⟩
    · intro H M ⟨⟨g1, g2, g3⟩, k1, k2, k3⟩
      have hl := g3.len
      have hl' := k3.len
      rw [List.length_map] at hl hl'
      exact ⟨vs, vs', SL.q (slof g2), SL.q (slof k2), by rw [List.length_zip]; omega⟩
    · intro i H M x H' σ K' hi ⟨⟨g1, g2, g3⟩, k1, k2, k3⟩ y k
      obtain ⟨p1, p2, e1⟩ := zip_get hi
      obtain ⟨T, x1, x2, rfl, hT, rfl, y1, y2⟩ := y
      obtain ⟨w, hw, hp⟩ := g3.at i (f1 l[i]) (by simp [p1])
      obtain ⟨w', hw', hp'⟩ := k3.at i (f2 m[i]) (by simp [p2])
      have := y1 vs (SL.q (slof g2))
      rw [hw] at this
      obtain rfl := Option.some.inj this
      have := y2 vs' (SL.q (slof k2))
      rw [hw'] at this
      obtain rfl := Option.some.inj this
      rw [e1] at k
      exact gTup2n (st_of upd_same) (k _ _ (Ex.new hT) (by simp) (fun _ h => set_at2 h) fun F Z ρ ok => (ok.setR (Ex.new hT) (mon_R _ _ _ _ _ (Ex.new hT) hp)).setR (Ex.refl _) (mon_R _ _ _ _ _ (Ex.new hT) hp'))
end
theorem wipe_get {σ : L2.St} {k : Nat} : ∀ vs : List Nat, (L2.wipe σ vs)[k]? = if k ∈ vs then (if k < σ.length then some none else none) else σ[k]?
  | [] => by simp [L2.wipe]
  | v :: vs => by
    unfold L2.wipe
    rw [List.getElem?_set, L2.wipe_length]
    by_cases e : v = k
    · subst e
      simp
    · rw [if_neg e, wipe_get vs]
      have e' : ¬ k = v := fun z => e z.symm
      simp [e']
theorem wipe_eq {σ σ' : L2.St} {vs : List Nat} (hl : σ'.length = σ.length) (h : ∀ k, k ∉ vs → σ'[k]? = σ[k]?) : L2.wipe σ' vs = L2.wipe σ vs := by
  refine List.ext_getElem? fun k => ?_
  rw [wipe_get, wipe_get, hl]
  by_cases e : k ∈ vs
  · rw [if_pos e, if_pos e]
  · rw [if_neg e, if_neg e, h k e]
theorem wipe_wipe (σ : L2.St) (vs : List Nat) : L2.wipe (L2.wipe σ vs) vs = L2.wipe σ vs := wipe_eq (L2.wipe_length _ _) fun k hk => by rw [wipe_get, if_neg hk]
section
variable {K : PySem.W.Frag} {F : Addr → Prop} {Z Z' : Hp → (Addr → Prop) → Prop} {ρ : List Sl} {σ : L2.St} {H H' : Hp} {M : Addr → Prop} {p : Pat} {te : TE} {t : TT} {α : Type}
theorem Mb_app {bs cs : List Addr} {a : Addr} : Mb M (bs ++ cs) a ↔ Mb M bs a ∨ a ∈ cs := by
  unfold Mb
  rw [List.mem_append]
  constructor
  · rintro (h | h | h)
    · exact .inl (.inl h)
    · exact .inl (.inr h)
    · exact .inr h
  · rintro ((h | h) | h)
    · exact .inl h
    · exact .inr (.inl h)
    · exact .inr (.inr h)
/-- some new addresses are owned, too -/
theorem Ok.more (ok : Ok F Z ρ σ H M) {bs : List Addr} (e : Ex H H') (n : ∀ b ∈ bs, H b = none) (a : ∀ b ∈ bs, H' b ≠ none) : Ok F Z ρ σ H' (Mb M bs) := by
  obtain ⟨as, and_, own, sl⟩ := ok.sl
  refine ⟨⟨as, and_, fun b hb => ⟨.inl (own b hb).1, (own b hb).2⟩, sl.go (Go.add e n) fun b _ o h => e b o h⟩, ?_, fun b hb => .inl (ok.fr b hb), ?_, ok.mz⟩
  · rintro b (hb | hb) hn
    · exact ok.al b hb (fresh_back e hn)
    · exact a b hb hn
  · refine ok.mz _ _ _ _ ok.z ⟨fun b o _ h => e b o h, fun b hb => ?_⟩
    rcases hb.1 with h | h
    · exact .inl ⟨h, hb.2⟩
    · exact .inr (n b h)
theorem owF_snoc {M : Addr → Prop} {H : Hp} {d : Dt} {v : V} {bs : List Addr} (w : Ow M H d p v bs) : ∀ {ds : List Dt} {vs : List V} {cs : List Addr}, OwF M H ds (List.replicate ds.length p) vs cs → OwF M H (ds ++ [d]) (List.replicate (ds ++ [d]).length p) (vs ++ [v]) (cs ++ bs)
  | [], vs, cs, h => by
    unfold OwF at h
    obtain ⟨_, rfl, rfl⟩ := h
    show OwF M H [d] [p] [v] bs
    unfold OwF
    exact ⟨p, [], v, [], bs, [], rfl, rfl, by simp, w, by unfold OwF; exact ⟨rfl, rfl, rfl⟩⟩
  | e :: ds, vs, cs, h => by
    rw [List.length_cons, List.replicate_succ] at h
    unfold OwF at h
    obtain ⟨q, pr, u, r, b, c, e1, rfl, rfl, h1, h2⟩ := h
    obtain ⟨rfl, rfl⟩ := List.cons.inj e1
    show OwF M H (e :: (ds ++ [d])) (List.replicate ((ds ++ [d]).length + 1) _) _ _
    rw [List.replicate_succ]
    unfold OwF
    exact ⟨_, _, u, r ++ [v], b, c ++ bs, rfl, rfl, by rw [List.append_assoc], h1, owF_snoc w h2⟩
theorem p_lc {l : List α} {b : α → Bool} {f : α → Dt} {wi : TI} {gt : TG} {js : List Nat} {u : α → List Sl → List Sl} {vs : List Nat} (ok : Ok F Z ρ σ H M) (src : EvJ GoE M wi gt js σ H l u) (hz : l.length ≤ 40000) (hw : ∀ j ∈ js, j ∈ vs)
    (ht : ∀ x ∈ l, ∀ M' σ' H', Ok F Z (u x (wipeS ρ vs)) σ' H' M' → EvT t σ' H' (b x))
    (he : ∀ x ∈ l, b x = true → ∀ M' σ' H', Ok F Z (u x (wipeS ρ vs)) σ' H' M' → EvP M' te σ' H' (f x) p) :
    EvP M (tLc wi gt t te vs) σ H (.node .l ((l.filter b).map f)) (.ow p) := fun H0 e Q q =>
  src H0 e _ fun J H1 Gd e1 gd0 stay S Dl hD => by
    refine ⟨fun i m H' => m = l.length - i ∧ i ≤ l.length ∧ ∃ ws cs, Ex H1 H' ∧ H' Dl = some (.lst ws) ∧ cs.Nodup ∧ (∀ c ∈ cs, H1 c = none ∧ c ≠ Dl) ∧ OwF (Mb M (Dl :: cs)) H' (((l.take i).filter b).map f) (List.replicate (((l.take i).filter b).map f).length p) ws cs,
      ⟨l.length, by simp, Nat.zero_le _, [], [], Ex.new hD, upd_same, List.nodup_nil, (fun c hc => by cases hc), by
        simp only [List.take_zero, List.filter_nil, List.map_nil]
        unfold OwF
        exact ⟨rfl, rfl, rfl⟩⟩, ?_⟩
    rintro i m H' ⟨rfl, hi, ws, cs, p2, p3, p4, p5, p6⟩
    have ok1 : Ok F Z ρ σ H1 M := ok.ex (e.trans e1)
    have hDc : ∀ c ∈ Dl :: cs, H1 c = none := fun c hc => by
      rcases List.mem_cons.mp hc with rfl | hc
      · exact hD
      · exact (p5 c hc).1
    have hDa : ∀ c ∈ Dl :: cs, H' c ≠ none := fun c hc => by
      rcases List.mem_cons.mp hc with rfl | hc
      · rw [p3]; simp
      · exact p6.al c hc
    have ok' : Ok F Z (wipeS ρ vs) (L2.wipe σ vs) H' (Mb M (Dl :: cs)) := (ok1.more p2 hDc hDa).wipe vs
    have gd : Gd H' (Mb M (Dl :: cs)) := stay H1 M H' _ ⟨p2, fun a n hn z => by
      rcases z with z | z
      · exact n z
      · exact hn (hDc a z)⟩ gd0
    by_cases hlt : i < l.length
    · refine .inr ⟨S.go i H' _ hlt gd, fun H'' => ∃ ws cs, Ex H1 H'' ∧ H'' Dl = some (.lst ws) ∧ cs.Nodup ∧ (∀ c ∈ cs, H1 c = none ∧ c ≠ Dl) ∧ OwF (Mb M (Dl :: cs)) H'' (((l.take (i + 1)).filter b).map f) (List.replicate (((l.take (i + 1)).filter b).map f).length p) ws cs, fun H'' c => ⟨l.length - (i + 1), by omega, rfl, hlt, c⟩, fun x H2 y => ?_⟩
      refine S.yld i H' _ x H2 (L2.wipe σ vs) _ hlt gd y fun σ2 H3 e3 hl2 hs2 ok2 => ⟨?_, ?_⟩
      · rw [wipe_eq hl2 fun k hk => hs2 k fun z => hk (hw k z), wipe_wipe]
      have ok3 := ok2 F Z _ ok'
      have hm : l[i] ∈ l := List.getElem_mem hlt
      have hx : l.take (i + 1) = l.take i ++ [l[i]] := by rw [List.take_succ, List.getElem?_eq_getElem hlt]; rfl
      refine ht l[i] hm _ σ2 H3 ok3 H3 (Ex.refl _) _ fun H4 e4 => ?_
      have e34 := e3.trans e4
      cases hb : b l[i] with
      | true =>
        show te _ H4 _
        refine he l[i] hm hb _ σ2 H4 (ok3.ex e4) H4 (Ex.refl _) _ fun v bs H5 e5 nd5 n5 w5 => ?_
        have e35 := e34.trans e5
        have hcs5 : ∀ c ∈ Dl :: cs, c ∉ bs := fun c hc hbs => hDa c hc (fresh_back e34 (n5 c hbs))
        have hgo : Go (Mb (Mb M (Dl :: cs)) bs) H5 (Mb M (Dl :: (cs ++ bs))) (upd H5 Dl (.lst (ws ++ [v]))) := fun a o n h => by
          have hne : a ≠ Dl := fun z => n (.inl (.inr (by rw [z]; exact List.mem_cons_self)))
          refine ⟨by rw [upd_ne hne]; exact h, fun z => n ?_⟩
          rw [← List.cons_append] at z
          exact Mb_app.mp z
        refine ⟨ws, e35 _ _ p3, ?_, ws ++ [v], cs ++ bs, ?_, upd_same, ?_, ?_, ?_⟩
        · refine sz_lt ?_
          have h1 := (OwF.fr (M' := Mo) (fun _ _ z => z) (fun _ _ z => z) p6).len
          rw [h1, List.length_map]
          have := List.length_filter_le b (l.take i)
          rw [List.length_take] at this
          omega
        · exact Ex.mut (p2.trans e35) hD
        · rw [List.nodup_append]
          exact ⟨p4, nd5, fun a ha c hc z => hcs5 a (List.mem_cons_of_mem _ ha) (by rw [z]; exact hc)⟩
        · intro c hc
          rcases List.mem_append.mp hc with hc | hc
          · exact p5 c hc
          · exact ⟨fresh_back (p2.trans e34) (n5 c hc), fun z => hcs5 Dl List.mem_cons_self (by rw [← z]; exact hc)⟩
        · rw [hx, List.filter_append, List.map_append, List.filter_cons, if_pos hb]
          refine owF_snoc (d := f l[i]) ?_ ?_
          · refine w5.go hgo fun a ha o h => ?_
            rw [upd_ne (fun z => hcs5 Dl List.mem_cons_self (by rw [← z]; exact ha))]
            exact h
          · refine p6.go (M' := Mb M (Dl :: (cs ++ bs))) (fun a o n h => ?_) fun a ha o h => ?_
            · have hne : a ≠ Dl := fun z => n (.inr (by rw [z]; exact List.mem_cons_self))
              refine ⟨by rw [upd_ne hne]; exact e35 _ _ h, fun z => n ?_⟩
              rw [← List.cons_append] at z
              rcases Mb_app.mp z with z | z
              · exact z
              · exact absurd (fresh_back e34 (n5 a z)) (by rw [h]; simp)
            · rw [upd_ne (fun z => (p5 a ha).2 z)]
              exact e35 _ _ h
      | false =>
        show ∃ ws cs, _
        refine ⟨ws, cs, p2.trans e34, e34 _ _ p3, p4, p5, ?_⟩
        rw [hx, List.filter_append, List.filter_cons, if_neg (by rw [hb]; decide), List.filter_nil, List.append_nil]
        exact p6.go (Go.ex e34) fun a _ o h => e34 _ _ h
    · have ei : i = l.length := by omega
      subst ei
      rw [List.take_length] at p6
      refine .inl ⟨S.stop H' _ gd, q _ (Dl :: cs) H' (e1.trans p2) ?_ (fun c hc => fresh_back e1 (hDc c hc)) ?_⟩
      · rw [List.nodup_cons]
        exact ⟨fun h => (p5 Dl h).2 rfl, p4⟩
      · unfold Ow
        exact ⟨Dl, ws, cs, rfl, p3, rfl, p6⟩
theorem p_lc1 {l : List α} {f : α → Dt} {wi : TI} {gt : TG} {js : List Nat} {u : α → List Sl → List Sl} {vs : List Nat} (ok : Ok F Z ρ σ H M) (src : EvJ GoE M wi gt js σ H l u) (hz : l.length ≤ 40000) (hw : ∀ j ∈ js, j ∈ vs)
    (he : ∀ x ∈ l, ∀ M' σ' H', Ok F Z (u x (wipeS ρ vs)) σ' H' M' → EvP M' te σ' H' (f x) p) :
    EvP M (tLc wi gt tYes te vs) σ H (.node .l (l.map f)) (.ow p) := by
  have := p_lc (b := fun _ => true) (t := tYes) (te := te) (f := f) (p := p) ok src hz hw (fun x _ M' σ' H' _ H2 _ Q q => q H2 (Ex.refl _)) (fun x hx _ => he x hx)
  rwa [List.filter_eq_self.mpr (fun _ _ => rfl)] at this
end
def Nx (F : Addr → Prop) (Z : Hp → (Addr → Prop) → Prop) (P : List Sl → Prop) : L2.St → Hp → Prop := fun σ H => ∃ M ρ, Ok F Z ρ σ H M ∧ P ρ
section
variable {K : PySem.W.Frag} {F : Addr → Prop} {Z Z' : Hp → (Addr → Prop) → Prop} {ρ : List Sl} {σ : L2.St} {H H' H0 : Hp} {M : Addr → Prop} {d : Dt} {p : Pat} {v w : V} {bs : List Addr} {i j : Nat} {ta tb tc te tl : TE} {t : TT} {s : Sh} {ds es : List Dt} {α β γ : Type} {tr : TA} {D : Ends} {tu tw tz : TS} {g : TG} {wi : TI} {js : List Nat}
theorem c_asg (ok : Ok F Z ρ σ H M) (h : EvP M te σ H d p) (k : ∀ M' σ' H', Ok F Z (ρ.set i (.own d p)) σ' H' M' → D.nx σ' H') : tAsg te (gName i) D σ H :=
  h H (Ex.refl H) _ fun v bs H1 e nd n w => k _ _ _ (ok.set e nd n w)
theorem b_asg (ok : Ok F Z ρ σ H M) (h : EvP M te σ H d p) (k : ∀ M' σ' H', Ok F Z (ρ.set i (.own d p)) σ' H' M' → tz D σ' H') : tSeq (tAsg te (gName i)) tz D σ H := c_asg (D := { D with nx := tz D }) ok h k
theorem c_drop (ok : Ok F Z ρ σ H M) (h : EvP M te σ H d p) (k : ∀ M' σ' H', Ok F Z ρ σ' H' M' → D.nx σ' H') : tDrop te D σ H :=
  h H (Ex.refl H) _ fun v bs H1 e nd n w => k _ _ _ (ok.ex e)
theorem b_drop (ok : Ok F Z ρ σ H M) (h : EvP M te σ H d p) (k : ∀ M' σ' H', Ok F Z ρ σ' H' M' → tz D σ' H') : tSeq (tDrop te) tz D σ H := c_drop (D := { D with nx := tz D }) ok h k
theorem c_par {i2 : Nat} {d2 : Dt} {p2 : Pat} {tb : TE} (ok : Ok F Z ρ σ H M) (h : EvP M te σ H d p) (h2 : ∀ M' σ' H', Ok F Z ρ σ' H' M' → EvP M' tb σ' H' d2 p2) (k : ∀ M' σ' H', Ok F Z ((ρ.set i (.own d p)).set i2 (.own d2 p2)) σ' H' M' → D.nx σ' H') : tPar i i2 (tCons te (tCons tb tNil)) D σ H :=
  h H (Ex.refl H) _ fun v bs H1 e nd n w => by
    have ok1 : Ok F Z ρ σ H1 (Mb M bs) := ok.more e n w.al
    refine h2 _ _ _ ok1 H1 (Ex.refl _) _ fun v2 bs2 H2 e2 nd2 n2 w2 => ⟨v, v2, rfl, ?_⟩
    have s1 := (ok.set (i := i) e nd n w)
    have s2 := s1.set (i := i2) e2 nd2 n2 w2
    exact k _ _ _ s2
theorem b_par {i2 : Nat} {d2 : Dt} {p2 : Pat} {tb : TE} (ok : Ok F Z ρ σ H M) (h : EvP M te σ H d p) (h2 : ∀ M' σ' H', Ok F Z ρ σ' H' M' → EvP M' tb σ' H' d2 p2) (k : ∀ M' σ' H', Ok F Z ((ρ.set i (.own d p)).set i2 (.own d2 p2)) σ' H' M' → tz D σ' H') : tSeq (tPar i i2 (tCons te (tCons tb tNil))) tz D σ H := c_par (D := { D with nx := tz D }) ok h h2 k
theorem c_ret (ok : Ok F Z ρ σ H M) (h : EvP M te σ H d p) (k : RetP F H0 d p D.rt) (zz : ∀ H O, Z H O → Lt H0 Mo H O) : tRet te D σ H :=
  h H (Ex.refl H) _ fun v bs H1 e nd n w => by
    have l := zz _ _ ok.z
    refine k v bs H1 (l.out.trans e) nd (fun b hb => fresh_back l.out (n b hb)) (w.go (fun a o m h => ⟨h, fun z => m ?_⟩) fun _ _ _ h => h)
    rcases z with z | z
    · exact .inl (ok.fr a z)
    · exact .inr z
theorem Lt.own_new (l : Lt H0 Mo H (ownM M F)) {a : Addr} (h : M a ∧ ¬ F a) : H0 a = none := by
  rcases l.2 a h with z | z
  · exact z.elim
  · exact z
/-- return x, what the slot owns -/
theorem c_retv (ok : Ok F Z ρ σ H M) (hi : ρ[i]? = some (.own d p)) (k : RetP F H0 d p D.rt) (zz : ∀ H O, Z H O → Lt H0 Mo H O) : tRet (tVar i) D σ H := by
  obtain ⟨as, nd, own, sl⟩ := ok.sl
  obtain ⟨v, bs, cs, h1, h2, h3, h4⟩ := sl.out hi
  have l := zz _ _ ok.z
  have hb : ∀ b ∈ bs, M b ∧ ¬ F b := fun b hb => own b (h4.subset (List.mem_append_left _ hb))
  refine ⟨v, h1, k v bs H l.out (List.nodup_append.mp (h4.nodup_iff.mpr nd)).1 (fun b hbb => l.own_new (hb b hbb)) (h2.go (fun a o m h => ⟨h, fun z => m ?_⟩) fun _ _ _ h => h)⟩
  rcases z with z | z
  · exact ok.fr a z
  · exact (hb a z).1
theorem c_if {b : Bool} (ok : Ok F Z ρ σ H M) (h : EvT t σ H b) (h1 : b = true → ∀ M' σ' H', Ok F Z ρ σ' H' M' → tu D σ' H') (h2 : b = false → ∀ M' σ' H', Ok F Z ρ σ' H' M' → tw D σ' H') : tIfS t tu tw D σ H := s_if h (fun hb H1 e => h1 hb _ _ _ (ok.ex e)) (fun hb H1 e => h2 hb _ _ _ (ok.ex e))
theorem c_when {b : Bool} (ok : Ok F Z ρ σ H M) (h : EvT t σ H b) (h1 : b = true → ∀ M' σ' H', Ok F Z ρ σ' H' M' → tu D σ' H') (h2 : b = false → ∀ M' σ' H', Ok F Z ρ σ' H' M' → D.nx σ' H') : tIfS t tu tNext D σ H := s_when h (fun hb H1 e => h1 hb _ _ _ (ok.ex e)) (fun hb H1 e => h2 hb _ _ _ (ok.ex e))
theorem b_when {b : Bool} (ok : Ok F Z ρ σ H M) (h : EvT t σ H b) (h1 : b = true → ∀ M' σ' H', Ok F Z ρ σ' H' M' → tu { D with nx := tz D } σ' H') (h2 : b = false → ∀ M' σ' H', Ok F Z ρ σ' H' M' → tz D σ' H') : tSeq (tIfS t tu tNext) tz D σ H := q_when h (fun hb H1 e => h1 hb _ _ _ (ok.ex e)) (fun hb H1 e => h2 hb _ _ _ (ok.ex e))
theorem b_whenJ {b : Bool} (J : List Sl → Prop) (ok : Ok F Z ρ σ H M) (h : EvT t σ H b) (h1 : b = true → ∀ M' σ' H', Ok F Z ρ σ' H' M' → (∀ ρ M σ H, J ρ → Ok F Z ρ σ H M → tz D σ H) → tu { D with nx := tz D } σ' H')
    (h2 : b = false → J ρ) (k : ∀ ρ M σ H, J ρ → Ok F Z ρ σ H M → tz D σ H) : tSeq (tIfS t tu tNext) tz D σ H := b_when ok h (fun hb M' σ' H' o => h1 hb _ _ _ o k) (fun hb M' σ' H' o => k _ _ _ _ (h2 hb) o)
/-- if ..: (never) -/
theorem b_skip (ok : Ok F Z ρ σ H M) (h : EvT t σ H false) (k : ∀ M' σ' H', Ok F Z ρ σ' H' M' → tz D σ' H') : tSeq (tIfS t tu tNext) tz D σ H := b_when ok h (fun e => nomatch e) fun _ => k
theorem c_skip (ok : Ok F Z ρ σ H M) (h : EvT t σ H false) (k : ∀ M' σ' H', Ok F Z ρ σ' H' M' → D.nx σ' H') : tIfS t tu tNext D σ H := c_when ok h (fun e => nomatch e) fun _ => k
/-- xs.append(e) -/
theorem c_app {f : α → Dt} {xs : List α} {x : α} (ok : Ok F Z ρ σ H M) (hi : ρ[i]? = some (mu (.node .l (xs.map f)))) (h : EvR M te σ H (f x)) (hz : xs.length < 100000) (k : ∀ M' σ' H', Ok F Z (ρ.set i (mu (.node .l ((xs ++ [x]).map f)))) σ' H' M' → D.nx σ' H') : tDrop (tBM K "list" rAppend (tVar i) (tCons te tNil)) D σ H := by
  obtain ⟨a, vs, h1, h2, h3, h4⟩ := ok.mut hi
  have h2 : H a = some (.lst vs) := h2
  refine ⟨.ref a, h1, .inl ⟨rfl, vs, SL.q (slof h2)⟩, ?_⟩
  refine h H (Ex.refl _) _ fun v H1 e1 r => ⟨a, vs, v, rfl, rfl, e1 _ _ h2, sz_lt (by rw [h3.len, List.length_map]; exact hz), ?_⟩
  refine k _ _ _ (h4 H1 e1 _ .l _ (vs ++ [v]) upd_same ?_)
  rw [List.map_append]
  exact (RpL.go (Go.ex e1) h3).app (RpL.one r)
theorem b_app {f : α → Dt} {xs : List α} {x : α} (ok : Ok F Z ρ σ H M) (hi : ρ[i]? = some (mu (.node .l (xs.map f)))) (h : EvR M te σ H (f x)) (hz : xs.length < 100000) (k : ∀ M' σ' H', Ok F Z (ρ.set i (mu (.node .l ((xs ++ [x]).map f)))) σ' H' M' → tz D σ' H') : tSeq (tDrop (tBM K "list" rAppend (tVar i) (tCons te tNil))) tz D σ H := c_app (D := { D with nx := tz D }) ok hi h hz k
/-- xs[n] = e -/
theorem c_setL {f : α → Dt} {xs : List α} {x : α} {n : Nat} (ok : Ok F Z ρ σ H M) (hi : ρ[i]? = some (mu (.node .l (xs.map f)))) (h : EvR M te σ H (f x)) (hn : Ev tb σ H (.int (n : Int))) (hz : n < xs.length) (k : ∀ M' σ' H', Ok F Z (ρ.set i (mu (.node .l ((xs.set n x).map f)))) σ' H' M' → D.nx σ' H') : tAsg te (gSub (tVar i) tb rSetL) D σ H := by
  obtain ⟨a, vs, h1, h2, h3, h4⟩ := ok.mut hi
  have h2 : H a = some (.lst vs) := h2
  refine h H (Ex.refl _) _ fun v H1 e1 r => ⟨.ref a, h1, ?_⟩
  refine hn H1 e1 _ fun H2 e2 => ⟨a, vs, (n : Int), n, rfl, rfl, e2 _ _ (e1 _ _ h2), ?_, ?_⟩
  · have hl := h3.len
    rw [List.length_map] at hl
    exact ixN_nat (by omega)
  · refine k _ _ _ (h4 H2 (e1.trans e2) _ .l _ (vs.set n v) upd_same ?_)
    rw [List.map_set]
    exact (RpL.go (Go.ex (e1.trans e2)) h3).set (mon_R _ _ _ _ _ e2 r) n
/-- x += n -/
theorem c_aug {n m : Int} {f : Int → Int → Int} (ok : Ok F Z ρ σ H M) (hi : ρ[i]? = some (st (uI n))) (h : Ev te σ H (.int m)) (k : ∀ M' σ' H', Ok F Z (ρ.set i (st (uI (f n m)))) σ' H' M' → D.nx σ' H') : tAug i te (ipI f) D σ H := by
  obtain ⟨u, bs, h1, h2⟩ := ok.get hi
  unfold Ow at h2
  rw [h2.2.1] at h1
  exact ⟨_, h1, h H (Ex.refl _) _ fun H1 e1 => ⟨n, m, rfl, rfl, k _ _ _ (ok.setR e1 (by unfold Rp; rfl))⟩⟩
theorem b_aug {n m : Int} {f : Int → Int → Int} (ok : Ok F Z ρ σ H M) (hi : ρ[i]? = some (st (uI n))) (h : Ev te σ H (.int m)) (k : ∀ M' σ' H', Ok F Z (ρ.set i (st (uI (f n m)))) σ' H' M' → tz D σ' H') : tSeq (tAug i te (ipI f)) tz D σ H := c_aug (D := { D with nx := tz D }) ok hi h k
theorem c_forB {l : List α} {u : α → List Sl → List Sl} (B : List Sl → Prop) (P : Nat → List Sl → Prop) (ok : Ok F Z ρ σ H M) (src : EvJ GoM M wi g js σ H l u) (h0 : P 0 ρ)
    (turn : ∀ Z', (∀ H O, Z' H O → Z H O) → (∀ ρ' M' σ' H', B ρ' → Ok F Z' ρ' σ' H' M' → D.nx σ' H') → ∀ i x ρ' M' σ' H', l[i]? = some x → P i ρ' → Ok F Z' (u x ρ') σ' H' M' → tu { D with nx := Nx F Z' (P (i + 1)), ct := Nx F Z' (P (i + 1)), bk := D.nx } σ' H')
    (brk : ∀ ρ' M' σ' H', B ρ' → Ok F Z ρ' σ' H' M' → D.nx σ' H')
    (done : ∀ ρ' M' σ' H', P l.length ρ' → Ok F Z ρ' σ' H' M' → D.nx σ' H') : tFor wi g tu D σ H :=
  src H (Ex.refl H) _ fun J H1 Gd e1 gd0 stay S => by
    have ok1 := (ok.ex e1).mark
    have zz : ∀ H' O', (Z H' O' ∧ Lt H1 (ownM M F) H' O') → Z H' O' := fun _ _ z => z.1
    refine ⟨fun i m σ' H' => m = l.length - i ∧ i ≤ l.length ∧ Nx F (fun H' O' => Z H' O' ∧ Lt H1 (ownM M F) H' O') (P i) σ' H', ⟨l.length, by simp, Nat.zero_le _, M, ρ, ok1, h0⟩, ?_⟩
    rintro i m σ' H' ⟨rfl, hi, M', ρ', ok', hp⟩
    have gd : Gd H' M' := stay _ _ _ _ (fun a o n h => by
      have l := ok'.z.2
      refine ⟨l.1 a o (fun z => n z.1) h, fun z => ?_⟩
      by_cases hf : F a
      · exact n (ok.fr a hf)
      · rcases l.2 a ⟨z, hf⟩ with q | q
        · exact n q.1
        · rw [q] at h; cases h) gd0
    by_cases hlt : i < l.length
    · refine .inr ⟨S.go i H' _ hlt gd, Nx F (fun H' O' => Z H' O' ∧ Lt H1 (ownM M F) H' O') (P (i + 1)), fun σ'' H'' c => ⟨l.length - (i + 1), by omega, rfl, hlt, c⟩, fun x H2 y => ?_⟩
      exact S.yld i H' _ x H2 σ' _ hlt gd y fun σ'' H'' e'' _ _ k => turn _ zz (fun ρ' M' σ' H' b o => brk _ _ _ _ b (o.weak zz ok.mz)) i l[i] ρ' _ _ _ (by simp [hlt]) hp (k F _ _ ok')
    · have ei : i = l.length := by omega
      subst ei
      exact .inl ⟨S.stop H' _ gd, done _ _ _ _ hp (ok'.weak zz ok.mz)⟩
theorem c_for {l : List α} {u : α → List Sl → List Sl} (P : Nat → List Sl → Prop) (ok : Ok F Z ρ σ H M) (src : EvJ GoM M wi g js σ H l u) (h0 : P 0 ρ)
    (turn : ∀ Z', (∀ H O, Z' H O → Z H O) → ∀ i x ρ' M' σ' H', l[i]? = some x → P i ρ' → Ok F Z' (u x ρ') σ' H' M' → tu { D with nx := Nx F Z' (P (i + 1)), ct := Nx F Z' (P (i + 1)), bk := D.nx } σ' H')
    (done : ∀ ρ' M' σ' H', P l.length ρ' → Ok F Z ρ' σ' H' M' → D.nx σ' H') : tFor wi g tu D σ H :=
  c_forB (fun _ => False) P ok src h0 (fun Z' zz _ => turn Z' zz) (fun _ _ _ _ h => h.elim) done
theorem b_for {l : List α} {u : α → List Sl → List Sl} (P : Nat → List Sl → Prop) (ok : Ok F Z ρ σ H M) (src : EvJ GoM M wi g js σ H l u) (h0 : P 0 ρ)
    (turn : ∀ Z', (∀ H O, Z' H O → Z H O) → ∀ i x ρ' M' σ' H', l[i]? = some x → P i ρ' → Ok F Z' (u x ρ') σ' H' M' → tu { D with nx := Nx F Z' (P (i + 1)), ct := Nx F Z' (P (i + 1)), bk := tz D } σ' H')
    (done : ∀ ρ' M' σ' H', P l.length ρ' → Ok F Z ρ' σ' H' M' → tz D σ' H') : tSeq (tFor wi g tu) tz D σ H := c_for (D := { D with nx := tz D }) P ok src h0 turn done
end
end Ho
namespace Ho
open PySem PySem.Spec PyProof.Rows L2 Evl
theorem Ok.start {F : Addr → Prop} {ρ : List Sl} {σ : L2.St} {H : Hp} (al : Al F H) (sl : OkL F H ρ σ []) : Ok F (fun H' O' => Lt H Mo H' O') ρ σ H F :=
  ⟨⟨[], List.nodup_nil, (fun a ha => by cases ha), sl⟩, al, fun _ h => h, ⟨fun _ _ _ h => h, fun b hb => (hb.2 hb.1).elim⟩, fun _ _ _ _ z l => z.trans l⟩
def Pat.flat : Pat → Bool
  | .sh => true
  | .ow .sh => true
  | _ => false
section
variable {K : PySem.W.Frag} {F : Addr → Prop} {Z Z' : Hp → (Addr → Prop) → Prop} {ρ : List Sl} {σ : L2.St} {H H' Hb : Hp} {M : Addr → Prop} {d : Dt} {p : Pat} {v w : V} {bs : List Addr} {i j : Nat} {ta tb tc te tl : TE} {t : TT} {s : Sh} {ds es : List Dt} {α β γ : Type} {tr : TA} {a b : Row} {D : Ends}
theorem Ok.nx (ok : Ok F Z ρ σ H M) (h : ρ[i]? = some (.own (.node s ds) p)) (hp : p.flat = true) : EvN M (tVar i) σ H s ds := by
  match p, hp with
  | .sh, _ => exact r_n (ok.r h)
  | .ow .sh, _ => exact ok.n h
theorem c_end {Q : VK} (ok : Ok F Z ρ σ H M) (k : RetP F Hb uN .sh Q) (zz : ∀ H O, Z H O → Lt Hb Mo H O) : Q .non H :=
  k .non [] H (zz _ _ ok.z).out List.nodup_nil (fun b hb => nomatch hb) (by unfold Ow; exact ⟨rfl, rfl, rfl⟩)
theorem ev_dinG {r : Dic} (hb : Ev tb σ H (VS a)) (h : EvG ta σ H (isD (DS r))) : Ev (tDIn tb ta) σ H (.bl (look r a).isSome) := fun H1 e Q q =>
  hb H1 e _ fun H2 e2 => h H2 (e.trans e2) _ fun v H3 e3 ⟨p, ep, h3⟩ => ⟨p, _, ep, DGet.k (k := Sum.inr (S a)) h3, by
    rw [DS_val, Option.isSome_map]
    exact q H3 (e2.trans e3)⟩
theorem ev_dgetG {r : Dic} (h : EvG ta σ H (isD (DS r))) (hb : Ev tb σ H (VS a)) (hv : (look r a).isSome = true) : Ev (tDGet ta tb) σ H (VS ((look r a).getD [])) := fun H1 e Q q =>
  h H1 e _ fun v H2 e2 ⟨p, ep, h2⟩ => hb H2 (e.trans e2) _ fun H3 e3 => ⟨p, VS ((look r a).getD []), ep, by
    have := DGet.k (k := Sum.inr (S a)) (e3 _ _ h2)
    obtain ⟨v, hv⟩ := Option.isSome_iff_exists.mp hv
    rw [DS_val, hv] at this
    rw [hv]
    exact this, q H3 (e2.trans e3)⟩
end
structure Eqd {α : Type} [DecidableEq α] (f : α → Dt) (sm : α → Prop) (n : Nat) (g : α → PyData) : Prop where
  dp : ∀ (K : PySem.W.Frag) (H : Hp) (x : α) (v : V), Rp Mo H (f x) v → Dp K H v (g x)
  eq : ∀ x y, PyData.eqv (g x) (g y) = decide (x = y)
  lay : ∀ x, sm x → PyData.canLay0 (g x) = true
  dep : ∀ x, (g x).depth ≤ n
theorem eqd_S : Eqd uS SmR 0 dS := by
  refine ⟨fun K H x v h => ?_, fun x y => ?_, fun x h => ?_, fun x => ?_⟩
  · unfold Rp at h
    rw [h]
    exact .str (S x)
  · show PyData.eqv (.str (S x)) (.str (S y)) = _
    rw [PyData.eqv]
    by_cases h : x = y
    · subst h; simp
    · rw [decide_eq_false h]
      exact beq_eq_false_iff_ne.mpr fun e => h (S_inj e)
  · show PyData.canLay0 (.str (S x)) = true
    rw [PyData.canLay0, strOk_S h]
  · show PyData.depth (.str (S x)) ≤ 0
    rw [PyData.depth]
    exact Nat.le_refl _
theorem eqd_L {α : Type} [DecidableEq α] {f : α → Dt} {sm : α → Prop} {n : Nat} {g : α → PyData} (E : Eqd f sm n g) : Eqd (fun xs : List α => Dt.node .l (xs.map f)) (fun xs => ∀ x ∈ xs, sm x) (n + 1) (fun xs => .list (xs.map g)) := by
  have all : ∀ (K : PySem.W.Frag) (H : Hp) (xs : List α) (vs : List V), RpL Mo H (xs.map f) vs → DpAll K H vs (xs.map g) := by
    intro K H xs
    induction xs with
    | nil =>
      intro vs h
      rw [List.map_nil] at h
      unfold RpL at h
      rw [h]
      exact .nil
    | cons x xs ih =>
      intro vs h
      rw [List.map_cons] at h
      unfold RpL at h
      obtain ⟨v, r, rfl, h1, h2⟩ := h
      exact .cons (E.dp K H x v h1) (ih r h2)
  refine ⟨fun K H xs v h => ?_, fun xs ys => ?_, fun xs h => ?_, fun xs => ?_⟩
  · unfold Rp at h
    obtain ⟨a, vs, rfl, _, o, r⟩ := h
    exact .lst (SL.q (slof o)) (all K H xs vs r)
  · show PyData.eqv (.list (xs.map g)) (.list (ys.map g)) = _
    rw [PyData.eqv]
    induction xs generalizing ys with
    | nil => cases ys <;> simp [PyData.eqvAll]
    | cons x xs ih =>
      cases ys with
      | nil => simp [PyData.eqvAll]
      | cons y ys =>
        rw [List.map_cons, List.map_cons, PyData.eqvAll, ih ys, E.eq]
        by_cases h : x = y
        · subst h; simp
        · simp [h]
  · show PyData.canLay0 (.list (xs.map g)) = true
    rw [PyData.canLay0]
    induction xs with
    | nil => rw [List.map_nil, PyData.canLayAll0]
    | cons x xs ih => rw [List.map_cons, PyData.canLayAll0, E.lay x (h x List.mem_cons_self), ih fun y hy => h y (List.mem_cons_of_mem _ hy)]; rfl
  · show PyData.depth (.list (xs.map g)) ≤ n + 1
    rw [PyData.depth]
    refine Nat.succ_le_succ ?_
    induction xs with
    | nil => rw [List.map_nil, PyData.depthAll]; exact Nat.zero_le _
    | cons x xs ih =>
      rw [List.map_cons, PyData.depthAll]
      exact Nat.max_le.mpr ⟨E.dep x, ih⟩
section
variable {K : PySem.W.Frag} {σ : L2.St} {H : Hp} {ta tb : TE} {α : Type} [DecidableEq α] {f : α → Dt} {sm : α → Prop} {n : Nat} {g : α → PyData} {x y : α}
theorem ev_neE (E : Eqd f sm n g) (h1 : EvR Mo ta σ H (f x)) (h2 : EvR Mo tb σ H (f y)) (s1 : sm x) (s2 : sm y) (hn : n ≤ 64 := by decide) : Ev (tOp (rNeD K) ta tb) σ H (.bl (!decide (x = y))) := fun H1 e Q q =>
  h1 H1 e _ fun v H2 e2 g1 => h2 H2 (e.trans e2) _ fun v' H3 e3 g2 => ⟨g x, g y, E.dp K H3 x v (mon_R _ _ _ _ _ e3 g1), E.dp K H3 y v' g2, by
    unfold SeqAt.shaped
    rw [E.lay x s1, decide_eq_true (Nat.le_trans (E.dep x) hn)]
    rfl, by
    unfold SeqAt.shaped
    rw [E.lay y s2, decide_eq_true (Nat.le_trans (E.dep y) hn)]
    rfl, by rw [E.eq]; exact q H3 (e2.trans e3)⟩
end
def vO (o : Option Int) : V := match o with
  | none => .non
  | some i => .int i
def lMin : List Int → Option Int
  | [] => none
  | n :: r => some (r.foldl min n)
def rMinDf (K : PySem.W.Frag) : List V → List V → Hp → VK → Prop := fun vs zs H Q => ∃ a ns d, vs = [.ref a] ∧ zs = [d] ∧ SqL K H a (ns.map V.int) ∧ Q (match lMin ns with | none => d | some i => .int i) H
theorem alike_I (ns : List Int) : PySem.W.AlikeAll (ns.map PyData.int) := by
  constructor
  · intro x hx y hy
    obtain ⟨a, _, rfl⟩ := List.mem_map.mp hx
    obtain ⟨b, _, rfl⟩ := List.mem_map.mp hy
    rw [PySem.W.alike]
  · intro x hx
    obtain ⟨a, _, rfl⟩ := List.mem_map.mp hx
    intro h
    cases h
theorem ck_minDf {X : Cx} {K : PySem.W.Frag} (hc : X.calm = true) (hu : X.A.units + 64 < cLine) (hK : X.K = K := by rfl) : CallRK X (.builtin "min") ["default"] (rMinDf K) := by
  subst hK
  intro pins s σ H xs zs us ws Q I r rz h
  obtain ⟨a, ns, d, rfl, rfl, hs, q⟩ := h
  rw [Vals.ref1 r]
  obtain ⟨dv, rfl, rd⟩ := rz.one
  obtain ⟨its, rv, hl, _⟩ := I.list hs
  obtain ⟨as, hr⟩ := Dp.readsAll I (ns.map .int) _ its (dp_I ns) rv
  refine PySem.W.min_list_default (I.ok.hd hc) hl.isList hr (alike_I ns) (by rw [depth_I]; omega) (fun e h' tk hk => ?_) fun y ys i v h' tk bs e hv hr' hk => ?_
  · have : ns = [] := by simpa using e
    subst this
    exact ⟨d, H, I.kept hk, rd, q⟩
  · cases ns with
    | nil => cases e
    | cons n r =>
      rw [List.map_cons] at e
      obtain ⟨rfl, rfl⟩ := List.cons.inj e
      rw [PySem.W.minD_ints] at hr'
      cases hr'
      exact ⟨.int _, H, I.kept hk, ⟨_, rfl⟩, q⟩
section
variable {K : PySem.W.Frag} {σ : L2.St} {H : Hp} {ta tb te : TE} {t : TT} {tr tk : TA} {d : V} {ns : List Int} {o : Option Int}
theorem ev_minDf (h : EvQ K te σ H (ns.map V.int)) (hd : Ev tb σ H d) : Ev (tCKw (rMinDf K) (tCons te tNil) (tCons tb tNil)) σ H (match lMin ns with | none => d | some i => .int i) := fun H1 e Q q =>
  h H1 e _ fun a H2 e2 hs => hd H2 (e.trans e2) _ fun H3 e3 => ⟨a, ns, d, rfl, rfl, (exl (K := K) e3 hs).q, q H3 (e2.trans e3)⟩
theorem ev_minN (h : EvQ K te σ H (ns.map V.int)) (hd : Ev tb σ H .non) : Ev (tCKw (rMinDf K) (tCons te tNil) (tCons tb tNil)) σ H (vO (lMin ns)) := by
  have := ev_minDf h hd
  cases hl : lMin ns with
  | none => rw [hl] at this; exact this
  | some i => rw [hl] at this; exact this
theorem vO_non : decide (vO o = .non) = o.isNone := by cases o <;> simp [vO]
theorem ev_isNoO (ha : Ev ta σ H (vO o)) (hb : Ev tb σ H .non) : Ev (tOp (rIsNo false) ta tb) σ H (.bl o.isNone) := Ev.is (ev_isNo ha hb) (by rw [vO_non])
theorem ev_isntNoO (ha : Ev ta σ H (vO o)) (hb : Ev tb σ H .non) : Ev (tOp (rIsNo true) ta tb) σ H (.bl o.isSome) := Ev.is (ev_isntNo ha hb) (by rw [vO_non]; cases o <;> rfl)
theorem ev_getO (ha : Ev ta σ H (vO o)) (h : o.isSome = true) : Ev ta σ H (.int (o.getD 0)) := Ev.is ha (by cases o with
  | none => cases h
  | some i => rfl)
end
section
variable {X : Cx} {K : PySem.W.Frag} {C : Hp → (Addr → Prop) → Hp → (Addr → Prop) → Prop} {M : Addr → Prop} {σ : L2.St} {H : Hp} {ta : TE} {j : Nat}
def iRev1 (ta : TE) : TI := iRevR (tRg1 ta)
theorem pi_rev1 {tg a : Expr} {p p2 pos pos2 : Pos} (hg : Gl X "reversed") (hm : X.mg "reversed" = none) (hg2 : Gl X "range") (hm2 : X.mg "range" = none) (ha : PE X a ta) (na : starEach [a] X.env = (false, eval a X.env) :: starEach [] X.env := by rfl)
    (hs : starEach [.Call (.Name "range" p2) [a] [] pos2] X.env = (false, eval (.Call (.Name "range" p2) [a] [] pos2) X.env) :: starEach [] X.env := by rfl) :
    PI X tg (.Call (.Name "reversed" p) [.Call (.Name "range" p2) [a] [] pos2] [] pos) (iRev1 ta) := pi_revR hg hm (prg_1 hg2 hm2 ha na) hs
theorem j_rev1 {n : Int} (h : Ev ta σ H (.int n)) (hn : -1000000 ≤ n ∧ n ≤ 1000000) : EvJ C M (iRev1 ta) (gName j) [j] σ H (List.range n.toNat) (fun (i : Nat) ρ => ρ.set j (st (uI (n - 1 - (i : Int))))) := fun H1 e R q => by
  unfold iRev1 iRevR tRg1
  refine h H1 e _ fun H2 e2 => ⟨n, rfl, by omega, by omega, by omega, by omega, q _ H2 (fun _ _ => True) e2 trivial (fun _ _ _ _ _ _ => trivial) ⟨fun i H M hi _ => ?_, fun H M _ => ?_, fun i H M x H' σ K hi _ y k => ?_⟩⟩
  · show i < (n - 0).toNat
    rw [List.length_range] at hi
    omega
  · show (n - 0).toNat ≤ _
    rw [List.length_range]
    omega
  · obtain ⟨e1, e3⟩ := y
    subst e1 e3
    rw [List.length_range] at hi
    simp only [List.getElem_range] at k
    have e4 : (0 : Int) + (((n - 0).toNat : Nat) : Int) - 1 + (i : Nat) * (-1) = n - 1 - (i : Int) := by omega
    rw [e4]
    exact k _ H' (Ex.refl _) (by simp) (fun _ h => set_at h) fun F Z ρ ok => ok.setR (Ex.refl _) (by unfold Rp; rfl)
end
end Ho
namespace Ho
open PySem PySem.Spec PyProof.Rows L2 Evl
def cA (mg : Str → Option Value) (x : Str) : Addr := match mg x with
  | some (.ref a) => a
  | _ => 0
/-- a class of the module -/
structure ClsAt (K : PySem.W.Frag) (mg : Str → Option Value) (x : Str) : Prop where
  at_ : mg x = some (.ref (cA mg x))
  cl : Cls K (cA mg x)
  ha : PySem.W.findIn K (.ref (cA mg x)) "__class__" = some (some (.builtin "object.__class__"))
  hn : PySem.W.specialIn K (.builtin "object.__class__") "__get__" = some (some (.builtin "getset_descriptor.__get__"))
  ht : PySem.W.takesIn K (.builtin "object.__class__") = some true
  hm : PySem.W.mroIn K (cA mg x) (.type "object") = some true
/-- a method of it -/
structure MethAt (K : PySem.W.Frag) (mg : Str → Option Value) (x m qual : Str) (st : Stmt) (ps : List Str) : Prop where
  ex : ∃ f fd, Meth K (cA mg x) m f ∧ Fun K m qual st f fd ∧ Binds K fd ps []
structure InitAt (K : PySem.W.Frag) (mg : Str → Option Value) (x qual : Str) (st : Stmt) (ps : List Str) : Prop where
  ex : ∃ f fd, Mk K (cA mg x) f ∧ Fun K "__init__" qual st f fd ∧ Binds K fd ps []
structure OkM (P : Program) (w : World) (K : PySem.W.Frag) (mg : Str → Option Value) (base : Heap) (CX : CXT) (C : Addr) (m : Str) (k : Nat) (sp : Sp) : Prop where
  ex : ∃ f fd ps, Meth K C m f ∧ Binds K fd ps [] ∧ FnOk P w K mg base CX k f fd ps sp
structure OkI (P : Program) (w : World) (K : PySem.W.Frag) (mg : Str → Option Value) (base : Heap) (CX : CXT) (C : Addr) (k : Nat) (sp : Sp) : Prop where
  ex : ∃ f fd ps, Mk K C f ∧ Binds K fd ps [] ∧ FnOk P w K mg base CX k f fd ps sp
section
variable {P : Program} {w : World} {K : PySem.W.Frag} {mg : Str → Option Value} {base : Heap}
theorem OkM.of {x m qual : Str} {st : Stmt} {ps N : List Str} {k : Nat} {sp : Sp} (D : MethAt K mg x m qual st ps) (Sc : FnScope N ps (defScope st)) (len : ∀ vs H Q E, sp vs H Q E → vs.length = ps.length)
    (hbody : ∀ (f : Addr) (cdv : Value) (A : Around) (outer : List Env) (s : Shared) (H : Hp) (vs : List V) (Q : VK) (E : XK), Room k (A.deeper (envOfC qual (defScope st) s.heap.objs.size f cdv)) → sp vs H Q E →
      ∃ t, PSs (cxOf CX0 P w K mg base N qual (defScope st) f cdv A outer s H E).nox (defBody st) t ∧ t { nx := fun _ H' => Q .non H', rt := Q } (start N vs) H) : OkM P w K mg base CX0 (cA mg x) m (k + 1) sp := by
  obtain ⟨f, fd, hm, F, b⟩ := D.ex
  exact ⟨f, fd, ps, hm, b, F.ok Sc len (hbody f)⟩
theorem OkI.of {x qual : Str} {st : Stmt} {ps N : List Str} {k : Nat} {sp : Sp} (D : InitAt K mg x qual st ps) (Sc : FnScope N ps (defScope st)) (len : ∀ vs H Q E, sp vs H Q E → vs.length = ps.length)
    (hbody : ∀ (f : Addr) (cdv : Value) (A : Around) (outer : List Env) (s : Shared) (H : Hp) (vs : List V) (Q : VK) (E : XK), Room k (A.deeper (envOfC qual (defScope st) s.heap.objs.size f cdv)) → sp vs H Q E →
      ∃ t, PSs (cxOf CX0 P w K mg base N qual (defScope st) f cdv A outer s H E).nox (defBody st) t ∧ t { nx := fun _ H' => Q .non H', rt := Q } (start N vs) H) : OkI P w K mg base CX0 (cA mg x) (k + 1) sp := by
  obtain ⟨f, fd, hm, F, b⟩ := D.ex
  exact ⟨f, fd, ps, hm, b, F.ok Sc len (hbody f)⟩
end
theorem OkM.mono {P : Program} {w : World} {K : PySem.W.Frag} {mg : Str → Option Value} {base : Heap} {CX : CXT} {C : Addr} {m : Str} {j k : Nat} {sp : Sp} (O : OkM P w K mg base CX C m j sp) (h : j ≤ k) : OkM P w K mg base CX C m k sp := by
  obtain ⟨f, fd, ps, h1, h2, h3⟩ := O.ex
  exact ⟨f, fd, ps, h1, h2, h3.mono h⟩
def tMethU (sel : Addr → Sp → Prop) (m : Str) (E : XK) (ta : TE) (t : TA) : TE := fun σ H Q => ta σ H fun x H1 => ∃ a C dx fs sp, x = .ref a ∧ H1 a = some (.ins C dx fs) ∧ fs.lookup m = none ∧ sel C sp ∧ t σ H1 fun vs H2 => sp (x :: vs) H2 Q E
section
variable {X : Cx} {CX : CXT} {j k : Nat} {sel : Addr → Sp → Prop} {E : XK} {m : Str} {p pos apos : Pos} {e o : Expr} {es : List Expr} {ta : TE} {t : TA}
theorem pe_methU {pl : Sem Bool} (hO : ∀ C sp, sel C sp → Cls X.K C ∧ OkM X.prog X.w X.K X.mg X.base CX C m k sp) (hr : Room j X.A) (hx : Passes CX X E) (he : PE X o ta) (ha : PA X (e :: es) t) (hk : k ≤ j := by decide)
    (hst : starEach (e :: es) X.env = (false, eval e X.env) :: starEach es X.env := by rfl) (hpl : (backTo pos (starEach es X.env)).any (·.1) = false := by rfl)
    (ht : eval (.Call (.Attribute o m apos) (e :: es) [] pos) X.env = (do
      let ov ← eval o X.env
      standAt apos.atName
      let (f, first) ← holding [ov] (getMethod ov m pl)
      callWith pos f first (backTo pos (starEach (e :: es) X.env)) (backToKw pos (keywordEach [] X.env))) := by rfl) :
    PE X (.Call (.Attribute o m apos) (e :: es) [] pos) (tMethU sel m E ta t) := by
  refine ⟨fun pins s σ H Q I h => ?_⟩
  refine PySem.W.methodCall_KW (pl := pl) (thn (he.run pins s σ H _ I h) fun u s1 ⟨x, H1, I1, rx, a, C, dx, fs, sp, ex, ea, l, hs, q⟩ => ?_) ht
  subst ex
  obtain rfl : u = Value.ref a := rx
  obtain ⟨c, f, fd, ps, hm, hb, F⟩ := hO C sp hs
  refine getmeth_ok I1 ea c hm l ?_
  refine PySem.W.callWith_K (first := [.ref a]) (h₀ := X.base) I.ok.mod.kin hm.kp (thn (ha.run pos pins s1 σ H1 _ I1 q) fun us s2 ⟨vs, H2, I2, r, q2⟩ => ⟨I2.kIn, ?_⟩) hst hpl
  exact run_fn (us := .ref a :: us) (vs := .ref a :: vs) F (hr.mono hk) hb .nil hx I2 (.cons rfl r) (by rw [List.append_nil]; exact q2)
theorem pe_methU0 {pl : Sem Bool} (hO : ∀ C sp, sel C sp → Cls X.K C ∧ OkM X.prog X.w X.K X.mg X.base CX C m k sp) (hr : Room j X.A) (hx : Passes CX X E) (he : PE X o ta) (hk : k ≤ j := by decide)
    (ht : eval (.Call (.Attribute o m apos) [] [] pos) X.env = (do
      let ov ← eval o X.env
      standAt apos.atName
      let (f, first) ← holding [ov] (getMethod ov m pl)
      callWith pos f first (backTo pos (starEach [] X.env)) (backToKw pos (keywordEach [] X.env))) := by rfl) :
    PE X (.Call (.Attribute o m apos) [] [] pos) (tMethU sel m E ta tNil) := by
  refine ⟨fun pins s σ H Q I h => ?_⟩
  refine PySem.W.methodCall_KW (pl := pl) (thn (he.run pins s σ H _ I h) fun u s1 ⟨x, H1, I1, rx, a, C, dx, fs, sp, ex, ea, l, hs, q⟩ => ?_) ht
  subst ex
  obtain rfl : u = Value.ref a := rx
  obtain ⟨c, f, fd, ps, hm, hb, F⟩ := hO C sp hs
  refine getmeth_ok I1 ea c hm l ?_
  exact PySem.W.callWith_K0 (first := [.ref a]) I1.kIn hm.kp (run_fn (us := [.ref a]) (vs := [.ref a]) F (hr.mono hk) hb .nil hx I1 (.cons rfl .nil) q)
end
theorem lookup_zip {ns : List Str} {m : Str} : ∀ {vs : List V}, m ∉ ns → (ns.zip vs).lookup m = none := by
  induction ns with
  | nil => intro vs _; rfl
  | cons n ns ih =>
    intro vs h
    cases vs with
    | nil => rfl
    | cons v vs =>
      rw [List.zip_cons_cons, List.lookup_cons]
      have : (m == n) = false := beq_eq_false_iff_ne.mpr fun e => h (by rw [e]; exact List.mem_cons_self)
      rw [this]
      exact ih fun z => h (List.mem_cons_of_mem _ z)
theorem lookup_zip_at {f : Str} : ∀ {j : Nat} {ns : List Str} {vs : List V}, ns[j]? = some f → f ∉ ns.take j → ns.length = vs.length → (ns.zip vs).lookup f = vs[j]?
  | j, [], vs, h, _, _ => by simp at h
  | j, n :: ns, [], h, _, hl => by simp at hl
  | 0, n :: ns, v :: vs, h, _, hl => by
    simp at h
    subst h
    rw [List.zip_cons_cons, List.lookup_cons]
    simp
  | j + 1, n :: ns, v :: vs, h, hn, hl => by
    rw [List.take_succ_cons, List.mem_cons, not_or] at hn
    rw [List.zip_cons_cons, List.lookup_cons]
    have : (f == n) = false := beq_eq_false_iff_ne.mpr hn.1
    rw [this]
    exact lookup_zip_at (j := j) (by simpa using h) hn.2 (by simpa using hl)
theorem putF_new {f : Str} {v : V} : ∀ {ns : List Str} {vs : List V}, f ∉ ns → ns.length = vs.length → putF f v (ns.zip vs) = (ns ++ [f]).zip (vs ++ [v])
  | [], [], _, _ => rfl
  | [], v :: vs, _, h => by simp at h
  | n :: ns, [], _, h => by simp at h
  | n :: ns, u :: vs, h, hl => by
    rw [List.zip_cons_cons]
    show (if n = f then _ else _) = _
    rw [if_neg fun e => h (by rw [e]; exact List.mem_cons_self), putF_new (fun z => h (List.mem_cons_of_mem _ z)) (by simpa using hl)]
    rfl
theorem putF_at {f : Str} {v : V} : ∀ {j : Nat} {ns : List Str} {vs : List V}, ns[j]? = some f → f ∉ ns.take j → ns.length = vs.length → putF f v (ns.zip vs) = ns.zip (vs.set j v)
  | j, [], vs, h, _, _ => by simp at h
  | j, n :: ns, [], h, _, hl => by simp at hl
  | 0, n :: ns, u :: vs, h, _, hl => by
    simp at h
    subst h
    rw [List.zip_cons_cons]
    show (if n = n then _ else _) = _
    rw [if_pos rfl]
    rfl
  | j + 1, n :: ns, u :: vs, h, hn, hl => by
    rw [List.take_succ_cons, List.mem_cons, not_or] at hn
    rw [List.zip_cons_cons]
    show (if n = f then _ else _) = _
    rw [if_neg fun e => hn.1 e.symm, putF_at (j := j) (by simpa using h) hn.2 (by simpa using hl)]
    rfl
def rdSl : Sl → Sl
  | .una => .una
  | .any => .any
  | .own d _ => .own d .sh
theorem OkL.rd {M : Addr → Prop} {H : Hp} : ∀ {ρ : List Sl} {σ : List (Option V)} {as : List Addr}, OkL M H ρ σ as → OkL Mo H (ρ.map rdSl) σ []
  | [], σ, as, h => ⟨h.1, rfl⟩
  | .una :: ρ, σ, as, ⟨r, e, t⟩ => ⟨r, e, OkL.rd t⟩
  | .any :: ρ, σ, as, ⟨x, r, e, t⟩ => ⟨x, r, e, OkL.rd t⟩
  | .own d p :: ρ, σ, as, ⟨v, r, bs, cs, e, ea, o, t⟩ => ⟨v, r, [], [], e, rfl, ow_sh.mpr ⟨rfl, o.rd⟩, OkL.rd t⟩
theorem Ok.rd {F : Addr → Prop} {Z : Hp → (Addr → Prop) → Prop} {ρ : List Sl} {σ : L2.St} {H : Hp} {M : Addr → Prop} (ok : Ok F Z ρ σ H M) : Ok Mo (fun _ _ => True) (ρ.map rdSl) σ H Mo := by
  obtain ⟨as, nd, own, sl⟩ := ok.sl
  exact ⟨⟨[], List.nodup_nil, (fun a ha => by cases ha), sl.rd⟩, fun a h => h.elim, fun a h => h, trivial, fun _ _ _ _ _ _ => trivial⟩
def spI (n : Nat) (R : (Addr → Prop) → List V → Hp → Addr → Dt → Pat → Prop) : Sp := fun vs H Q _ => vs.length = n + 1 ∧ ∃ F x dx C r d p, vs = .ref x :: r ∧ H x = some (.ins C dx []) ∧ Al F H ∧ ¬ F x ∧ R (Mb F [x]) r H C d p ∧
  ∀ bs H', (∀ a o, a ≠ x → H a = some o → H' a = some o) → bs.Nodup → (∀ b ∈ bs, b = x ∨ H b = none) → Ow (Mb F bs) H' d p (.ref x) bs → Q .non H'
def tMakeO (C : Addr) (sp : Sp) (E : XK) (t : TA) : TE := fun σ H Q => t σ H fun vs H1 => ∀ x dx, H1 x = none → H1 dx = none → dx ≠ x → sp (.ref x :: vs) (upd (upd H1 dx (.own x)) x (.ins C dx [])) (fun v H2 => v = .non ∧ Q (.ref x) H2) E
section
variable {X : Cx} {CX : CXT} {j k : Nat} {C : Addr} {sp : Sp} {E : XK} {x : Str} {p pos apos : Pos} {e o : Expr} {es : List Expr} {ta : TE} {t : TA}
theorem pe_makeO (O : OkI X.prog X.w X.K X.mg X.base CX C k sp) (hm : X.mg x = some (.ref C)) (hr : Room j X.A) (hg : Gl X x) (hx : Passes CX X E) (ha : PA X (e :: es) t) (hk : k + 1 ≤ j := by decide)
    (hdb : (x == ("__debug__" : Str)) = false := by decide) (he : starEach (e :: es) X.env = (false, eval e X.env) :: starEach es X.env := by rfl) (hpl : (backTo pos (starEach es X.env)).any (·.1) = false := by rfl) :
    PE X (.Call (.Name x p) (e :: es) [] pos) (tMakeO C sp E t) := by
  obtain ⟨f, fd, ps, M, hb, F⟩ := O.ex
  have := pe_make (pos := pos) (p := p) (x := x) M F (hr.mono hk) hg hm hb .nil hx ha hdb he hpl
  have e1 : tMake C sp [] E t = tMakeO C sp E t := by
    funext σ H Q
    unfold tMake tMakeO
    simp only [List.append_nil]
  rwa [e1] at this
end
section
variable {K : PySem.W.Frag} {F : Addr → Prop} {Z Z' : Hp → (Addr → Prop) → Prop} {ρ : List Sl} {σ : L2.St} {H H' Hb : Hp} {M Mx : Addr → Prop} {d : Dt} {p : Pat} {v w : V} {bs : List Addr} {i j : Nat} {ta tb tc te tl tv : TE} {t : TT} {s : Sh} {ds es : List Dt} {α β γ : Type} {tr : TA} {a b : Row} {D : Ends} {C : Addr} {ns : List Str} {f m : Str} {ps : List Pat} {Ps : List (V → Hp → Prop)} {E : XK} {tz : TS}
/-- o.f -/
theorem r_fld (dd : Dt) (h : EvN Mx ta σ H (.i C ns) ds) (hC : Cls K C) (hn : NoAttr K C f) (j : Nat) (hj : ns[j]? = some f) (ht : f ∉ ns.take j) (hl : ns.length = ds.length) : EvR Mx (tFld K ta f) σ H (ds.getD j dd) := fun H1 e Q q =>
  h H1 e _ fun v H2 e2 ⟨a, vs, hv, ⟨dx, ho, hz⟩, hr⟩ => by
    have hlt : j < ds.length := by rw [← hl]; exact (List.getElem?_eq_some_iff.mp hj).1
    obtain ⟨w, hw, hp⟩ := hr.at j (ds.getD j dd) (by rw [List.getD_eq_getElem?_getD, List.getElem?_eq_getElem hlt]; rfl)
    exact ⟨a, C, dx, ns.zip vs, w, hv, ho, hC, hn, by rw [lookup_zip_at hj ht hz]; exact hw, q w H2 e2 hp⟩
/-- calls -/
theorem p_methR {sel : Addr → Sp → Prop} {n : Nat} {R : (Addr → Prop) → List V → Hp → Dt → Pat → Prop} {ds : List Dt} (al : Al M H) (h0 : EvR M ta σ H (.node (.i C ns) ds)) (h : EvAG tr σ H Ps) (hs : sel C (spR (n + 1) R)) (hl : m ∉ ns) (hn : Ps.length = n)
    (hr : ∀ vs H1, AllP (isR M (.node (.i C ns) ds) :: Ps) vs H1 → R M vs H1 d p) : EvP M (tMethU sel m E ta tr) σ H d p := fun H1 e Q q =>
  h0 H1 e _ fun v H2 e2 r => by
    obtain ⟨a, vs, rfl, ⟨dx, ho, hz⟩, hrr⟩ := Rp.n r
    refine ⟨a, C, dx, _, _, rfl, ho, lookup_zip hl, hs, ?_⟩
    refine h H2 (e.trans e2) _ fun ws H3 e3 hp => ⟨by rw [List.length_cons, hp.length, hn], M, d, p, fun a ha z => al a ha (fresh_back ((e.trans e2).trans e3) z), hr _ _ ⟨_, ws, rfl, mon_R _ _ _ _ _ e3 r, hp⟩, fun v bs H4 e4 nd nn w => q v bs H4 ((e2.trans e3).trans e4) nd (fun b hb => fresh_back (e2.trans e3) (nn b hb)) w⟩
theorem allP_rpL {M : Addr → Prop} {H : Hp} : ∀ {ds : List Dt} {vs : List V}, AllP (ds.map (isR M)) vs H ↔ RpL M H ds vs
  | [], vs => by
    rw [List.map_nil]
    unfold RpL
    exact Iff.rfl
  | d :: ds, vs => by
    rw [List.map_cons]
    unfold RpL
    constructor
    · rintro ⟨v, r, e, h1, h2⟩
      exact ⟨v, r, e, h1, allP_rpL.mp h2⟩
    · rintro ⟨v, r, e, h1, h2⟩
      exact ⟨v, r, e, h1, allP_rpL.mpr h2⟩
theorem p_makeR {n : Nat} {R : (Addr → Prop) → List V → Hp → Addr → Dt → Pat → Prop} {ds : List Dt} (al : Al M H) (h : EvAG tr σ H (ds.map (isR M))) (hn : ds.length = n) (hr : ∀ M vs H1, AllP (ds.map (isR M)) vs H1 → R M vs H1 C d p) : EvP M (tMakeO C (spI n R) E tr) σ H d p := fun H1 e Q q =>
  h H1 e _ fun vs H2 e2 hp => fun x dx hx hdx hne => by
    have e3 : Ex H2 (upd (upd H2 dx (.own x)) x (.ins C dx [])) := (Ex.new hdx).trans (Ex.new (by rw [upd_ne (fun z => hne z.symm)]; exact hx))
    have hp2 : AllP (ds.map (isR (Mb M [x]))) vs (upd (upd H2 dx (.own x)) x (.ins C dx [])) := allP_rpL.mpr (RpL.go (Go.add e3 (by simpa using hx)) (allP_rpL.mp hp))
    refine ⟨by rw [List.length_cons, hp.length, List.length_map, hn], M, x, dx, C, vs, d, p, rfl, upd_same, fun a ha z => al a ha (fresh_back ((e.trans e2).trans e3) z), fun z => al x z (fresh_back (e.trans e2) hx), hr _ vs _ hp2, fun bs H4 k nd nn w => ⟨rfl, q _ bs H4 (e2.trans fun a o h => k a o (fun z => by rw [z, hx] at h; cases h) (e3 a o h)) nd (fun b hb => ?_) w⟩⟩
    rcases nn b hb with rfl | z
    · exact fresh_back e2 hx
    · exact fresh_back (e2.trans e3) z
theorem ow_new {x dx : Addr} (h : H x = some (.ins C dx [])) : Ow M H (.node (.i C []) []) (.fs []) (.ref x) [x] := by
  unfold Ow
  exact ⟨x, [], [], rfl, ⟨dx, h, rfl⟩, rfl, by unfold OwF; exact ⟨rfl, rfl, rfl⟩⟩
/-- self at the entry of an __init__ -/
theorem Ok.startI {x : Addr} (al : Al F H) (nf : ¬ F x) (hx : H x ≠ none) (sl : OkL (Mb F [x]) H ρ σ [x]) : Ok F (fun H' O' => Lt H (· = x) H' O') ρ σ H (Mb F [x]) :=
  ⟨⟨[x], by simp, (fun a ha => by rw [List.mem_singleton.mp ha]; exact ⟨.inr (by simp), nf⟩), sl⟩, fun a ha => by
    rcases ha with ha | ha
    · exact al a ha
    · rw [List.mem_singleton.mp ha]; exact hx, fun a ha => .inl ha, ⟨fun a o _ h => h, fun b hb => by
    rcases hb.1 with h | h
    · exact (hb.2 h).elim
    · exact .inl (by simpa using h)⟩, fun _ _ _ _ z l => z.trans l⟩
/-- o.f = e, a new field -/
theorem c_fld (ok : Ok F Z ρ σ H M) (hi : ρ[i]? = some (.own (.node (.i C ns) ds) (.fs ps))) (h : EvP M tv σ H d p) (hC : Cls K C) (hn : NoAttr K C f) (hf : f ∉ ns) (hz : ns.length < 1000)
    (k : ∀ M' H', Ok F Z (ρ.set i (.own (.node (.i C (ns ++ [f])) (ds ++ [d])) (.fs (ps ++ [p])))) σ H' M' → D.nx σ H') : sFld K (tVar i) tv f D σ H :=
  h H (Ex.refl _) _ fun y bs H1 e1 nd n w => by
    obtain ⟨as, and_, own, sl⟩ := ok.sl
    obtain ⟨v, cs, rs, h1, h2, h3, h4⟩ := sl.out hi
    unfold Ow at h2
    obtain ⟨a, vs, cs', rfl, ⟨dx, ho, hl⟩, rfl, f2⟩ := h2
    have nd2 := List.nodup_append.mp (h4.nodup_iff.mpr and_)
    have ndc := List.nodup_cons.mp nd2.1
    have ha := own a (h4.subset (by simp))
    have halloc : ∀ b ∈ as, H b ≠ none := sl.al
    have hab : a ∉ bs := fun z => ok.al a ha.1 (n a z)
    refine ⟨_, h1, a, C, dx, ns.zip vs, rfl, e1 _ _ ho, hC, hn, by rw [List.length_zip]; omega, ?_⟩
    rw [putF_new hf hl]
    have hM : ∀ b, Mb M bs b → H1 b ≠ none := fun b hb => by
      rcases hb with hb | hb
      · exact fun z => ok.al b hb (fresh_back e1 z)
      · exact w.al b hb
    have g1 : Go (Mb M bs) H1 (Mb M bs) (upd H1 a (.ins C dx ((ns ++ [f]).zip (vs ++ [y])))) := fun b u nb hb => ⟨by rw [upd_ne (fun z => nb (.inl (by rw [z]; exact ha.1)))]; exact hb, nb⟩
    have g0 : Go M H (Mb M bs) (upd H1 a (.ins C dx ((ns ++ [f]).zip (vs ++ [y])))) := fun b u nb hb => by
      have nb2 : ¬ Mb M bs b := fun z => by
        rcases z with z | z
        · exact nb z
        · rw [n b z] at hb; cases hb
      exact g1 b u nb2 (e1 b u hb)
    have keep : ∀ b, b ≠ a → ∀ o, H b = some o → upd H1 a (.ins C dx ((ns ++ [f]).zip (vs ++ [y]))) b = some o := fun b hb o h => by rw [upd_ne hb]; exact e1 b o h
    have sl' := h3.go g0 fun b hb u hu => keep b (fun z => nd2.2.2 a List.mem_cons_self b hb z.symm) u hu
    have f2' := f2.go g0 fun b hb u hu => keep b (fun z => ndc.1 (by rw [← z]; exact hb)) u hu
    have w' : Ow (Mb M bs) (upd H1 a (.ins C dx ((ns ++ [f]).zip (vs ++ [y])))) d p y bs := w.go g1 fun b hb u hu => by rw [upd_ne (fun z => hab (by rw [← z]; exact hb))]; exact hu
    have snoc : ∀ {ds : List Dt} {ps : List Pat} {vs : List V} {cs : List Addr} {H : Hp} {M : Addr → Prop}, OwF M H ds ps vs cs → Ow M H d p y bs → OwF M H (ds ++ [d]) (ps ++ [p]) (vs ++ [y]) (cs ++ bs) := by
      intro ds
      induction ds with
      | nil =>
        intro ps vs cs H M h w
        unfold OwF at h
        obtain ⟨rfl, rfl, rfl⟩ := h
        show OwF M H [d] [p] [y] bs
        unfold OwF
        exact ⟨p, [], y, [], bs, [], rfl, rfl, by simp, w, by unfold OwF; exact ⟨rfl, rfl, rfl⟩⟩
      | cons d0 ds ih =>
        intro ps vs cs H M h w
        unfold OwF at h
        obtain ⟨q, pr, u, r, b, c, rfl, rfl, rfl, h1, h2⟩ := h
        show OwF M H (d0 :: (ds ++ [d])) _ _ _
        unfold OwF
        exact ⟨q, pr ++ [p], u, r ++ [y], b, c ++ bs, rfl, rfl, by rw [List.append_assoc], h1, ih h2 w⟩
    have hi' : i < ρ.length := (List.getElem?_eq_some_iff.mp hi).1
    obtain ⟨as', k1, k2⟩ := OkL.back (d := .node (.i C (ns ++ [f])) (ds ++ [d])) (p := .fs (ps ++ [p])) (bs := a :: (cs' ++ bs)) (by
      unfold Ow
      exact ⟨a, vs ++ [y], cs' ++ bs, rfl, ⟨dx, upd_same, by simp [hl]⟩, rfl, snoc f2' w'⟩) hi' sl' h1
    refine k _ _ ⟨⟨as', ?_, fun b hb => ?_, k1⟩, fun b hb hnn => ?_, fun b hb => .inl (ok.fr b hb), ?_, ok.mz⟩
    · rw [k2.nodup_iff]
      have hbs : ∀ b ∈ bs, b ∉ as := fun b hb hb' => halloc b hb' (n b hb)
      have e1 : (a :: (cs' ++ bs) ++ rs).Perm (as ++ bs) := by
        refine List.Perm.trans ?_ (h4.append_right bs)
        show (a :: (cs' ++ bs) ++ rs).Perm ((a :: cs') ++ rs ++ bs)
        rw [show a :: (cs' ++ bs) ++ rs = (a :: cs') ++ (bs ++ rs) by simp, List.append_assoc]
        exact (List.perm_append_comm).append_left _
      rw [e1.nodup_iff, List.nodup_append]
      exact ⟨and_, nd, fun x hx y hy z => hbs y hy (by rw [← z]; exact hx)⟩
    · have hb := k2.subset hb
      rcases List.mem_append.mp hb with hb | hb
      · rcases List.mem_cons.mp hb with rfl | hb
        · exact ⟨.inl ha.1, ha.2⟩
        · rcases List.mem_append.mp hb with hb | hb
          · have := own b (h4.subset (by simp [hb]))
            exact ⟨.inl this.1, this.2⟩
          · exact ⟨.inr hb, fun z => ok.al b (ok.fr b z) (n b hb)⟩
      · have := own b (h4.subset (by simp [hb]))
        exact ⟨.inl this.1, this.2⟩
    · by_cases z : b = a
      · rw [z, upd_same] at hnn; cases hnn
      · rw [upd_ne z] at hnn
        exact hM b hb hnn
    · refine ok.mz _ _ _ _ ok.z ⟨fun b u nb hb => keep b (fun z => nb (by rw [z]; exact ha)) u hb, fun b hb => ?_⟩
      rcases hb.1 with h | h
      · exact .inl ⟨h, hb.2⟩
      · exact .inr (n b h)
theorem b_fld (ok : Ok F Z ρ σ H M) (hi : ρ[i]? = some (.own (.node (.i C ns) ds) (.fs ps))) (h : EvP M tv σ H d p) (hC : Cls K C) (hn : NoAttr K C f) (hf : f ∉ ns) (hz : ns.length < 1000)
    (k : ∀ M' H', Ok F Z (ρ.set i (.own (.node (.i C (ns ++ [f])) (ds ++ [d])) (.fs (ps ++ [p])))) σ H' M' → tz D σ H') : tSeq (sFld K (tVar i) tv f) tz D σ H := c_fld (D := { D with nx := tz D }) ok hi h hC hn hf hz k
/-- the end of an __init__ -/
theorem c_endI {x : Addr} {Q : VK} (ok : Ok F Z ρ σ H M) (hi : ρ[i]? = some (.own d p)) (hs : σ[i]? = some (some (.ref x)))
    (k : ∀ bs H', (∀ a o, a ≠ x → Hb a = some o → H' a = some o) → bs.Nodup → (∀ b ∈ bs, b = x ∨ Hb b = none) → Ow (Mb F bs) H' d p (.ref x) bs → Q .non H') (zz : ∀ H O, Z H O → Lt Hb (· = x) H O) : Q .non H := by
  obtain ⟨as, nd, own, sl⟩ := ok.sl
  obtain ⟨v, bs, cs, h1, h2, h3, h4⟩ := sl.out hi
  rw [h1] at hs
  obtain rfl := Option.some.inj (Option.some.inj hs)
  have l := zz _ _ ok.z
  have hb : ∀ b ∈ bs, M b ∧ ¬ F b := fun b hb => own b (h4.subset (List.mem_append_left _ hb))
  refine k bs H (fun a o n h => l.1 a o n h) (List.nodup_append.mp (h4.nodup_iff.mpr nd)).1 (fun b hbb => l.2 b (hb b hbb)) (h2.go (fun a o m h => ⟨h, fun z => m ?_⟩) fun _ _ _ h => h)
  rcases z with z | z
  · exact ok.fr a z
  · exact (hb a z).1
/-- isinstance(o, C) -/
theorem ev_isiO {x : Str} {mg : Str → Option Value} {c : V} {cc : Value} {bb : Bool} (h : EvN Mx ta σ H (.i (cA mg x) ns) ds) (T : ClsAt K mg x) (hb : Ev tb σ H c) (hc : ClsV c cc) (hk : PySem.W.kitOne K (.ref (cA mg x)) cc = some bb) : Ev (tCB (rIsi K) (tCons ta (tCons tb tNil))) σ H (.bl bb) := fun H1 e Q q =>
  h H1 e _ fun v H2 e2 ⟨a, vs, hv, ⟨dx, ho, hz⟩, hr⟩ => hb H2 (e.trans e2) _ fun H3 e3 => by
    subst hv
    exact ⟨.ref a, c, .ref (cA mg x), cc, bb, rfl, hc, .base (.ins (e3 _ _ ho) T.cl T.ha T.hn T.ht T.hm), hk, q H3 (e2.trans e3)⟩
end
end Ho
namespace Ho
open PySem PySem.Spec PyProof.Rows L2 Evl
abbrev uO (o : Option Int) : Dt := .sc (vO o)
theorem nd_map {α β : Type} {s : Sh} {f : β → Dt} {g : α → β} {l : List α} : Dt.node s (l.map fun x => f (g x)) = Dt.node s ((l.map g).map f) := by
  rw [List.map_map]
  rfl
section
variable {K : PySem.W.Frag} {F : Addr → Prop} {Z Z' : Hp → (Addr → Prop) → Prop} {ρ : List Sl} {σ : L2.St} {H H' Hb : Hp} {M Mx : Addr → Prop} {d d1 d2 d3 : Dt} {p p1 p2 p3 : Pat} {v w : V} {bs : List Addr} {i j l : Nat} {ta tb tc te tl tv : TE} {t : TT} {s : Sh} {ds es : List Dt} {α β γ : Type} {tr : TA} {a b : Row} {D : Ends} {tz : TS}
theorem p_rep {f : α → Dt} {xs : List α} {n : Int} (ha : EvN M ta σ H .l (xs.map f)) (hb : Ev tb σ H (.int n)) (h0 : -100000 ≤ n) (h1 : n ≤ 100000) (hz : xs.length * n.toNat ≤ 100000) : EvP M (tOp rRep ta tb) σ H (.node .l ((List.replicate n.toNat xs).flatten.map f)) (.ow .sh) := fun H1 e Q q =>
  ha H1 e _ fun v H2 e2 ⟨a, vs, hv, ho, hr⟩ => hb H2 (e.trans e2) _ fun H3 e3 => by
    subst hv
    refine ⟨a, n, _, rfl, rfl, e3 _ _ ho, by omega, by omega, by rw [hr.len, List.length_map]; exact sz_of hz, fun p hp => q _ [p] _ ((e2.trans e3).trans (Ex.new hp)) (by simp) (by simpa using fresh_back (e2.trans e3) hp) (ow_mu.mpr ⟨p, _, rfl, upd_same, rfl, RpL.go (Go.add (Ex.new hp) (by simpa using hp)) ?_⟩)⟩
    rw [List.map_flatten, List.map_replicate]
    exact (RpL.go (Go.ex e3) hr).rep _
theorem n_is {ds' : List Dt} (h : EvN M te σ H s ds) (e : ds = ds') : EvN M te σ H s ds' := e ▸ h
theorem c_par3 (ok : Ok F Z ρ σ H M) (h1 : EvP M ta σ H d1 p1) (h2 : ∀ M' σ' H', Ok F Z ρ σ' H' M' → EvP M' tb σ' H' d2 p2) (h3 : ∀ M' σ' H', Ok F Z ρ σ' H' M' → EvP M' tc σ' H' d3 p3)
    (k : ∀ M' σ' H', Ok F Z (((ρ.set i (.own d1 p1)).set j (.own d2 p2)).set l (.own d3 p3)) σ' H' M' → D.nx σ' H') : tPar3 i j l (tCons ta (tCons tb (tCons tc tNil))) D σ H :=
  h1 H (Ex.refl H) _ fun v bs H1 e nd n w => by
    have ok1 : Ok F Z ρ σ H1 (Mb M bs) := ok.more e n w.al
    refine h2 _ _ _ ok1 H1 (Ex.refl _) _ fun v2 bs2 H2 e2 nd2 n2 w2 => ?_
    have ok2 : Ok F Z ρ σ H2 (Mb (Mb M bs) bs2) := ok1.more e2 n2 w2.al
    refine h3 _ _ _ ok2 H2 (Ex.refl _) _ fun v3 bs3 H3 e3 nd3 n3 w3 => ⟨v, v2, v3, rfl, ?_⟩
    exact k _ _ _ (((ok.set (i := i) e nd n w).set (i := j) e2 nd2 n2 w2).set (i := l) e3 nd3 n3 w3)
theorem b_par3 (ok : Ok F Z ρ σ H M) (h1 : EvP M ta σ H d1 p1) (h2 : ∀ M' σ' H', Ok F Z ρ σ' H' M' → EvP M' tb σ' H' d2 p2) (h3 : ∀ M' σ' H', Ok F Z ρ σ' H' M' → EvP M' tc σ' H' d3 p3)
    (k : ∀ M' σ' H', Ok F Z (((ρ.set i (.own d1 p1)).set j (.own d2 p2)).set l (.own d3 p3)) σ' H' M' → tz D σ' H') : tSeq (tPar3 i j l (tCons ta (tCons tb (tCons tc tNil)))) tz D σ H := c_par3 (D := { D with nx := tz D }) ok h1 h2 h3 k
/-- a, b = e1, e2 by a tuple that is laid -/
theorem c_tup2 (ok : Ok F Z ρ σ H M) (h1 : EvP M ta σ H d1 p1) (h2 : ∀ M' σ' H', Ok F Z ρ σ' H' M' → EvP M' tb σ' H' d2 p2)
    (k : ∀ M' σ' H', Ok F Z ((ρ.set i (.own d1 p1)).set j (.own d2 p2)) σ' H' M' → D.nx σ' H') : tAsg (tTup (tCons ta (tCons tb tNil))) (gTup K 2 (gCons (gName i) (gCons (gName j) gNil))) D σ H :=
  h1 H (Ex.refl H) _ fun v bs H1 e nd n w => by
    have ok1 : Ok F Z ρ σ H1 (Mb M bs) := ok.more e n w.al
    refine h2 _ _ _ ok1 H1 (Ex.refl _) _ fun v2 bs2 H2 e2 nd2 n2 w2 => ⟨sz_of (by simp), fun T hT => ?_⟩
    exact gTup2n (st_of upd_same) (k _ _ _ (((ok.set (i := i) e nd n w).set (i := j) e2 nd2 n2 w2).ex (Ex.new hT)))
theorem b_tup2 (ok : Ok F Z ρ σ H M) (h1 : EvP M ta σ H d1 p1) (h2 : ∀ M' σ' H', Ok F Z ρ σ' H' M' → EvP M' tb σ' H' d2 p2)
    (k : ∀ M' σ' H', Ok F Z ((ρ.set i (.own d1 p1)).set j (.own d2 p2)) σ' H' M' → tz D σ' H') : tSeq (tAsg (tTup (tCons ta (tCons tb tNil))) (gTup K 2 (gCons (gName i) (gCons (gName j) gNil)))) tz D σ H := c_tup2 (D := { D with nx := tz D }) ok h1 h2 k
end
end Ho
namespace Ho
open PySem PySem.Spec PyProof.Rows L2 Evl
def rMinL (K : PySem.W.Frag) : List V → Hp → VK → Prop := fun vs H Q => ∃ a ns m, vs = [.ref a] ∧ SqL K H a (ns.map V.int) ∧ lMin ns = some m ∧ Q (.int m) H
theorem kcr_minL {X : Cx} {K : PySem.W.Frag} (hc : X.calm = true) (hu : X.A.units + 64 < cLine) (hK : X.K = K := by rfl) : CallR X (.builtin "min") (rMinL K) := by
  subst hK
  intro pins s σ H xs us Q I r h
  obtain ⟨a, ns, m, rfl, hs, hm, q⟩ := h
  rw [Vals.ref1 r]
  obtain ⟨its, rv, hl, _⟩ := I.list hs
  obtain ⟨as, hr⟩ := Dp.readsAll I (ns.map .int) _ its (dp_I ns) rv
  have hd := depth_I ns
  have ha := alike_I ns
  cases ns with
  | nil => cases hm
  | cons n r =>
    rw [List.map_cons] at hr ha hd
    refine PySem.W.min_list_data (I.ok.hd hc) hl.isList hr ha (by rw [hd]; omega) fun i v h' tk bs hv hr' hk => ?_
    rw [PySem.W.minD_ints] at hr'
    cases hm
    cases hr'
    exact ⟨.int _, H, I.kept hk, ⟨_, rfl⟩, q⟩
section
variable {K : PySem.W.Frag} {σ : L2.St} {H : Hp} {te : TE} {ns : List Int}
theorem lMin_get {ns : List Int} (h : ns ≠ []) : lMin ns = some ((lMin ns).getD 0) := by cases ns with
  | nil => exact absurd rfl h
  | cons a r => rfl
theorem ev_minQ (h : EvQ K te σ H (ns.map V.int)) (hn : ns ≠ []) : Ev (tCB (rMinL K) (tCons te tNil)) σ H (.int ((lMin ns).getD 0)) := fun H1 e Q q =>
  h H1 e _ fun a H2 e2 hs => ⟨a, ns, _, rfl, hs.q, lMin_get hn, q H2 e2⟩
end
theorem OwF.at {M : Addr → Prop} {H : Hp} : ∀ {ds : List Dt} {ps : List Pat} {vs : List V} {cs : List Addr}, OwF M H ds ps vs cs → ∀ (j : Nat) (d : Dt) (p : Pat), ds[j]? = some d → ps[j]? = some p →
    ∃ v b, vs[j]? = some v ∧ Ow M H d p v b ∧ (∀ a ∈ b, a ∈ cs) ∧ (cs.Nodup → b.Nodup) ∧
      ∀ H' d', cs.Nodup → Go M H M H' → (∀ x ∈ cs, x ∉ b → ∀ o, H x = some o → H' x = some o) → Ow M H' d' p v b → OwF M H' (ds.set j d') ps vs cs
  | [], ps, vs, cs, h, j, d, p, e, _ => by simp at e
  | d0 :: ds, ps, vs, cs, h, j, d, p, e, e' => by
    unfold OwF at h
    obtain ⟨p0, pr, v0, r, b0, c, rfl, rfl, rfl, h1, h2⟩ := h
    cases j with
    | zero =>
      simp at e e'
      subst e e'
      refine ⟨v0, b0, rfl, h1, fun a ha => List.mem_append_left _ ha, fun n => (List.nodup_append.mp n).1, fun H' d' n g k w => ?_⟩
      show OwF M H' (d' :: ds) _ _ _
      unfold OwF
      exact ⟨p0, pr, v0, r, b0, c, rfl, rfl, rfl, w, h2.go g fun x hx o ho => k x (List.mem_append_right _ hx) (fun z => (List.nodup_append.mp n).2.2 x z x hx rfl) o ho⟩
    | succ j =>
      obtain ⟨v, b, k1, k2, k3, k4, k5⟩ := OwF.at h2 j d p (by simpa using e) (by simpa using e')
      refine ⟨v, b, by simpa using k1, k2, fun a ha => List.mem_append_right _ (k3 a ha), fun n => k4 (List.nodup_append.mp n).2.1, fun H' d' n g k w => ?_⟩
      show OwF M H' (d0 :: ds.set j d') _ _ _
      unfold OwF
      exact ⟨p0, pr, v0, r, b0, c, rfl, rfl, rfl, h1.go g fun x hx o ho => k x (List.mem_append_left _ hx) (fun z => (List.nodup_append.mp n).2.2 x hx x (k3 x z) rfl) o ho,
        k5 H' d' (List.nodup_append.mp n).2.1 g (fun x hx hb => k x (List.mem_append_right _ hx) hb) w⟩
/-- to tells the part d (owned by p) of what slot i owns; W: the whole with a new part -/
def Rch (to : TE) (σ : L2.St) (H : Hp) (M : Addr → Prop) (i : Nat) (d0 : Dt) (p0 : Pat) (d : Dt) (p : Pat) (W : Dt → Dt) : Prop :=
  ∀ v0 bs0, σ[i]? = some (some v0) → Ow M H d0 p0 v0 bs0 → bs0.Nodup → ∃ v b, (∀ H1, Ex H H1 → ∀ Q : VK, (∀ H2, Ex H1 H2 → Q v H2) → to σ H1 Q) ∧ Ow M H d p v b ∧ b.Nodup ∧ (∀ x ∈ b, x ∈ bs0) ∧
    ∀ H1 d', Go M H M H1 → (∀ x ∈ bs0, x ∉ b → ∀ o, H x = some o → H1 x = some o) → Ow M H1 d' p v b → Ow M H1 (W d') p0 v0 bs0
section
variable {K : PySem.W.Frag} {F : Addr → Prop} {Z : Hp → (Addr → Prop) → Prop} {ρ : List Sl} {σ : L2.St} {H : Hp} {M : Addr → Prop} {d d0 : Dt} {p p0 : Pat} {i j n : Nat} {to tb te : TE} {s : Sh} {ds : List Dt} {α : Type} {D : Ends} {C : Addr} {ns : List Str} {f : Str} {ps : List Pat} {tz : TS} {W : Dt → Dt}
theorem Rch.var : Rch (tVar i) σ H M i d p d p id := fun v0 bs0 e w nd => ⟨v0, bs0, fun H1 e1 Q q => ⟨v0, e, q H1 (Ex.refl _)⟩, w, nd, fun _ h => h, fun _ _ _ _ h => h⟩
theorem Rch.fld (h : Rch to σ H M i d0 p0 (.node (.i C ns) ds) (.fs ps) W) (hC : Cls K C) (hn : NoAttr K C f) (j : Nat) (hj : ns[j]? = some f) (ht : f ∉ ns.take j) (hd : ds[j]? = some d) (hp : ps[j]? = some p) :
    Rch (tFld K to f) σ H M i d0 p0 d p (fun x => W (.node (.i C ns) (ds.set j x))) := fun v0 bs0 e0 w0 nd => by
  obtain ⟨v, b, ev, w, nb, sub, put⟩ := h v0 bs0 e0 w0 nd
  unfold Ow at w
  obtain ⟨a, vs, cs, rfl, ⟨dx, ho, hl⟩, rfl, f2⟩ := w
  obtain ⟨vj, bj, k1, k2, k3, k4, k5⟩ := f2.at j d p hd hp
  have nc := List.nodup_cons.mp nb
  refine ⟨vj, bj, fun H1 e Q q => ev H1 e _ fun H2 e2 => ⟨a, C, dx, ns.zip vs, vj, rfl, (e.trans e2) _ _ ho, hC, hn, by rw [lookup_zip_at hj ht hl]; exact k1, q H2 e2⟩, k2, k4 nc.2, fun x hx => sub x (List.mem_cons_of_mem _ (k3 x hx)), fun H1 d' g k w' =>
    put H1 _ g (fun x hx hxb => k x hx (fun z => hxb (List.mem_cons_of_mem _ (k3 x z)))) ?_⟩
  unfold Ow
  exact ⟨a, vs, cs, rfl, ⟨dx, k a (sub a List.mem_cons_self) (fun z => nc.1 (k3 a z)) _ ho, hl⟩, rfl, k5 H1 d' nc.2 g (fun x hx hxb => k x (sub x (List.mem_cons_of_mem _ hx)) hxb) w'⟩
/-- the object told is changed -/
theorem Ok.reach (ok : Ok F Z ρ σ H M) (h : ρ[i]? = some (.own d0 p0)) (R : Rch to σ H M i d0 p0 (.node s ds) (.ow .sh) W) : ∃ a vs, (∀ H1, Ex H H1 → ∀ Q : VK, (∀ H2, Ex H1 H2 → Q (.ref a) H2) → to σ H1 Q) ∧ ObAt H s a vs ∧ RpL M H ds vs ∧
    ∀ H1, Ex H H1 → ∀ (o : HO) (s' : Sh) (ds' : List Dt) (vs' : List V), ObAt (upd H1 a o) s' a vs' → RpL M H1 ds' vs' → Ok F Z (ρ.set i (.own (W (.node s' ds')) p0)) σ (upd H1 a o) M := by
  obtain ⟨as, nd, own, sl⟩ := ok.sl
  obtain ⟨v0, bs, cs, h1, h2, h3, h4⟩ := sl.out h
  have nd2 := List.nodup_append.mp (h4.nodup_iff.mpr nd)
  obtain ⟨v, b, ev, w, nb, sub, put⟩ := R v0 bs h1 h2 nd2.1
  obtain ⟨a, vs, rfl, ob, rfl, r⟩ := ow_mu.mp w
  refine ⟨a, vs, ev, ob, r, fun H1 e o s' ds' vs' ob' r' => ?_⟩
  have hab : a ∈ bs := sub a (List.mem_singleton.mpr rfl)
  have ha := own a (h4.subset (List.mem_append_left _ hab))
  have g : Go M H1 M (upd H1 a o) := fun b u n hb => ⟨by rw [upd_ne (fun z => n (by rw [z]; exact ha.1))]; exact hb, n⟩
  have g0 : Go M H M (upd H1 a o) := fun b u n hb => g b u n (e b u hb)
  have hi : i < ρ.length := (List.getElem?_eq_some_iff.mp h).1
  have sl' := h3.go g0 fun b hb u hu => by
    rw [upd_ne (fun z => nd2.2.2 a hab b hb z.symm)]
    exact e b u hu
  obtain ⟨as', k1, k2⟩ := OkL.back (bs := bs) (put (upd H1 a o) (.node s' ds') g0 (fun x hx hxb u hu => by
    rw [upd_ne (fun z => hxb (by rw [z]; exact List.mem_singleton.mpr rfl))]
    exact e x u hu) (ow_mu.mpr ⟨a, vs', rfl, ob', rfl, r'.go g⟩)) hi sl' h1
  refine ⟨⟨as', by rw [k2.nodup_iff]; exact h4.nodup_iff.mpr nd, fun b hb => own b (h4.subset (k2.subset hb)), k1⟩, fun b hb hn => ?_, ok.fr, ?_, ok.mz⟩
  · by_cases z : b = a
    · rw [z, upd_same] at hn; cases hn
    · rw [upd_ne z] at hn
      exact ok.al b hb (fresh_back e hn)
  · exact ok.mz _ _ _ _ ok.z ⟨fun b u n hb => by rw [upd_ne (fun z => n (by rw [z]; exact ha))]; exact e b u hb, fun b hb => .inl hb⟩
end
end Ho
namespace Ho
open PySem PySem.Spec PyProof.Rows L2 Evl
section
variable {α β : Type} [DecidableEq α]
def lookG (r : List (α × β)) (k : α) : Option β := (r.find? fun p => decide (p.1 = k)).map (·.2)
def putG (r : List (α × β)) (k : α) (v : β) : List (α × β) := if (r.any fun p => decide (p.1 = k)) = true then r.map (fun p => if p.1 = k then (p.1, v) else p) else r ++ [(k, v)]
theorem lookG_nil {k : α} : lookG ([] : List (α × β)) k = none := rfl
theorem lookG_cons {p : α × β} {r : List (α × β)} {k : α} : lookG (p :: r) k = if p.1 = k then some p.2 else lookG r k := by
  unfold lookG
  by_cases h : p.1 = k
  · simp [h]
  · simp [h]
theorem lookG_any {k : α} : ∀ {r : List (α × β)}, (r.any fun p => decide (p.1 = k)) = (lookG r k).isSome
  | [] => rfl
  | p :: r => by
    rw [List.any_cons, lookG_cons, lookG_any (r := r)]
    by_cases h : p.1 = k
    · simp [h]
    · simp [h]
theorem lookG_app {k : α} {r s : List (α × β)} : lookG (r ++ s) k = (lookG r k).or (lookG s k) := by
  induction r with
  | nil => simp [lookG_nil]
  | cons p r ih =>
    rw [List.cons_append, lookG_cons, lookG_cons, ih]
    split <;> simp
theorem putG_new {r : List (α × β)} {k : α} {v : β} (h : lookG r k = none) : putG r k v = r ++ [(k, v)] := by
  unfold putG
  rw [lookG_any, h]
  rfl
theorem putG_old {r : List (α × β)} {k : α} {v : β} (h : (lookG r k).isSome = true) : putG r k v = r.map (fun p => if p.1 = k then (p.1, v) else p) := by
  unfold putG
  rw [lookG_any, h, if_pos rfl]
theorem putG_len (r : List (α × β)) (k : α) (v : β) : (putG r k v).length ≤ r.length + 1 := by
  unfold putG
  split <;> simp
theorem putG_keys (r : List (α × β)) (k : α) (v : β) : (putG r k v).map (·.1) = if (lookG r k).isSome then r.map (·.1) else r.map (·.1) ++ [k] := by
  cases h : lookG r k with
  | none => rw [putG_new h]; simp
  | some b =>
    rw [putG_old (by rw [h]; rfl), List.map_map]
    show _ = r.map (·.1)
    refine List.map_congr_left fun p _ => ?_
    show (if p.1 = k then (p.1, v) else p).1 = p.1
    split <;> rfl
theorem lookG_mem {k : α} {v : β} : ∀ {r : List (α × β)}, lookG r k = some v → (k, v) ∈ r
  | [], h => by cases h
  | p :: r, h => by
    rw [lookG_cons] at h
    split at h
    · rename_i e
      cases h
      subst e
      exact List.mem_cons_self
    · exact List.mem_cons_of_mem _ (lookG_mem h)
end
section
variable {α β : Type} [DecidableEq α] {κ : α → Key} {f : β → Dt} {M : Addr → Prop} {H : Hp}
theorem valK (hκ : ∀ a b, κ a = κ b → a = b) {k : α} : ∀ {r : List (α × β)} {vs : List V}, RpL M H (r.map fun p => f p.2) vs → match lookG r k with
    | none => valV ((r.map fun p => κ p.1).zip vs) (κ k) = none
    | some b => ∃ v, valV ((r.map fun p => κ p.1).zip vs) (κ k) = some v ∧ Rp M H (f b) v
  | [], vs, h => rfl
  | p :: r, vs, h => by
    rw [List.map_cons] at h
    unfold RpL at h
    obtain ⟨v, w, rfl, h1, h2⟩ := h
    rw [List.map_cons, List.zip_cons_cons, lookG_cons]
    by_cases e : p.1 = k
    · rw [if_pos e]
      exact ⟨v, valV_pos (by rw [e]), h1⟩
    · rw [if_neg e, valV_neg (fun z => e (hκ _ _ z))]
      exact valK hκ h2
theorem valK_none (hκ : ∀ a b, κ a = κ b → a = b) {k : α} {r : List (α × β)} {vs : List V} (h : RpL M H (r.map fun p => f p.2) vs) (hn : lookG r k = none) : valV ((r.map fun p => κ p.1).zip vs) (κ k) = none := by
  have := valK hκ (k := k) h
  rw [hn] at this
  exact this
theorem valK_some (hκ : ∀ a b, κ a = κ b → a = b) {k : α} {b : β} {r : List (α × β)} {vs : List V} (h : RpL M H (r.map fun p => f p.2) vs) (hn : lookG r k = some b) : ∃ v, valV ((r.map fun p => κ p.1).zip vs) (κ k) = some v ∧ Rp M H (f b) v := by
  have := valK hκ (k := k) h
  rw [hn] at this
  exact this
theorem valK_is (hκ : ∀ a b, κ a = κ b → a = b) {k : α} {r : List (α × β)} {vs : List V} (h : RpL M H (r.map fun p => f p.2) vs) : (valV ((r.map fun p => κ p.1).zip vs) (κ k)).isSome = (lookG r k).isSome := by
  cases hn : lookG r k with
  | none => rw [valK_none hκ h hn]; rfl
  | some b =>
    obtain ⟨v, e, _⟩ := valK_some hκ h hn
    rw [e]; rfl
/-- the dict with an item put -/
theorem putK_is (hκ : ∀ a b, κ a = κ b → a = b) {k : α} {b : β} {v : V} (hv : Rp M H (f b) v) {r : List (α × β)} {vs : List V} (h : RpL M H (r.map fun p => f p.2) vs) :
    ∃ vs', putK ((r.map fun p => κ p.1).zip vs) (κ k) v = ((putG r k b).map fun p => κ p.1).zip vs' ∧ RpL M H ((putG r k b).map fun p => f p.2) vs' := by
  have hany : (((r.map fun p => κ p.1).zip vs).any fun kv => decide (kv.1 = κ k)) = (r.any fun p => decide (p.1 = k)) := by
    rw [valV_any, valK_is hκ h, lookG_any]
  unfold putK putG
  rw [hany]
  by_cases c : (r.any fun p => decide (p.1 = k)) = true
  · rw [if_pos c, if_pos c]
    clear c hany
    induction r generalizing vs with
    | nil =>
      unfold RpL at h
      subst h
      exact ⟨[], rfl, by unfold RpL; rfl⟩
    | cons p r ih =>
      rw [List.map_cons] at h
      unfold RpL at h
      obtain ⟨v0, w, rfl, h1, h2⟩ := h
      obtain ⟨vs', e1, e2⟩ := ih h2
      rw [List.map_cons, List.zip_cons_cons, List.map_cons, e1]
      by_cases e : p.1 = k
      · refine ⟨v :: vs', ?_, ?_⟩
        · simp [e]
        · rw [List.map_cons, List.map_cons]
          unfold RpL
          exact ⟨v, vs', rfl, by simp [e]; exact hv, e2⟩
      · have e' : ¬ κ p.1 = κ k := fun z => e (hκ _ _ z)
        refine ⟨v0 :: vs', ?_, ?_⟩
        · simp [e, e']
        · rw [List.map_cons, List.map_cons]
          unfold RpL
          exact ⟨v0, vs', rfl, by simp [e]; exact h1, e2⟩
  · rw [if_neg c, if_neg c]
    refine ⟨vs ++ [v], ?_, ?_⟩
    · rw [List.map_append, List.zip_append (by rw [List.length_map, h.len, List.length_map])]
      rfl
    · rw [List.map_append]
      exact h.app (RpL.one hv)
end
theorem inS_inj (a b : Row) (h : (Sum.inr (S a) : Key) = Sum.inr (S b)) : a = b := keyS_eq.mp h
theorem inI_inj (a b : Int) (h : (Sum.inl a : Key) = Sum.inl b) : a = b := Sum.inl.inj h
section
variable {K : PySem.W.Frag} {F : Addr → Prop} {Z : Hp → (Addr → Prop) → Prop} {ρ : List Sl} {σ : L2.St} {H : Hp} {M : Addr → Prop} {d d0 : Dt} {p p0 : Pat} {i j n : Nat} {to ta tb te : TE} {α β : Type} {D : Ends} {tz : TS} {W : Dt → Dt} {f : β → Dt}
theorem c_putI {r : List (Int × β)} {a : Int} {b : β} (ok : Ok F Z ρ σ H M) (hi : ρ[i]? = some (mu (uDI f r))) (h : EvR M te σ H (f b)) (hk : Ev tb σ H (.int a)) (hz : r.length < 100000)
    (k : ∀ M' σ' H', Ok F Z (ρ.set i (mu (uDI f (putG r a b)))) σ' H' M' → D.nx σ' H') : sDPut (tVar i) tb te D σ H := by
  obtain ⟨x, vs, h1, h2, h3, h4⟩ := ok.mut hi
  refine h H (Ex.refl _) _ fun v H1 e1 r1 => ⟨.ref x, h1, ?_⟩
  refine hk H1 e1 _ fun H2 e2 => ⟨x, _, rfl, DPut.k (k := Sum.inl a) ((e1.trans e2) _ _ h2.1) (by rw [List.length_zip, h3.len]; simp; exact sz_lt hz), ?_⟩
  have h3' := RpL.go (Go.ex (M := M) (e1.trans e2)) h3
  obtain ⟨vs', e3, e4⟩ := putK_is (κ := fun x : Int => Sum.inl x) inI_inj (k := a) (mon_R _ _ _ _ _ e2 r1) h3'
  rw [e3]
  exact k _ _ _ (h4 H2 (e1.trans e2) _ (.d ((putG r a b).map fun p => .inl p.1)) _ vs' ⟨upd_same, by rw [e4.len]; simp⟩ e4)
def setG [DecidableEq α] (r : List (α × β)) (k : α) (v : β) : List (α × β) := if (lookG r k).isSome then r else r ++ [(k, v)]
theorem c_setdS {r : List (Row × β)} {a : Row} {b : β} (ok : Ok F Z ρ σ H M) (hi : ρ[i]? = some (mu (uDS f r))) (h : EvR M te σ H (f b)) (hk : Ev tb σ H (VS a)) (hz : r.length < 100000)
    (k : ∀ M' σ' H', Ok F Z (ρ.set i (mu (uDS f (setG r a b)))) σ' H' M' → D.nx σ' H') : tDrop (tDSetd (tVar i) tb te) D σ H := by
  obtain ⟨x, vs, h1, h2, h3, h4⟩ := ok.mut hi
  refine ⟨.ref x, h1, x, rfl, .inl ⟨_, .inl h2.1⟩, ?_⟩
  refine hk H (Ex.refl _) _ fun H1 e1 => h H1 e1 _ fun v H2 e2 r1 => ⟨_, Sum.inr (S a), (e1.trans e2) _ _ h2.1, rfl, by rw [List.length_zip, h3.len]; simp; exact sz_lt hz, ?_, ?_⟩
  · intro u hu
    have : lookG r a ≠ none := fun hn => by rw [valK_none (κ := fun x : Row => Sum.inr (S x)) inS_inj h3 hn] at hu; cases hu
    have e : setG r a b = r := by
      unfold setG
      rw [if_pos (by cases hl : lookG r a with
        | none => exact absurd hl this
        | some b => rfl)]
    refine k M σ H2 ?_
    rw [e, show ρ.set i (mu (uDS f r)) = ρ from by
      obtain ⟨hl, he⟩ := List.getElem?_eq_some_iff.mp hi
      rw [← he]
      exact List.set_getElem_self hl]
    exact ok.ex (e1.trans e2)
  · intro hn
    have hl : lookG r a = none := by
      cases hl : lookG r a with
      | none => rfl
      | some c =>
        obtain ⟨w, e, _⟩ := valK_some (κ := fun x : Row => Sum.inr (S x)) inS_inj h3 hl
        rw [e] at hn
        cases hn
    have h3' := RpL.go (Go.ex (M := M) (e1.trans e2)) h3
    obtain ⟨vs', e3, e4⟩ := putK_is (κ := fun x : Row => Sum.inr (S x)) inS_inj (k := a) r1 h3'
    have e : setG r a b = putG r a b := by unfold setG; rw [putG_new hl, hl]; rfl
    rw [← e] at e3 e4
    rw [e3]
    exact k _ _ _ (h4 H2 (e1.trans e2) _ (.d ((setG r a b).map fun p => .inr (S p.1))) _ vs' ⟨upd_same, by rw [e4.len]; simp⟩ e4)
theorem p_nilDI : EvD te σ H [] → EvP M te σ H (uDI f []) (.ow .sh) := fun h H1 e Q q => h H1 e Q fun p H2 hp e2 h2 => q _ [p] H2 e2 (by simp) (by simpa using hp) (ow_mu.mpr ⟨p, [], rfl, ⟨h2, rfl⟩, rfl, by simp [RpL]⟩)
theorem sorted_perm : ∀ {a b : List Int}, a.Perm b → a.Pairwise (· ≤ ·) → b.Pairwise (· ≤ ·) → a = b
  | [], b, h, _, _ => (List.Perm.nil_eq h)
  | x :: a, [], h, _, _ => by simp at h
  | x :: a, y :: b, h, ha, hb => by
    rw [List.pairwise_cons] at ha hb
    have hx : y ≤ x := by
      rcases List.mem_cons.mp (h.subset List.mem_cons_self) with e | e
      · omega
      · exact hb.1 x e
    have hy : x ≤ y := by
      rcases List.mem_cons.mp (h.symm.subset List.mem_cons_self) with e | e
      · omega
      · exact ha.1 y e
    have e : x = y := by omega
    subst e
    rw [sorted_perm (List.Perm.cons_inv h) ha.2 hb.2]
def rSortedDI : List V → Hp → VK → Prop := fun xs H Q => ∃ (a : Addr) (kvs : List (Key × V)) (ks : List Int), xs = [.ref a] ∧ Rd H a (.dK kvs) ∧ kvs.map (·.1) = ks.map Sum.inl ∧ ks.length < 64 ∧
    ∀ (ys : List Int) (p : Addr), ys.Perm ks → ys.Pairwise (· ≤ ·) → H p = none → Q (.ref p) (upd H p (.lst (ys.map V.int)))
theorem cr_sortedDI {X : Cx} (hcalm : X.calm = true) : CallR X (.builtin "sorted") rSortedDI := call_sortedDI hcalm
theorem p_sortedDI {Mx : Addr → Prop} {r : List (Int × β)} {ns : List Int} (h : EvN Mx te σ H (.d (r.map fun p => .inl p.1)) (r.map fun p => f p.2)) (hn : r.length < 64) (hp : ns.Perm (r.map (·.1))) (hs : ns.Pairwise (· ≤ ·)) : EvP M (tCB rSortedDI (tCons te tNil)) σ H (uL uI ns) (.ow .sh) := fun H1 e Q q =>
  h H1 e _ fun v H2 e2 ⟨x, vs, ev, ho, hr⟩ => ⟨x, _, r.map (·.1), by rw [ev], .inl ho.1, by
    rw [show (List.zip (r.map fun p => (Sum.inl p.1 : Key)) vs).map (·.1) = r.map fun p => (Sum.inl p.1 : Key) from List.map_fst_zip (by rw [hr.len]; simp), List.map_map]
    rfl, by rw [List.length_map]; exact hn, fun ys b h1 h2 hb => by
    have e3 : ys = ns := sorted_perm (h1.trans hp.symm) h2 hs
    subst e3
    exact q _ [b] _ (e2.trans (Ex.new hb)) (by simp) (by simpa using fresh_back e2 hb) (ow_mu.mpr ⟨b, ys.map V.int, rfl, upd_same, rfl, rpL_sc.mpr rfl⟩)⟩
end
end Ho
namespace Ho
open PySem PySem.Spec PyProof.Rows L2 Evl
def kyV : Value → Key
  | .int k _ => .inl k
  | .str x _ => .inr x
  | _ => .inl 0
theorem kyV_of {k : Key} {v : Value} (h : keyIs k v = true) : kyV v = k := by
  rcases keyIs_shape h with ⟨i, t, rfl, rfl⟩ | ⟨x, t, rfl, rfl⟩
  · rfl
  · rfl
theorem keyScan {k : Key} {v : Value} (h : keyIs k v = true) : v.scannable = true := by
  rcases keyIs_shape h with ⟨i, t, rfl, rfl⟩ | ⟨x, t, rfl, rfl⟩
  · rfl
  · rfl
/-- entries and table of a set whose keys are L -/
structure KD (w : World) (es : Array (Int × Value)) (t : SetTable) (L : List Key) : Prop where
  el : ∀ e ∈ es.toList, keyIs (kyV e.2) e.2 = true ∧ e.1 = keyH w (kyV e.2)
  pm : (es.toList.map fun e => kyV e.2).Perm L
  nd : L.Nodup
  sm : es.size < scanBound
  ft : t.fits es.size = true
  ri : Ris t.place.toList
  ld : w.params.followText "set-order" = true ∨ t.led = true
def KSt (w : World) (h : Heap) (a : Addr) (L : List Key) : Prop := ∃ o es ep t, h.get? a = some o ∧ o.ExactSet ∧ o.data = .set es ep t ∧ KD w es t L
def insK (L : List Key) (k : Key) : List Key := if (L.any fun x => decide (x = k)) = true then L else L ++ [k]
theorem any_key {L : List Key} {k : Key} : (L.any fun x => decide (x = k)) = true ↔ k ∈ L := by
  rw [List.any_eq_true]
  constructor
  · rintro ⟨x, hx, e⟩
    rw [← of_decide_eq_true e]
    exact hx
  · intro h
    exact ⟨k, h, decide_eq_true rfl⟩
theorem insK_in {L : List Key} {k : Key} (h : k ∈ L) : insK L k = L := if_pos (any_key.mpr h)
theorem insK_ni {L : List Key} {k : Key} (h : k ∉ L) : insK L k = L ++ [k] := if_neg fun z => h (any_key.mp z)
def dedK (ks : List Key) : List Key := ks.foldl insK []
section
variable {P : Program} {w : World} {A : Around} {E : Value → Shared → Prop} {s : Shared} {a : Addr} {L : List Key} {h h' : Heap} {es es1 : Array (Int × Value)} {t t1 : SetTable} {k : Key} {x : Value}
theorem KD.elems (d : KD w es t L) : ElemsOf (mixKind P w) es.toList := fun e he => ⟨⟨kyV e.2, (d.el e he).1, (d.el e he).2⟩, keyScan (d.el e he).1⟩
theorem KD.re (d : KD w es t L) (p : es1.toList.Perm es.toList) (f : t1.fits es1.size = true) (r : Ris t1.place.toList) (l : t1.led = t.led) : KD w es1 t1 L := by
  have z : es1.size = es.size := by rw [← Array.length_toList, p.length_eq, Array.length_toList]
  exact ⟨fun e he => d.el e (p.subset he), (p.map _).trans d.pm, d.nd, by rw [z]; exact d.sm, f, r, d.ld.imp id fun q => by rw [l]; exact q⟩
theorem KD.push (d : KD w es t L) (hk : keyIs k x = true) (nk : k ∉ L) (p : es1.toList.Perm (es.toList ++ [(keyH w k, x)])) (sm : es1.size < scanBound) (f : t1.fits es1.size = true) (r : Ris t1.place.toList) (l : t1.led = t.led) : KD w es1 t1 (L ++ [k]) := by
  refine ⟨fun e he => ?_, ?_, ?_, sm, f, r, d.ld.imp id fun q => by rw [l]; exact q⟩
  · rcases List.mem_append.mp (p.subset he) with z | z
    · exact d.el e z
    · rw [List.mem_singleton.mp z]
      show keyIs (kyV x) x = true ∧ keyH w k = keyH w (kyV x)
      rw [kyV_of hk]
      exact ⟨hk, rfl⟩
  · refine (p.map _).trans ?_
    rw [List.map_append]
    show List.Perm (_ ++ [kyV x]) _
    rw [kyV_of hk]
    exact d.pm.append_right _
  · rw [List.nodup_append]
    exact ⟨d.nd, by simp, fun u hu v hv z => nk (by rw [← List.mem_singleton.mp hv, ← z]; exact hu)⟩
theorem KSt.at (R : KSt w h a L) (kp : ∀ o, h.get? a = some o → h'.get? a = some o) : KSt w h' a L := by
  obtain ⟨o, es, ep, t, ho, r⟩ := R
  exact ⟨o, es, ep, t, kp o ho, r⟩
theorem ks_tail {g : Bool → Sem Unit} (hg : ∀ (b : Bool) (s₁ : Shared) (Q' : Unit → Shared → Prop), Q' () s₁ → wpAny (model P w) A (g b) Q' E s₁) {o : Obj} {ep : Nat} {t0 : SetTable} (ho : s.heap.get? a = some o) (hex : o.ExactSet) (hd : o.data = .set es ep t0)
    (d : KD w es1 t1 L) {dm : Bool} {R : Option Bool → Shared → Prop} (hR : ∀ h', Heap.SameBut a s.heap h' → KSt w h' a L → R (some true) { s with heap := h' }) :
    wpAny (model P w) A (do
        storeSet a es1 t1
        if (!dm && t1.tooFull) = true then do
            g (relayAll t1 es1 (SetTable.grown es1.size)).2.2
            storeSet a (relayAll t1 es1 (SetTable.grown es1.size)).1 (relayAll t1 es1 (SetTable.grown es1.size)).2.1
            pure (some true)
          else pure (some true)) R E s := by
  refine wpAny_bind (wpAny_storeSet_of ho hd ?_ (fits_of_scanBound d.sm))
  have o1 := store_at (es' := es1) (t' := t1) ho hd
  have b1 := Heap.SameBut.update s.heap a (Obj.putSet es1 t1)
  split
  · have q1 := relayAll_perm t1 es1 (SetTable.grown es1.size)
    have q2 := relayAll_fits t1 es1 (SetTable.grown es1.size)
    have q3 := relayAll_ris t1 es1 (SetTable.grown es1.size)
    have q4 := relayAll_led t1 es1 (SetTable.grown es1.size)
    generalize relayAll t1 es1 (SetTable.grown es1.size) = Y at q1 q2 q3 q4 ⊢
    obtain ⟨es2, t2, gv⟩ := Y
    dsimp only at q1 q2 q3 q4 ⊢
    have d2 : KD w es2 t2 L := d.re q1 q2 q3 q4
    refine wpAny_bind (hg _ _ _ (wpAny_bind (wpAny_storeSet_of o1 rfl ?_ (fits_of_scanBound d2.sm))))
    exact wpAny_pure (hR _ (b1.trans (Heap.SameBut.update _ a _)) ⟨_, es2, _, t2, store_at (es' := es2) (t' := t2) o1 rfl, hex, rfl, d2⟩)
  · exact wpAny_pure (hR _ b1 ⟨_, es1, _, t1, o1, hex, rfl, d⟩)
theorem ks_add {Q : Bool → Shared → Prop} (hk : keyIs k x = true) (R : KSt w s.heap a L) (room : L.length + 1 < scanBound) (hQ : ∀ h' b, Heap.SameBut a s.heap h' → KSt w h' a (insK L k) → Q b { s with heap := h' }) :
    wpAny (model P w) A (setAddHashed a x ((mixKind P w).hash k)) Q E s := by
  obtain ⟨o, es, ep, t, ho, hex, hd, d⟩ := R
  have hL : es.size = L.length := by rw [← d.pm.length_eq, List.length_map, Array.length_toList]
  have els : ElemsOf (mixKind P w) es.toList := d.elems
  have hmem : ∀ e ∈ es.toList, ((mixKind P w).is k e.2 = true ↔ kyV e.2 = k) := fun e he => by
    constructor
    · intro z; exact kyV_of z
    · intro z; rw [← z]; exact (d.el e he).1
  unfold setAddHashed setAddHashedIn
  refine wpAny_holding (wpAny_bind (wpAny_setState_of ho hd d.ft ?_))
  dsimp only
  rw [byScan_of (keyScan hk) d.sm els]
  simp only [↓reduceIte]
  unfold setAddByScan
  refine wpAny_bind (wpAny_bind (wpAny_rule (wpAny_bind (wpAny_setScan_of (show (mixKind P w).is k x = true from hk) ho hd d.ft els ?_))))
  cases hf : List.findIdx? (fun e => (mixKind P w).is k e.2) es.toList with
  | some j =>
    dsimp only
    obtain ⟨hj, pj, _⟩ := List.findIdx?_eq_some_iff_getElem.mp hf
    have hin : k ∈ L := d.pm.subset (List.mem_map.mpr ⟨es.toList[j], List.getElem_mem hj, (hmem _ (List.getElem_mem hj)).mp pj⟩)
    refine wpAny_pure (wpAny_pure (hQ s.heap false (Heap.SameBut.refl a s.heap) ⟨o, es, ep, t, ho, hex, hd, ?_⟩))
    rw [insK_in hin]
    exact d
  | none =>
    dsimp only
    have nk : k ∉ L := fun z => by
      obtain ⟨e, he, q⟩ := List.mem_map.mp (d.pm.symm.subset z)
      have c := List.findIdx?_eq_none_iff.mp hf e he
      rw [(hmem e he).mpr q] at c
      cases c
    have gv : ∀ (b : Bool) {s₁ : Shared} {Q' : Unit → Shared → Prop}, Q' () s₁ → wpAny (model P w) A (match b with | true => rule "set.scan.the-table-gave-way" | false => pure ()) Q' E s₁ := fun b s₁ Q' q => by
      cases b
      · exact wpAny_pure q
      · exact wpAny_rule q
    have q1 := layNew_perm t es ((mixKind P w).hash k) x
    have q2 := layNew_fits t es ((mixKind P w).hash k) x
    have q3 := layNew_ris t es ((mixKind P w).hash k) x d.ri
    have q4 := layNew_led t es ((mixKind P w).hash k) x
    generalize layNew t es ((mixKind P w).hash k) x = Y at q1 q2 q3 q4 ⊢
    obtain ⟨es1, t1, dm, gave⟩ := Y
    dsimp only at q1 q2 q3 q4 ⊢
    rw [Array.toList_push] at q1
    have sm1 : es1.size < scanBound := by
      have := q1.length_eq
      rw [List.length_append, Array.length_toList, Array.length_toList, List.length_singleton] at this
      omega
    rw [insK_ni nk] at hQ
    refine wpAny_bind (gv _ ?_)
    split
    · refine wpAny_bind ?_
      rw [hashByValue_scannable 8 (keyScan hk)]
      refine wpAny_pure ?_
      refine ks_tail (L := L ++ [k]) ?_ ho hex hd ?_ fun h' sb r => ?_
      · intro b s₁ Q' q
        cases b
        · first | exact wpAny_pure q | exact wpAny_rule q
        · first | exact wpAny_pure q | exact wpAny_rule q
      · refine d.push hk nk q1 sm1 ?_ ?_ ?_
        · split
          · exact q2
          · exact SetTable.fits_plain_off q2
        · split
          · exact q3
          · exact q3
        · split
          · exact q4
          · exact q4
      · dsimp only
        exact wpAny_pure (hQ h' true sb r)
    · refine wpAny_bind (wpAny_pure ?_)
      simp only [↓reduceIte]
      refine ks_tail (L := L ++ [k]) ?_ ho hex hd (d.push hk nk q1 sm1 q2 q3 q4) fun h' sb r => ?_
      · intro b s₁ Q' q
        cases b
        · first | exact wpAny_pure q | exact wpAny_rule q
        · first | exact wpAny_pure q | exact wpAny_rule q
      · dsimp only
        exact wpAny_pure (hQ h' true sb r)
theorem insK_len (L : List Key) (k : Key) : (insK L k).length ≤ L.length + 1 := by
  unfold insK
  split <;> simp
theorem dedK_len : ∀ (ks L : List Key), (ks.foldl insK L).length ≤ L.length + ks.length
  | [], L => Nat.le_refl _
  | k :: ks, L => by
    rw [List.foldl_cons, List.length_cons]
    have h1 := dedK_len ks (insK L k)
    have h2 := insK_len L k
    omega
/-- the loop of set(..) -/
theorem ks_loop {I : Addr} {fp wr : List Addr} {G : Array GenState → Array GenState → Prop} {n : Nat} {Pv : Nat → Value → Prop} {St : Nat → Shared → Prop} {R : Result → Shared → Prop}
    (W : WalksS P w A.in1 I fp wr G n Pv St) (S : Addr) (hS : S ∉ fp) (ks : List Key) (hn : n = ks.length) (hb : ks.length + 1 < scanBound) (hv : ∀ i v, Pv i v → ∃ k, ks[i]? = some k ∧ keyIs k v = true) :
    ∀ (m i : Nat) (s : Shared), n - i = m → i ≤ n → St i s → KSt w s.heap S (dedK (ks.take i)) → (∀ s', Moved (S :: wr) G s s' → KSt w s'.heap S (dedK ks) → R (.ok (.ret .none)) s') →
      codeAny (model P w) A (.builtin "set.update.loop" ⟨[.ref S, .ref I], []⟩) R s := by
  have hw : S ∉ wr := fun z => hS (W.sub _ z)
  have hs : ∀ b ∈ wr, b ∈ S :: wr := fun b hb => List.mem_cons_of_mem _ hb
  intro m
  induction m with
  | zero =>
    intro i s hm hi hst hK hR
    have e : i = n := by omega
    subst e
    refine codeAny_builtin F.entry_set_update_loop ?_
    rw [Around.under_plainId F.plain_set_update_loop _]
    show wpAny _ A.in1 (pyNext (.ref I) >>= fun _ => _) _ _ s
    refine wpAny_bind (W.done s _ _ hst fun s' mv => ?_)
    rw [List.take_of_length_le (by omega)] at hK
    exact wpAny_pure (hR s' (mv.mono hs) (hK.at fun o e => mv.heap S o hw e))
  | succ m ih =>
    intro i s hm hi hst hK hR
    have hlt : i < n := by omega
    refine codeAny_builtin F.entry_set_update_loop ?_
    rw [Around.under_plainId F.plain_set_update_loop _]
    show wpAny _ A.in1 (pyNext (.ref I) >>= fun _ => _) _ _ s
    refine wpAny_bind (W.item i s _ _ hlt hst fun v s' hP hst' mv => ?_)
    obtain ⟨k, hk, kv⟩ := hv i v hP
    have hK' : KSt w s'.heap S (dedK (ks.take i)) := hK.at fun o e => mv.heap S o hw e
    show wpAny _ A.in1 (holding [v] (setAdd S v) >>= fun _ => _) _ _ s'
    refine wpAny_bind (wpAny_holding ?_)
    unfold setAdd
    refine wpAny_holding (wpAny_bind ((mixKind P w).pyHash (k := k) kv ?_))
    have hl := dedK_len (ks.take i) []
    rw [List.length_take, List.length_nil] at hl
    refine ks_add (s := { s' with toks := s'.toks + 1 }) kv hK' (by unfold dedK; omega) fun h' b sb r => ?_
    have e2 : insK (dedK (ks.take i)) k = dedK (ks.take (i + 1)) := by
      unfold dedK
      rw [List.take_add_one, hk, List.foldl_append]
      rfl
    rw [e2] at r
    refine wpAny_pure ⟨plainId_quiet F.plain_set_update_loop _, ih (i + 1) _ (by omega) hlt (W.frame _ s' _ _ hst' (Nat.le_succ _) fun b hb o e => ?_) r fun s'' mv2 r2 => ?_⟩
    · rw [sb.2 b (fun z : b = S => hS (by rw [← z]; exact hb))]
      exact e
    · refine hR s'' (Moved.trans W.gtrans ((mv.mono hs).then_heap (Nat.le_succ _) fun b o hb e => ?_) mv2) r2
      rw [sb.2 b (fun z : b = S => hb (by rw [z]; exact List.mem_cons_self))]
      exact e
end
section
variable {P : Program} {w : World} {A : Around} {E : Value → Shared → Prop} {s : Shared}
/-- a set without keys -/
def ob0 (w : World) : Obj := { cls := .type "set", dict := none, data := .set #[] 0 (.fresh 0 0 (!w.params.followText "set-order")) }
theorem kst0 {w : World} {h : Heap} {a : Addr} (e : h.get? a = some (ob0 w)) : KSt w h a [] := by
  refine ⟨_, #[], 0, _, e, ⟨rfl, rfl, rfl⟩, rfl, fun e he => by simp at he, List.Perm.refl _, List.nodup_nil, by decide, by rfl, List.Pairwise.nil, ?_⟩
  show _ ∨ (!w.params.followText "set-order") = true
  cases w.params.followText "set-order"
  · exact .inr rfl
  · exact .inl rfl
theorem ks_of_list {l : Addr} {items : Array Value} (ks : List Key) {Q : Value → Shared → Prop} (hh : A.handled = none) (hl : s.heap.IsList l items) (hk : ∀ (i : Nat) (v : Value), items[i]? = some v → ∃ k, ks[i]? = some k ∧ keyIs k v = true) (hz : items.size = ks.length) (hb : ks.length + 1 < scanBound)
    (h : ∀ (h' : Heap) (tk : Nat), KSt w h' s.heap.objs.size (dedK ks) → (∀ b o, s.heap.get? b = some o → h'.get? b = some o) → Q (.ref s.heap.objs.size) { s with heap := h', toks := tk }) :
    wpAny (model P w) A (call (.type "set") [.ref l]) Q E s := by
  obtain ⟨c, tl, hmro⟩ := F.called_set.mro
  have made := F.called_set.made
  have sub := F.called_set.sub
  refine wpAny_call (codeAny_of_tree ?_)
  show wpAny _ _ (callAny (.type "set") ⟨[.ref l], []⟩) _ _ s
  refine wpAny_pure ⟨Code.quiet_builtin ⟨[.type "set", .ref l], []⟩ (by decide +kernel), codeAny_builtin F.entry_type_call ?_⟩
  rw [Around.under_plain (weight_type_call_type "set" [.ref l] []) rfl]
  have nt := F.called_set.notType
  have cc := F.called_set.canCreate
  have tc := F.typeCall_set_1 (.ref l)
  repeat any_goals first | wp_step | assumption
  refine codeAny_mono (code_set_led1 (.ref l) (E := E) (Q₁ := fun ob s₁ => ob = .ref s.heap.objs.size ∧ s₁ = { s with heap := s.heap.push (ob0 w) }) ⟨rfl, rfl⟩) fun r s₁ hr => ?_
  cases r with
  | error e => exact hr
  | ok fl =>
    cases fl with
    | ret ob =>
      obtain ⟨rfl, rfl⟩ := hr
      have hS : (s.heap.push (ob0 w)).get? s.heap.objs.size = some (ob0 w) := Heap.get?_push_size _ rfl
      have hT : Shared.TypeIs { s with heap := s.heap.push (ob0 w) } (.ref s.heap.objs.size) "set" := ⟨_, hS, rfl⟩
      have li := F.called_set.init.lookup
      have bi := F.called_set.init.bind (.ref s.heap.objs.size)
      repeat any_goals first | wp_step | assumption
      refine codeAny_mono (codeAny_call_builtin (R := wants (fun r s₂ => r = .none ∧ ∃ h' tk, s₂ = { s with heap := h', toks := tk } ∧ KSt w h' s.heap.objs.size (dedK ks) ∧ (∀ b o, s.heap.get? b = some o → h'.get? b = some o)) E)
        F.called_set.init.plain F.entry_set_init (check_set_init_1 hT ?_)) fun r₂ s₂ hr₂ => ?_
      · obtain ⟨ol, hol, hcl, nl, hdl⟩ := hl
        obtain ⟨ocls, odict, odata, oslots⟩ := ol
        simp only at hcl hdl
        subst hcl
        subst hdl
        have hol1 : (s.heap.push (ob0 w)).get? l = some { cls := .type "list", dict := odict, data := .seq items nl, slots := oslots } := Heap.get?_push_of_some _ hol
        have s1 := F.sub_list_set
        have s2 := F.sub_list_frozenset
        have s3 : (Value.type "list" == Value.type "dict") = false := by decide
        have hl1 : (s.heap.push (ob0 w)).IsList l items := ⟨_, hol1, rfl, nl, rfl⟩
        unfold Builtin.«set.__init__» noKeywords Builtin.Frozenset.updateFrom
        generalize hPI : pyIter = PI
        wp_walk
        subst hPI
        refine wpAny_pyIter_list hl1 ?_
        refine wpAny_bind (wpAny_runValue ?_)
        have hlS : l < s.heap.objs.size := Heap.lt_size hol
        have h3 : A.in1.in1.in1.handled = none := by simp [hh]
        have zI : (s.heap.push (ob0 w)).objs.size = s.heap.objs.size + 1 := Heap.size_push ..
        have nI : l ≠ (s.heap.push (ob0 w)).objs.size := by rw [zI]; exact Nat.ne_of_lt (Nat.lt_succ_of_lt hlS)
        have hSf : s.heap.objs.size ∉ [(s.heap.push (ob0 w)).objs.size, l] := by
          rw [zI]
          intro z
          rcases List.mem_cons.mp z with z | z
          · exact absurd z (Nat.ne_of_lt (Nat.lt_succ_self _))
          · exact absurd (List.mem_singleton.mp z) (Nat.ne_of_gt hlS)
        refine ks_loop ((Walks.list h3 _ l nI items).toS) s.heap.objs.size hSf ks hz hb hk (items.size - 0) 0 _ (by omega) (Nat.zero_le _) ⟨⟨_, Heap.get?_push_size _ rfl, rfl, rfl⟩, (hl1.push _)⟩ ?hS0 ?hR
        case hS0 => exact kst0 (Heap.get?_push_of_some _ hS)
        case hR =>
          intro s' mv hS'
          obtain ⟨h', g2, d', tk', os'⟩ := s'
          have eg : g2 = s.gens := mv.gens
          have ed : d' = s.drawn := mv.drawn
          have eo : os' = s.os := mv.os
          subst eg ed eo
          show wpAny _ _ _ _ _ _
          refine wpAny_pure ?_
          show wpAny _ _ (ret Value.none) _ _ _
          refine wpAny_pure ⟨rfl, h', tk', rfl, hS', fun b o e => ?_⟩
          have hb0 : b < s.heap.objs.size := Heap.lt_size e
          refine mv.heap b o (fun z => ?_) (Heap.get?_push_of_some _ (Heap.get?_push_of_some _ e))
          rcases List.mem_cons.mp z with z | z
          · exact absurd z (Nat.ne_of_lt hb0)
          · have := List.mem_singleton.mp z
            rw [zI] at this
            exact absurd this (Nat.ne_of_lt (Nat.lt_succ_of_lt hb0))
      · cases r₂ with
        | error e => exact hr₂
        | ok fl₂ =>
          cases fl₂ with
          | ret r =>
            obtain ⟨rfl, h', tk, rfl, hS', hk'⟩ := hr₂
            repeat any_goals first | wp_step | assumption
            exact h _ _ hS' hk'
          | _ => exact hr₂.elim
    | _ => exact hr.elim
end
def encK : Key → PyData
  | .inl i => .int i
  | .inr x => .str x
theorem encK_reads {h : Heap} {a : Addr} {k : Key} {v : Value} (hk : keyIs k v = true) : ∃ as, Reads h v (encK k) as ∧ a ∉ as := by
  rcases keyIs_shape hk with ⟨i, t, rfl, rfl⟩ | ⟨x, t, rfl, rfl⟩
  · exact ⟨[], .int _ _, by simp⟩
  · exact ⟨[], .str _ _, by simp⟩
theorem encK_depth (k : Key) : (encK k).depth = 0 := by
  cases k <;> simp [encK, PyData.depth]
theorem encK_sortable (L : List Key) : PySem.W.Sortable (L.map encK) := .others fun k => by
  cases k <;> simp [encK]
theorem alikeI (ns : List Int) : PySem.W.AllAlike ((ns.map Sum.inl : List Key).map encK) := by
  intro d hd d' hd'
  simp only [List.map_map, List.mem_map] at hd hd'
  obtain ⟨i, _, rfl⟩ := hd
  obtain ⟨j, _, rfl⟩ := hd'
  simp [encK, PySem.W.alike]
theorem alike_perm {L L' : List Key} (p : L'.Perm L) (h : PySem.W.AllAlike (L.map encK)) : PySem.W.AllAlike (L'.map encK) := fun d hd d' hd' => h d ((p.map encK).subset hd) d' ((p.map encK).subset hd')
theorem each_ky : ∀ {vs : List Value}, (∀ v ∈ vs, keyIs (kyV v) v = true) → PySem.W.EachIs (fun v k => keyIs k v = true) vs (vs.map kyV)
  | [], _ => .nil
  | v :: vs, h => .cons (h v List.mem_cons_self) (each_ky fun u hu => h u (List.mem_cons_of_mem _ hu))
section
variable {P : Program} {w : World} {A : Around} {E : Value → Shared → Prop} {s : Shared} {a : Addr} {L : List Key}
theorem ks_sorted {Q : Value → Shared → Prop} (R : KSt w s.heap a L) (hh : A.handled = none) (hal : PySem.W.AllAlike (L.map encK)) (hz : L.length ≤ 1000) (hu : A.units + 64 < cLine)
    (hQ : ∀ s' p (out : Array Value) (c : Nat) (L' : List Key), (∀ b o, s.heap.get? b = some o → s'.heap.get? b = some o) → s'.gens = s.gens → s'.os = s.os → s.heap.objs.size ≤ p → s'.heap.get? p = some (seqObj "list" out c) →
      PySem.W.EachIs (fun v k => keyIs k v = true) out.toList L' → L'.Perm L → L'.Pairwise (fun x y => PySem.W.dataLe false encK x y = true) → Q (.ref p) s') :
    wpAny (model P w) A (call (.builtin "sorted") [.ref a]) Q E s := by
  obtain ⟨o, es, ep, t, ho, hex, hd, d⟩ := R
  refine Calls.call_function_entry kind_sorted plain_sorted entry_sorted (args_sorted1 _) ?_
  unfold Builtin.«sorted»
  refine wpAny_bind (m := checkCount "sorted" 1 1 _) (wpAny_pure ?_)
  refine wpAny_bind (collect_set (A := A.in1) hh ⟨o, ho, hex.1, hd⟩ d.ft d.sm d.ri d.ld fun s1 vs k1 z1 g1 o1 pm => ?_)
  have hall : ∀ v ∈ vs, keyIs (kyV v) v = true := fun v hv => by
    obtain ⟨e, he, q⟩ := List.mem_map.mp (pm.subset hv)
    rw [← q]
    exact (d.el e he).1
  have pk : (vs.map kyV).Perm L := by
    have q := pm.map kyV
    rw [List.map_map] at q
    exact q.trans d.pm
  have hvl : vs.length = L.length := by rw [← pk.length_eq, List.length_map]
  have ev := each_ky hall
  refine wpAny_bind (wpAny_newList ?_ (by rw [hvl, sizeLine_eq]; omega))
  have hoL : (s1.heap.push (seqObj "list" vs.toArray 0)).get? s1.heap.objs.size = some (seqObj "list" vs.toArray 0) := Heap.get?_push_size _ rfl
  refine wpAny_bind (wpAny_holding (PySem.W.list_sort_data (s := { s1 with heap := s1.heap.push (seqObj "list" vs.toArray 0) }) (enc := encK) hoL ev (ev.mono fun v k hk => encK_reads hk) (alike_perm pk hal) (encK_sortable _) ?_ (fun k _ => ?_) fun out ol ee => ?_))
  · rw [List.length_map, hvl, sizeLine_eq]
    omega
  · rw [encK_depth]
    show A.units + 1 + 1 + 0 < cLine
    omega
  · obtain ⟨c, hc⟩ := sortedHeap_at (vs := vs) (out := out.toArray) hoL
    refine wpAny_pure ⟨_, rfl, hQ _ s1.heap.objs.size out.toArray c ((vs.map kyV).mergeSort (PySem.W.dataLe false encK)) (fun b u e => ?_) g1 o1 z1 hc ee ((List.mergeSort_perm _ _).trans pk) (PySem.W.sort_pairwise (le := PySem.W.dataLe false encK) (PySem.W.sortLe_total _ _ _) _)⟩
    have q := k1 b u e
    have hlt := Heap.lt_size q
    show (sortedHeap (s1.heap.push (seqObj "list" vs.toArray 0)) s1.heap.objs.size vs out.toArray).get? b = some u
    rw [sortedHeap_old (Nat.ne_of_lt hlt) (by rw [size_push']; exact Nat.lt_succ_of_lt hlt)]
    exact Heap.get?_push_of_some _ q
end
def KSO (w : World) (a : Addr) (L : List Key) : HO := .ext fun h => KSt w h a L
theorem kso_new {w : World} {P : Program} {H : Hp} {h : Heap} {a : Addr} {L : List Key} (R : KSt w h a L) : ObjOk P w H h a (KSO w a L) := by
  have ⟨o, _, _, _, ho, _⟩ := R
  exact ⟨R, ⟨o, ho⟩, fun h1 h2 p k => KSt.at p k⟩
section
variable {X : Cx} {K : PySem.W.Frag}
def rSetQ (K : PySem.W.Frag) (w : World) : List V → Hp → VK → Prop := fun vs H Q => ∃ (l : Addr) (ks : List Key), vs = [.ref l] ∧ SqL K H l (ks.map kV) ∧ ks.length ≤ 1000 ∧ ∀ p, H p = none → Q (.ref p) (upd H p (KSO w p (dedK ks)))
def rSortKI (w : World) : List V → Hp → VK → Prop := fun vs H Q => ∃ (a : Addr) (L : List Int), vs = [.ref a] ∧ H a = some (KSO w a (L.map Sum.inl)) ∧ L.length ≤ 1000 ∧ ∀ (ns : List Int) p, ns.Perm L → ns.Pairwise (· ≤ ·) → H p = none → Q (.ref p) (upd H p (.lst (ns.map V.int)))
theorem key_relV {k : Key} {u : Value} (h : keyIs k u = true) : RelV (kV k) u := by
  rcases keyIs_shape h with ⟨i, t, rfl, rfl⟩ | ⟨x, t, rfl, rfl⟩
  · exact ⟨t, rfl⟩
  · exact ⟨t, rfl⟩
theorem vals_keys : ∀ {us : List Value} {L : List Key}, PySem.W.EachIs (fun v k => keyIs k v = true) us L → Vals (L.map kV) us
  | _, _, .nil => .nil
  | _, _, .cons h t => .cons (key_relV h) (vals_keys t)
theorem keys_vals : ∀ {us : List Value} {L : List Key}, Vals (L.map kV) us → ∀ (i : Nat) (v : Value), us[i]? = some v → ∃ k, L[i]? = some k ∧ keyIs k v = true
  | _, [], .nil, i, v, e => by simp at e
  | _, k :: L, .cons r t, 0, v, e => by
    simp at e
    subst e
    refine ⟨k, rfl, ?_⟩
    cases k with
    | inl i => obtain ⟨tk, rfl⟩ := r; exact keyIs_int i tk
    | inr x => obtain ⟨tk, rfl⟩ := r; exact keyIs_str x tk
  | _, k :: L, .cons r t, i + 1, v, e => by simpa using keys_vals t i v (by simpa using e)
theorem cr_setL {w : World} (hc : X.calm = true) (hK : X.K = K := by rfl) (hw : X.w = w := by rfl) : CallR X (.type "set") (rSetQ K w) := by
  subst hK hw
  intro pins s σ H xs us Q I r h
  obtain ⟨l, ks, rfl, hs, hz, q⟩ := h
  obtain ⟨its, rv, hl, _⟩ := I.list hs
  rw [Vals.ref1 r]
  have e := rv.length
  rw [List.length_map] at e
  refine ks_of_list ks (I.ok.hd hc) hl.isList (fun i v hv => keys_vals rv i v (by simpa using hv)) (by simp [e]) (by unfold scanBound; omega) fun h' tk R hk => ?_
  have fr : H s.heap.objs.size = none := I.hok.fresh (Nat.le_refl _)
  exact ⟨.ref s.heap.objs.size, _, I.laid hk (Nat.le_refl _) (kso_new R), rfl, q _ fr⟩
theorem kso_get {pins : List (Addr × Obj)} {σ : L2.St} {H : Hp} {s : Shared} {a : Addr} {L : List Key} (I : Inv X pins σ H s) (ha : H a = some (KSO X.w a L)) : KSt X.w s.heap a L := (I.hok a _ ha).1
end
theorem perm_map_ex {α β : Type} {f : α → β} {M' L' : List β} (p : M'.Perm L') : ∀ {L : List α}, M' = L.map f → ∃ m : List α, L' = m.map f ∧ m.Perm L := by
  induction p with
  | nil => intro L e; exact ⟨[], rfl, by rw [List.map_eq_nil_iff.mp e.symm]⟩
  | cons x _ ih =>
    intro L e
    cases L with
    | nil => cases e
    | cons a L =>
      rw [List.map_cons] at e
      obtain ⟨rfl, e2⟩ := List.cons.inj e
      obtain ⟨m, rfl, q⟩ := ih e2
      exact ⟨a :: m, rfl, q.cons a⟩
  | swap x y l =>
    intro L e
    cases L with
    | nil => cases e
    | cons a L =>
      cases L with
      | nil => cases e
      | cons b L =>
        rw [List.map_cons, List.map_cons] at e
        obtain ⟨rfl, e2⟩ := List.cons.inj e
        obtain ⟨rfl, rfl⟩ := List.cons.inj e2
        exact ⟨b :: a :: L, rfl, List.Perm.swap a b L⟩
  | trans _ _ ih1 ih2 =>
    intro L e
    obtain ⟨m, rfl, q⟩ := ih1 e
    obtain ⟨m2, rfl, q2⟩ := ih2 rfl
    exact ⟨m2, rfl, q2.trans q⟩
theorem le_keyI (x y : Int) : PySem.W.dataLe false encK (.inl x) (.inl y) = decide (x ≤ y) := congrFun (congrFun (PySem.W.dataLe_int (fun b : Int => b)) x) y
section
variable {X : Cx}
theorem sorted_put {pins : List (Addr × Obj)} {σ : L2.St} {H : Hp} {s s' : Shared} {p : Addr} {out : Array Value} {c : Nat} {L' : List Key} {Q : VK} (I : Inv X pins σ H s) (k : ∀ b o, s.heap.get? b = some o → s'.heap.get? b = some o) (g : s'.gens = s.gens) (o : s'.os = s.os) (hp : s.heap.objs.size ≤ p)
    (hg : s'.heap.get? p = some (seqObj "list" out c)) (he : PySem.W.EachIs (fun v k => keyIs k v = true) out.toList L') (hz : L'.length ≤ 1000) (q : H p = none → Q (.ref p) (upd H p (.lst (L'.map kV)))) : EP X pins σ Q (.ref p) s' := by
  have hn : H p = none := I.hok.fresh hp
  have hlen : (L'.map kV).length ≤ sizeLine := by rw [List.length_map, sizeLine_eq]; omega
  have J : Inv X pins σ (upd H p (.lst (L'.map kV))) { s with heap := s'.heap, gens := s'.gens, drawn := s'.drawn, toks := s'.toks } :=
    I.call (ch := []) (Un.laid k hp hn) (I.hok.laid k hp ⟨hlen, out.toList, c, vals_keys he, hg⟩) (by rw [g]; exact I.bare) (fun _ z => nomatch z)
  have e : s' = { s with heap := s'.heap, gens := s'.gens, drawn := s'.drawn, toks := s'.toks } := by
    cases s'
    cases s
    cases o
    rfl
  rw [e]
  exact ⟨.ref p, _, J, rfl, q hn⟩
theorem cr_sortKI {w : World} (hc : X.calm = true) (hu : X.A.units + 64 < cLine) (hw : X.w = w := by rfl) : CallR X (.builtin "sorted") (rSortKI w) := by
  subst hw
  intro pins s σ H vs us Q I r h
  obtain ⟨a, L, rfl, ha, hz, q⟩ := h
  rw [Vals.ref1 r]
  refine ks_sorted (kso_get I ha) (I.ok.hd hc) (alikeI L) (by rw [List.length_map]; exact hz) hu fun s' p out c L' k g o hp hg he pm pw => ?_
  obtain ⟨ns, rfl, pn⟩ := perm_map_ex pm.symm (L := L) rfl
  refine sorted_put I k g o hp hg he (by rw [List.length_map, pn.length_eq]; exact hz) fun hn => ?_
  rw [List.map_map]
  refine q ns p pn ?_ hn
  rw [List.pairwise_map] at pw
  exact pw.imp fun {x y} h => by
    rw [le_keyI] at h
    exact of_decide_eq_true h
end
def insG {α : Type} [DecidableEq α] (L : List α) (k : α) : List α := if k ∈ L then L else L ++ [k]
def ded {α : Type} [DecidableEq α] (ks : List α) : List α := ks.foldl insG []
section
variable {α : Type} [DecidableEq α]
theorem ded_fold : ∀ (ks L : List α), (∀ x, x ∈ ks.foldl insG L ↔ x ∈ L ∨ x ∈ ks) ∧ (L.Nodup → (ks.foldl insG L).Nodup) ∧ (ks.foldl insG L).length ≤ L.length + ks.length
  | [], L => ⟨fun x => by simp, id, by simp⟩
  | k :: ks, L => by
    obtain ⟨h1, h2, h3⟩ := ded_fold ks (insG L k)
    rw [List.foldl_cons]
    have hm : ∀ x, x ∈ insG L k ↔ x ∈ L ∨ x = k := fun x => by
      unfold insG
      split
      · rename_i h
        constructor
        · exact .inl
        · rintro (z | rfl)
          · exact z
          · exact h
      · simp
    refine ⟨fun x => ?_, fun nd => h2 ?_, ?_⟩
    · rw [h1, hm, List.mem_cons, or_assoc]
    · unfold insG
      split
      · exact nd
      · rename_i h
        rw [List.nodup_append]
        exact ⟨nd, by simp, fun u hu v hv z => h (by rw [← List.mem_singleton.mp hv, ← z]; exact hu)⟩
    · have : (insG L k).length ≤ L.length + 1 := by
        unfold insG
        split <;> simp
      rw [List.length_cons]
      omega
theorem mem_ded {ks : List α} {x : α} : x ∈ ded ks ↔ x ∈ ks := by
  rw [ded, (ded_fold ks []).1]
  simp
theorem nd_ded (ks : List α) : (ded ks).Nodup := (ded_fold ks []).2.1 List.nodup_nil
theorem ded_len (ks : List α) : (ded ks).length ≤ ks.length := by
  have := (ded_fold ks []).2.2
  rw [List.length_nil, Nat.zero_add] at this
  exact this
theorem dedK_map {κ : α → Key} (hk : ∀ a b, κ a = κ b → a = b) (ks : List α) : dedK (ks.map κ) = (ded ks).map κ := by
  have key : ∀ (ks L : List α), (ks.map κ).foldl insK (L.map κ) = (ks.foldl insG L).map κ := by
    intro ks
    induction ks with
    | nil => intro L; rfl
    | cons k ks ih =>
      intro L
      rw [List.map_cons, List.foldl_cons, List.foldl_cons, ← ih]
      congr 1
      unfold insG
      by_cases h : k ∈ L
      · rw [if_pos h, insK_in (List.mem_map_of_mem h)]
      · rw [if_neg h, insK_ni (fun z => by
          obtain ⟨y, hy, e⟩ := List.mem_map.mp z
          exact h (hk _ _ e ▸ hy)), List.map_append]
        rfl
  exact key ks []
end
def srtI (ns : List Int) : List Int := (ded ns).mergeSort fun a b => decide (a ≤ b)
theorem srtI_pm (ns : List Int) : (srtI ns).Perm (ded ns) := List.mergeSort_perm _ _
theorem srtI_mem {ns : List Int} {x : Int} : x ∈ srtI ns ↔ x ∈ ns := by rw [(srtI_pm ns).mem_iff, mem_ded]
theorem srtI_le (ns : List Int) : (srtI ns).Pairwise (· ≤ ·) := (List.pairwise_mergeSort (le := fun a b : Int => decide (a ≤ b)) (fun a b c h1 h2 => by simp at h1 h2 ⊢; omega) (fun a b => by simp; omega) (ded ns)).imp fun h => of_decide_eq_true h
theorem srtI_nd (ns : List Int) : (srtI ns).Nodup := (srtI_pm ns).nodup_iff.mpr (nd_ded ns)
section
variable {w : World} {K : PySem.W.Frag} {σ : L2.St} {H : Hp} {te : TE} {M : Addr → Prop} {ns : List Int} {xs : List Row}
/-- a set on the way -/
def isKS (w : World) (L : List Key) : V → Hp → Prop := fun v H => ∃ a, v = .ref a ∧ H a = some (KSO w a L)
theorem g_setL {ks : List Key} (h : EvQ K te σ H (ks.map kV)) (hz : ks.length ≤ 1000) : EvG (tCB (rSetQ K w) (tCons te tNil)) σ H (isKS w (dedK ks)) := fun H1 e Q q =>
  h H1 e _ fun a H2 e2 hs => ⟨a, ks, rfl, hs.q, hz, fun p hp => q _ _ (e2.trans (Ex.new hp)) ⟨p, rfl, upd_same⟩⟩
theorem g_setI (h : EvQ K te σ H (ns.map V.int)) (hz : ns.length ≤ 1000) : EvG (tCB (rSetQ K w) (tCons te tNil)) σ H (isKS w ((ded ns).map Sum.inl)) := by
  have := g_setL (w := w) (K := K) (ks := ns.map Sum.inl) (te := te) (σ := σ) (H := H) (by rw [List.map_map]; exact h) (by rw [List.length_map]; exact hz)
  rwa [dedK_map fun a b e => Sum.inl.inj e] at this
theorem p_sortSetI (h : EvQ K te σ H (ns.map V.int)) (hz : ns.length ≤ 1000) : EvP M (tCB (rSortKI w) (tCons (tCB (rSetQ K w) (tCons te tNil)) tNil)) σ H (uL uI (srtI ns)) (.ow .sh) := fun H1 e Q q =>
  g_setI (w := w) h hz H1 e _ fun v H2 e2 ⟨a, ev, ha⟩ => ⟨a, _, by rw [ev], ha, Nat.le_trans (ded_len ns) hz, fun m p pm pw hp => by
    have e3 : m = srtI ns := sorted_perm (pm.trans (srtI_pm ns).symm) pw (srtI_le ns)
    subst e3
    exact q _ [p] _ (e2.trans (Ex.new hp)) (by simp) (by simpa using fresh_back e2 hp) (ow_mu.mpr ⟨p, _, rfl, upd_same, rfl, rpL_sc.mpr rfl⟩)⟩
end
end Ho
namespace Ho
open PySem PySem.Spec PyProof.Rows L2 Evl
/-- a slot of which nothing is told -/
theorem OkL.any {M : Addr → Prop} {H : Hp} : ∀ {j : Nat} {ρ : List Sl} {σ : List (Option V)} {as : List Addr}, OkL M H ρ σ as → ∃ b0 cs, (b0 ++ cs).Perm as ∧ OkL M H (ρ.set j .any) σ cs
  | j, [], σ, as, h => ⟨[], as, List.Perm.refl _, h⟩
  | 0, .una :: ρ, σ, as, ⟨r, es, t⟩ => ⟨[], as, List.Perm.refl _, none, r, es, t⟩
  | 0, .any :: ρ, σ, as, ⟨x, r, es, t⟩ => ⟨[], as, List.Perm.refl _, x, r, es, t⟩
  | 0, .own d p :: ρ, σ, as, ⟨v, r, bs, cs, es, ea, o, t⟩ => ⟨bs, cs, by rw [ea], some v, r, es, t⟩
  | j + 1, .una :: ρ, σ, as, ⟨r, es, t⟩ => by
    obtain ⟨b0, cs, h1, h2⟩ := OkL.any (j := j) t
    exact ⟨b0, cs, h1, r, es, h2⟩
  | j + 1, .any :: ρ, σ, as, ⟨x, r, es, t⟩ => by
    obtain ⟨b0, cs, h1, h2⟩ := OkL.any (j := j) t
    exact ⟨b0, cs, h1, x, r, es, h2⟩
  | j + 1, .own d p :: ρ, σ, as, ⟨v, r, bs, cs, es, ea, o, t⟩ => by
    obtain ⟨b0, c2, h1, h2⟩ := OkL.any (j := j) t
    subst ea
    refine ⟨b0, bs ++ c2, ?_, v, r, bs, c2, es, rfl, o, h2⟩
    rw [← List.append_assoc]
    exact ((List.perm_append_comm (l₁ := b0) (l₂ := bs)).append_right c2).trans (by rw [List.append_assoc]; exact h1.append_left bs)
section
variable {K : PySem.W.Frag} {F : Addr → Prop} {Z : Hp → (Addr → Prop) → Prop} {ρ : List Sl} {σ : L2.St} {H : Hp} {M : Addr → Prop} {d d0 : Dt} {p p0 : Pat} {i j n : Nat} {to tb te : TE} {s : Sh} {ds : List Dt} {α : Type} {D : Ends} {tz : TS} {W : Dt → Dt}
/-- what a slot owns may change at will -/
theorem Ok.swap (ok : Ok F Z ρ σ H M) (h : ρ[i]? = some (.own d p)) : ∃ v bs, σ[i]? = some (some v) ∧ Ow M H d p v bs ∧ bs.Nodup ∧ (∀ a ∈ bs, M a) ∧
    ∀ H' d' p' bs', (∀ a o, a ∉ bs → H a = some o → H' a = some o) → (∀ a ∈ bs, H' a ≠ none) → Ow M H' d' p' v bs' → bs'.Nodup → (∀ a ∈ bs', a ∈ bs) → Ok F Z (ρ.set i (.own d' p')) σ H' M := by
  obtain ⟨as, nd, own, sl⟩ := ok.sl
  obtain ⟨v, bs, cs, h1, h2, h3, h4⟩ := sl.out h
  have nd2 := List.nodup_append.mp (h4.nodup_iff.mpr nd)
  have hb : ∀ a ∈ bs, M a ∧ ¬ F a := fun a ha => own a (h4.subset (List.mem_append_left _ ha))
  refine ⟨v, bs, h1, h2, nd2.1, fun a ha => (hb a ha).1, fun H' d' p' bs' k1 k2 w nb sub => ?_⟩
  have g0 : Go M H M H' := fun b u n e => ⟨k1 b u (fun z => n (hb b z).1) e, n⟩
  have sl' := h3.go g0 fun b hbc u e => k1 b u (fun z => nd2.2.2 b z b hbc rfl) e
  have hi : i < ρ.length := (List.getElem?_eq_some_iff.mp h).1
  obtain ⟨as', q1, q2⟩ := OkL.back (bs := bs') w hi sl' h1
  refine ⟨⟨as', ?_, fun b hbb => ?_, q1⟩, fun b hbb hn => ?_, ok.fr, ?_, ok.mz⟩
  · rw [q2.nodup_iff, List.nodup_append]
    exact ⟨nb, nd2.2.1, fun u hu y hy z => nd2.2.2 u (sub u hu) y hy z⟩
  · rcases List.mem_append.mp (q2.subset hbb) with z | z
    · exact hb b (sub b z)
    · exact own b (h4.subset (List.mem_append_right _ z))
  · by_cases z : b ∈ bs
    · exact k2 b z hn
    · cases e : H b with
      | none => exact ok.al b hbb e
      | some o => rw [k1 b o z e] at hn; cases hn
  · exact ok.mz _ _ _ _ ok.z ⟨fun b u n e => k1 b u (fun z => n (hb b z)) e, fun b hbb => .inl hbb⟩
end
end Ho
namespace Ho
open PySem PySem.Spec PyProof.Rows L2 Evl
theorem obAt_ne {H : Hp} {s : Sh} {a b : Addr} {vs : List V} {od : Obj} {u : HO} (h : ObAt H s b vs) (ha : H a = some (.frz od u)) : b ≠ a := by
  rintro rfl
  cases s with
  | l => have h : H b = some (.lst vs) := h; rw [h] at ha; cases ha
  | t => have h : H b = some (.tup vs) := h; rw [h] at ha; cases ha
  | d ks => have h := h.1; rw [h] at ha; cases ha
  | e ks => have h := h.1; rw [h] at ha; cases ha
  | i C ns => obtain ⟨dx, h, _⟩ := h; rw [h] at ha; cases ha
theorem obAt_un {H : Hp} {s : Sh} {a b : Addr} {vs : List V} {od : Obj} {u x : HO} (h : ObAt H s b vs) (ha : H a = some (.frz od u)) : ObAt (upd H a x) s b vs :=
  ObAt.go (fun o e => by rw [upd_ne (obAt_ne h ha)]; exact e) h
mutual
theorem Rp.un {M M' : Addr → Prop} {H : Hp} {a : Addr} {od : Obj} {u x : HO} (ha : H a = some (.frz od u)) (g : ∀ b, b ≠ a → ¬ M b → ¬ M' b) : ∀ {d : Dt} {v : V}, Rp M H d v → Rp M' (upd H a x) d v
  | .sc w, v, h => by
    unfold Rp at h ⊢
    exact h
  | .node s ds, v, h => by
    unfold Rp at h ⊢
    obtain ⟨b, vs, e, n, o, r⟩ := h
    exact ⟨b, vs, e, g b (obAt_ne o ha) n, obAt_un o ha, RpL.un ha g r⟩
theorem RpL.un {M M' : Addr → Prop} {H : Hp} {a : Addr} {od : Obj} {u x : HO} (ha : H a = some (.frz od u)) (g : ∀ b, b ≠ a → ¬ M b → ¬ M' b) : ∀ {ds : List Dt} {vs : List V}, RpL M H ds vs → RpL M' (upd H a x) ds vs
  | [], vs, h => by
    unfold RpL at h ⊢
    exact h
  | d :: ds, vs, h => by
    unfold RpL at h ⊢
    obtain ⟨v, r, e, p, t⟩ := h
    exact ⟨v, r, e, Rp.un ha g p, RpL.un ha g t⟩
end
mutual
theorem Ow.un {M M' : Addr → Prop} {H : Hp} {a : Addr} {od : Obj} {u x : HO} (ha : H a = some (.frz od u)) (g : ∀ b, b ≠ a → ¬ M b → ¬ M' b) : ∀ {d : Dt} {p : Pat} {v : V} {bs : List Addr}, Ow M H d p v bs → Ow M' (upd H a x) d p v bs
  | .sc w, p, v, bs, h => by
    unfold Ow at h ⊢
    exact h
  | .node s ds, .sh, v, bs, h => by
    rw [ow_sh] at h ⊢
    exact ⟨h.1, h.2.un ha g⟩
  | .node s ds, .ow p, v, bs, h => by
    unfold Ow at h ⊢
    obtain ⟨b, vs, cs, e, o, rfl, f⟩ := h
    exact ⟨b, vs, cs, e, obAt_un o ha, rfl, OwF.un ha g f⟩
  | .node s ds, .fs ps, v, bs, h => by
    unfold Ow at h ⊢
    obtain ⟨b, vs, cs, e, o, rfl, f⟩ := h
    exact ⟨b, vs, cs, e, obAt_un o ha, rfl, OwF.un ha g f⟩
theorem OwF.un {M M' : Addr → Prop} {H : Hp} {a : Addr} {od : Obj} {u x : HO} (ha : H a = some (.frz od u)) (g : ∀ b, b ≠ a → ¬ M b → ¬ M' b) : ∀ {ds : List Dt} {ps : List Pat} {vs : List V} {bs : List Addr}, OwF M H ds ps vs bs → OwF M' (upd H a x) ds ps vs bs
  | [], ps, vs, bs, h => by
    unfold OwF at h ⊢
    exact h
  | d :: ds, ps, vs, bs, h => by
    unfold OwF at h ⊢
    obtain ⟨p, pr, v, r, b, c, e1, e2, rfl, h1, h2⟩ := h
    exact ⟨p, pr, v, r, b, c, e1, e2, rfl, Ow.un ha g h1, OwF.un ha g h2⟩
end
theorem OkL.un {M M' : Addr → Prop} {H : Hp} {a : Addr} {od : Obj} {u x : HO} (ha : H a = some (.frz od u)) (g : ∀ b, b ≠ a → ¬ M b → ¬ M' b) : ∀ {ρ : List Sl} {σ : List (Option V)} {as : List Addr}, OkL M H ρ σ as → OkL M' (upd H a x) ρ σ as
  | [], σ, as, h => h
  | .una :: ρ, σ, as, ⟨r, e, t⟩ => ⟨r, e, OkL.un ha g t⟩
  | .any :: ρ, σ, as, ⟨y, r, e, t⟩ => ⟨y, r, e, OkL.un ha g t⟩
  | .own d p :: ρ, σ, as, ⟨v, r, bs, cs, e, ea, o, t⟩ => ⟨v, r, bs, cs, e, ea, o.un ha g, OkL.un ha g t⟩
/-- what is known while a is locked: H1, O1 as it was when the lock was laid -/
def ZL (Z : Hp → (Addr → Prop) → Prop) (a : Addr) (od : Obj) (u : HO) (H1 : Hp) (O1 : Addr → Prop) : Hp → (Addr → Prop) → Prop := fun H O => (¬ O a ∧ H a = some (.frz od u) ∧ Z (upd H a u) (fun b => O b ∨ b = a)) ∧ Lt H1 O1 H O
theorem ZL.mz {Z : Hp → (Addr → Prop) → Prop} {a : Addr} {od : Obj} {u : HO} {H1 : Hp} {O1 : Addr → Prop} (mz : ∀ H O H' O', Z H O → Lt H O H' O' → Z H' O') : ∀ H O H' O', ZL Z a od u H1 O1 H O → Lt H O H' O' → ZL Z a od u H1 O1 H' O' := by
  rintro H O H' O' ⟨⟨n, e, z⟩, l0⟩ l
  refine ⟨⟨fun q => ?_, l.1 a _ n e, mz _ _ _ _ z ⟨fun b o nb hb => ?_, fun b hb => ?_⟩⟩, l0.trans l⟩
  · rcases l.2 a q with q | q
    · exact n q
    · rw [q] at e; cases e
  · have hne : b ≠ a := fun q => nb (.inr q)
    rw [upd_ne hne] at hb ⊢
    exact l.1 b o (fun q => nb (.inl q)) hb
  · rcases hb with hb | hb
    · by_cases q : b = a
      · exact .inl (.inr q)
      · rcases l.2 b hb with q2 | q2
        · exact .inl (.inl q2)
        · exact .inr (by rw [upd_ne q]; exact q2)
    · exact .inl (.inr hb)
end Ho
namespace Ho
open PySem PySem.Spec PyProof.Rows L2 Evl
/-- what is known while a shared dict is locked -/
def ZS (Z : Hp → (Addr → Prop) → Prop) (a : Addr) (od : Obj) (u : HO) (H1 : Hp) (O1 : Addr → Prop) : Hp → (Addr → Prop) → Prop := fun H O => (¬ O a ∧ H a = some (.frz od u) ∧ Z (upd H a u) O) ∧ Lt H1 O1 H O
theorem ZS.mz {Z : Hp → (Addr → Prop) → Prop} {a : Addr} {od : Obj} {u : HO} {H1 : Hp} {O1 : Addr → Prop} (mz : ∀ H O H' O', Z H O → Lt H O H' O' → Z H' O') : ∀ H O H' O', ZS Z a od u H1 O1 H O → Lt H O H' O' → ZS Z a od u H1 O1 H' O' := by
  rintro H O H' O' ⟨⟨n, e, z⟩, l0⟩ l
  have nO' : ¬ O' a := fun q => by
    rcases l.2 a q with q | q
    · exact n q
    · rw [q] at e; cases e
  refine ⟨⟨nO', l.1 a _ n e, mz _ _ _ _ z ⟨fun b o nb hb => ?_, fun b hb => ?_⟩⟩, l0.trans l⟩
  · by_cases q : b = a
    · rw [q, upd_same] at hb ⊢
      exact hb
    · rw [upd_ne q] at hb ⊢
      exact l.1 b o nb hb
  · have q : b ≠ a := fun q => nO' (by rw [← q]; exact hb)
    rcases l.2 b hb with q2 | q2
    · exact .inl q2
    · exact .inr (by rw [upd_ne q]; exact q2)
end Ho
namespace Ho
open PySem PySem.Spec PyProof.Rows L2 Evl
section
variable {K : PySem.W.Frag} {σ : L2.St} {H : Hp} {M : Addr → Prop} {ta tb : TE} {ds : List Dt}
theorem ev_isiNL {n : String} {b : Bool} (ha : EvN M ta σ H .l ds) (hb : Ev tb σ H (.ty n)) (hk : kitB "list" n = some b) : Ev (tCB (rIsi K) (tCons ta (tCons tb tNil))) σ H (.bl b) :=
  ev_isi ha hb (fun v H1 _ hv => by obtain ⟨p, vs, rfl, h, _⟩ := hv; exact tyx_L (slof h)) (mon_N _ _ _) (.ty n) (kit_ty hk)
end
end Ho
namespace Ho
open PySem PySem.Spec PyProof.Rows L2 Evl
theorem scal_O (a b : Option Int) : scal (vO a) (vO b) = true := by cases a <;> cases b <;> rfl
theorem dec_O {a b : Option Int} : decide (vO a = vO b) = decide (a = b) := by
  cases a with
  | none => cases b with
    | none => rfl
    | some j => exact decide_eq_decide.mpr ⟨fun z => (by cases z), fun z => (by cases z)⟩
  | some i => cases b with
    | none => exact decide_eq_decide.mpr ⟨fun z => (by cases z), fun z => (by cases z)⟩
    | some j => exact decide_eq_decide.mpr ⟨fun z => (by cases z; rfl), fun z => (by cases z; rfl)⟩
section
variable {K : PySem.W.Frag} {σ : L2.St} {H : Hp} {ta tb : TE} {a b : Option Int}
theorem ev_neO (ha : Ev ta σ H (vO a)) (hb : Ev tb σ H (vO b)) : Ev (tOp rNe ta tb) σ H (.bl (!decide (a = b))) := ev_op ha hb fun H1 e Q q => ⟨scal_O a b, by rw [dec_O]; exact q H1 (Ex.refl H1)⟩
end
end Ho
namespace Ho
open PySem PySem.Spec PyProof.Rows L2 Evl LamX
/-- what may be owned: no table, nothing told by its object -/
def Plain (H : Hp) (a : Addr) : Prop := ∃ o, H a = some o ∧ (∀ ps, o ≠ .tbl ps) ∧ ∀ φ, o ≠ .ext φ
theorem ObAt.plain {H : Hp} {s : Sh} {a : Addr} {vs : List V} (h : ObAt H s a vs) : Plain H a := by
  cases s with
  | l => exact ⟨_, h, fun _ z => (by cases z), fun _ z => (by cases z)⟩
  | t => exact ⟨_, h, fun _ z => (by cases z), fun _ z => (by cases z)⟩
  | d ks => exact ⟨_, h.1, fun _ z => (by cases z), fun _ z => (by cases z)⟩
  | e ks => exact ⟨_, h.1, fun _ z => (by cases z), fun _ z => (by cases z)⟩
  | i C ns => exact ⟨_, h.choose_spec.1, fun _ z => (by cases z), fun _ z => (by cases z)⟩
mutual
theorem Ow.plain {M : Addr → Prop} {H : Hp} : ∀ {d : Dt} {p : Pat} {v : V} {bs : List Addr}, Ow M H d p v bs → ∀ a ∈ bs, Plain H a
  | .sc w, p, v, bs, h => by
    unfold Ow at h
    rw [h.2.2]
    intro a ha; cases ha
  | .node s ds, .sh, v, bs, h => by
    unfold Ow at h
    rw [h.1]
    intro a ha; cases ha
  | .node s ds, .ow p, v, bs, h => by
    unfold Ow at h
    obtain ⟨a, vs, cs, e, o, rfl, f⟩ := h
    intro b hb
    rcases List.mem_cons.mp hb with rfl | hb
    · exact o.plain
    · exact OwF.plain f b hb
  | .node s ds, .fs ps, v, bs, h => by
    unfold Ow at h
    obtain ⟨a, vs, cs, e, o, rfl, f⟩ := h
    intro b hb
    rcases List.mem_cons.mp hb with rfl | hb
    · exact o.plain
    · exact OwF.plain f b hb
theorem OwF.plain {M : Addr → Prop} {H : Hp} : ∀ {ds : List Dt} {ps : List Pat} {vs : List V} {bs : List Addr}, OwF M H ds ps vs bs → ∀ a ∈ bs, Plain H a
  | [], ps, vs, bs, h => by
    unfold OwF at h
    rw [h.2.2]
    intro a ha; cases ha
  | d :: ds, ps, vs, bs, h => by
    unfold OwF at h
    obtain ⟨p, pr, v, r, b, c, e1, e2, e3, h1, h2⟩ := h
    rw [e3]
    intro a ha
    rcases List.mem_append.mp ha with ha | ha
    · exact Ow.plain h1 a ha
    · exact OwF.plain h2 a ha
end
theorem OkL.plain {M : Addr → Prop} {H : Hp} : ∀ {ρ : List Sl} {σ : List (Option V)} {as : List Addr}, OkL M H ρ σ as → ∀ a ∈ as, Plain H a
  | [], σ, as, h => by
    rw [h.2]
    intro a ha; cases ha
  | .una :: ρ, σ, as, ⟨r, e, t⟩ => t.plain
  | .any :: ρ, σ, as, ⟨x, r, e, t⟩ => t.plain
  | .own d p :: ρ, σ, as, ⟨v, r, bs, cs, e, ea, o, t⟩ => by
    subst ea
    intro a ha
    rcases List.mem_append.mp ha with ha | ha
    · exact o.plain a ha
    · exact t.plain a ha
/-- all but the tables stay -/
def ExT (T : List (Addr × Str)) (H H' : Hp) : Prop := ∀ a o, (∀ p ∈ T, a ≠ p.1) → H a = some o → H' a = some o
/-- a table's code objects are told, none of it owned -/
def TabO (H : Hp) (O : Addr → Prop) (P : Addr) (q : Str) : Prop := ∃ ps : Array Value, H P = some (.tbl ps) ∧ ¬ O P ∧ TriplesOk ps.toList ∧ ∀ (pos : Pos) (cv : Value), codeAmong pos ps.toList = some cv → ∃ c, cv = .ref c ∧ H c = some (CodeO c q) ∧ ¬ O c
def TabsO (T : List (Addr × Str)) (H : Hp) (O : Addr → Prop) : Prop := ∀ p ∈ T, TabO H O p.1 p.2
/-- later, but for the tables -/
def LtT (T : List (Addr × Str)) (H : Hp) (O : Addr → Prop) (H' : Hp) (O' : Addr → Prop) : Prop := (∀ a o, ¬ O a → (∀ p ∈ T, a ≠ p.1) → H a = some o → H' a = some o) ∧ ∀ b, O' b → O b ∨ H b = none
def ZT (T : List (Addr × Str)) (Hb : Hp) : Hp → (Addr → Prop) → Prop := fun H O => LtT T Hb Mo H O ∧ TabsO T H O
section
variable {T : List (Addr × Str)} {F : Addr → Prop} {Z : Hp → (Addr → Prop) → Prop} {ρ : List Sl} {σ : L2.St} {H H' H1 H2 Hb : Hp} {O O1 O2 M : Addr → Prop} {d : Dt} {p : Pat} {v : V} {bs : List Addr}
theorem ExT.of (e : Ex H H') : ExT T H H' := fun a o _ h => e a o h
theorem ExT.refl (H : Hp) : ExT T H H := fun _ _ _ h => h
theorem ExT.trans (a : ExT T H H1) (b : ExT T H1 H2) : ExT T H H2 := fun c o n h => b c o n (a c o n h)
theorem TabsO.of (t : Tabs T H) (hp : ∀ a, O a → Plain H a) : TabsO T H O := fun p hpT => by
  obtain ⟨ps, h1, h2, h3⟩ := t p hpT
  refine ⟨ps, h1, fun z => ?_, h2, fun pos cv hc => ?_⟩
  · obtain ⟨o, e, n, _⟩ := hp _ z
    rw [h1] at e
    exact n ps (Option.some.inj e).symm
  · obtain ⟨c, e1, e2⟩ := h3 pos cv hc
    refine ⟨c, e1, e2, fun z => ?_⟩
    obtain ⟨o, e, _, n⟩ := hp _ z
    rw [e2] at e
    exact n _ (Option.some.inj e).symm
theorem TabsO.lt (t : TabsO T H O) (l : Lt H O H1 O1) : TabsO T H1 O1 := fun p hp => by
  obtain ⟨ps, h1, h2, h3, h4⟩ := t p hp
  refine ⟨ps, l.1 _ _ h2 h1, fun z => ?_, h3, fun pos cv hc => ?_⟩
  · rcases l.2 _ z with y | y
    · exact h2 y
    · rw [y] at h1; cases h1
  · obtain ⟨c, e1, e2, e3⟩ := h4 pos cv hc
    refine ⟨c, e1, l.1 _ _ e3 e2, fun z => ?_⟩
    rcases l.2 _ z with y | y
    · exact e3 y
    · rw [y] at e2; cases e2
/-- what is new stays new: a table was there -/
theorem LtT.lt (x : LtT T H O H1 O1) (y : Lt H1 O1 H2 O2) (hT : ∀ p ∈ T, H p.1 ≠ none → H1 p.1 ≠ none) (hO : ∀ p ∈ T, ¬ O1 p.1) : LtT T H O H2 O2 := by
  refine ⟨fun a o n m e => y.1 a o (fun z => ?_) (x.1 a o n m e), fun b hb => ?_⟩
  · rcases x.2 a z with z | z
    · exact n z
    · rw [z] at e; cases e
  · rcases y.2 b hb with z | z
    · exact x.2 b z
    · by_cases q : O b
      · exact .inl q
      · cases e : H b with
        | none => exact .inr rfl
        | some o =>
          by_cases m : ∀ p ∈ T, b ≠ p.1
          · rw [x.1 b o q m e] at z; cases z
          · exfalso
            apply m
            rintro p hp rfl
            exact hT p hp (by rw [e]; simp) z
theorem ZT.mz : ∀ H O H' O', ZT T Hb H O → Lt H O H' O' → ZT T Hb H' O' := fun H O H' O' z l =>
  ⟨z.1.lt l (fun p hp _ => by
      obtain ⟨ps, h1, _⟩ := z.2 p hp
      rw [h1]; simp) (fun p hp => by
      obtain ⟨ps, _, h2, _⟩ := z.2 p hp
      exact h2), z.2.lt l⟩
theorem ExT.lt (x : ExT T H H1) (O : Addr → Prop) : LtT T H O H1 O := ⟨fun a o _ m e => x a o m e, fun _ h => .inl h⟩
theorem Plain.ext {a : Addr} (h : Plain H a) (x : ExT T H H1) (t : Tabs T H) : Plain H1 a := by
  obtain ⟨o, e, n1, n2⟩ := h
  refine ⟨o, x _ _ (fun p hp z => ?_) e, n1, n2⟩
  obtain ⟨ps, h1, _⟩ := t p hp
  rw [z, h1] at e
  exact n1 ps (Option.some.inj e).symm
end
end Ho
namespace Ho
open PySem PySem.Spec PyProof.Rows L2 Evl LamX PySem.W
theorem OkL.push {M : Addr → Prop} {H : Hp} {d : Dt} {v : V} (h : Rp M H d v) : ∀ {ρ : List Sl} {σ : List (Option V)}, OkL M H ρ σ [] → OkL M H (ρ ++ [st d]) (σ ++ [some v]) []
  | [], σ, ⟨e, _⟩ => by
    subst e
    exact ⟨v, [], [], [], rfl, rfl, ow_sh.mpr ⟨rfl, h⟩, rfl, rfl⟩
  | .una :: ρ, σ, ⟨r, e, t⟩ => by
    subst e
    exact ⟨r ++ [some v], rfl, OkL.push h t⟩
  | .any :: ρ, σ, ⟨x, r, e, t⟩ => by
    subst e
    exact ⟨x, r ++ [some v], rfl, OkL.push h t⟩
  | .own d' p :: ρ, σ, ⟨w, r, bs, cs, e, ea, o, t⟩ => by
    obtain ⟨rfl, rfl⟩ := List.append_eq_nil_iff.mp ea.symm
    subst e
    exact ⟨w, r ++ [some v], [], [], rfl, rfl, o, OkL.push h t⟩
theorem Ok.push {ρ : List Sl} {σ : L2.St} {H : Hp} {d : Dt} {v : V} {F : Addr → Prop} {Z : Hp → (Addr → Prop) → Prop} {M : Addr → Prop} (ok : Ok F Z ρ σ H M) (h : Rp Mo H d v) : Ok Mo (fun _ _ => True) (ρ.map rdSl ++ [st d]) (σ ++ [some v]) H Mo := by
  obtain ⟨as, nd, own, sl⟩ := ok.sl
  exact ⟨⟨[], List.nodup_nil, (fun a ha => by cases ha), OkL.push h sl.rd⟩, fun a h => h.elim, fun a h => h, trivial, fun _ _ _ _ _ _ => trivial⟩
end Ho
namespace Ho
open PySem PySem.Spec PyProof.Rows L2 Evl
structure DefAtD (K : PySem.W.Frag) (mg : Str → Option Value) (x qual : Str) (st : Stmt) (ps : List Str) (dvs : List V) : Prop where
  ex : ∃ f fd ds, mg x = some (.ref f) ∧ FunD K x qual (defArgs st) (defBody st) (defScope st) dvs [] f fd ∧ Binds K fd ps [] ∧ Vals dvs ds ∧ Binds K fd ps ds
structure OkFD (P : Program) (w : World) (K : PySem.W.Frag) (mg : Str → Option Value) (base : Heap) (CX : CXT) (x : Str) (k : Nat) (sp : Sp) (dvs : List V) : Prop where
  ex : ∃ f fd ps ds, mg x = some (.ref f) ∧ PySem.W.keepIn K (.ref f) = true ∧ Binds K fd ps [] ∧ Vals dvs ds ∧ Binds K fd ps ds ∧ FnOk P w K mg base CX k f fd ps sp
def tDfl (dvs : List V) (t : TA) : TA := fun σ H Q => t σ H fun vs H1 => Q (vs ++ dvs) H1
section
variable {P : Program} {w : World} {K : PySem.W.Frag} {mg : Str → Option Value} {base : Heap}
theorem OkFD.full {CX : CXT} {x : Str} {k : Nat} {sp : Sp} {dvs : List V} (O : OkFD P w K mg base CX x k sp dvs) : OkF P w K mg base CX x k sp := by
  obtain ⟨f, fd, ps, ds, hm, hk, h1, h2, h3, h4⟩ := O.ex
  exact ⟨f, fd, ps, hm, hk, h1, h4⟩
theorem OkFD.of {x qual : Str} {st : Stmt} {ps N : List Str} {k : Nat} {sp : Sp} {dvs : List V} (D : DefAtD K mg x qual st ps dvs) (Sc : FnScope N ps (defScope st)) (len : ∀ vs H Q E, sp vs H Q E → vs.length = ps.length)
    (hbody : ∀ (f : Addr) (cdv : Value) (A : Around) (outer : List Env) (s : Shared) (H : Hp) (vs : List V) (Q : VK) (E : XK), Room k (A.deeper (envOfC qual (defScope st) s.heap.objs.size f cdv)) → sp vs H Q E →
      ∃ t, PSs (cxOf CX0 P w K mg base N qual (defScope st) f cdv A outer s H E).nox (defBody st) t ∧ t { nx := fun _ H' => Q .non H', rt := Q } (start N vs) H) : OkFD P w K mg base CX0 x (k + 1) sp dvs := by
  obtain ⟨f, fd, ds, hm, F, h1, h2, h3⟩ := D.ex
  refine ⟨f, fd, ps, ds, hm, F.kp, h1, h2, h3, F.ok Sc len fun cdv A outer s H vs Q E hr hsp => ?_⟩
  obtain ⟨t, h, q⟩ := hbody f cdv A outer s H vs Q E hr hsp
  exact ⟨t, h.nox, q⟩
end
theorem allP_add {H : Hp} {Qs : List (V → Hp → Prop)} {ws : List V} (h : AllP Qs ws H) : ∀ {Ps : List (V → Hp → Prop)} {vs : List V}, AllP Ps vs H → AllP (Ps ++ Qs) (vs ++ ws) H
  | [], vs, e => by
    have e : vs = [] := e
    subst e
    exact h
  | P :: Ps, vs, ⟨v, r, e, h1, h2⟩ => by
    subst e
    exact ⟨v, r ++ ws, rfl, h1, allP_add h h2⟩
theorem ag_dfl {M : Addr → Prop} {t : TA} {σ : L2.St} {H : Hp} {Ps : List (V → Hp → Prop)} {v : V} (h : EvAG t σ H Ps) : EvAG (tDfl [v] t) σ H (Ps ++ [isR M (.sc v)]) := fun H1 e Q q =>
  h H1 e _ fun vs H2 e2 hp => q _ H2 e2 (allP_add (Qs := [isR M (.sc v)]) (ws := [v]) (show ∃ u r, [v] = u :: r ∧ isR M (.sc v) u H2 ∧ AllP [] r H2 from ⟨v, [], rfl, by unfold isR Rp; rfl, rfl⟩) hp)
end Ho
namespace Ho
open PySem PySem.Spec PyProof.Rows L2 Evl PySem.W
abbrev g3 : Row × Row × Row → PyData := fun p => .tuple [dS p.1, dS p.2.1, dS p.2.2]
end Ho
namespace Ho
open PySem PySem.Spec PyProof.Rows L2 Evl
abbrev UK := Addr × List Key
abbrev IsU (P : Program) (w : World) (h : Heap) (p : UK) : Prop := IsTupleKey (mixKind P w) h p.2 p.1
abbrev uH (P : Program) (w : World) (k : List Key) : Int := tupleKeyHash (mixKind P w) k
abbrev stp (m : Nat) (h : Int) (c : Nat) : SetTable.Probe := nth m (runAt m (SetTable.bits h % (m + 1)) (SetTable.bits h)) c
def uRows (P : Program) (w : World) (L : List UK) : List (Int × Value) := L.map fun p => (uH P w p.2, Value.ref p.1)
structure U0 (P : Program) (w : World) (h : Heap) (a : Addr) (L : List UK) (es : Array (Int × Value)) (ep : Nat) (t : SetTable) : Prop where
  ob : ∃ o, h.get? a = some o ∧ o.ExactSet ∧ o.data = .set es ep t
  rows : es.toList = uRows P w L
  tab : TabOk t (L.map fun p => uH P w p.2)
  nd : (L.map (·.2)).Nodup
  tup : ∀ p ∈ L, IsU P w h p
  led : w.params.followText "set-order" = true ∨ t.led = true
  few : L.length < 64
structure US (P : Program) (w : World) (h : Heap) (a : Addr) (L : List UK) (es : Array (Int × Value)) (ep : Nat) (t : SetTable) : Prop extends U0 P w h a L es ep t where
  room : L.length * 5 < t.mask * 3
section
variable {P : Program} {w : World} {A : Around} {E : Value → Shared → Prop} {s : Shared} {x : UK} {a : Addr} {L : List UK} {es : Array (Int × Value)} {ep : Nat} {t : SetTable}
/-- what the set holds behind the first of some items -/
def UG (ks : List UK) (i : Nat) (L : List UK) : Prop := (∀ p ∈ L, p ∈ ks) ∧ (L.map (·.2)).Perm (ded ((ks.take i).map (·.2)))
theorem UG.len {ks : List UK} {i : Nat} (g : UG ks i L) : L.length ≤ i := by
  have h1 := g.2.length_eq
  have h2 := ded_len ((ks.take i).map (·.2))
  rw [List.length_map] at h1 h2
  rw [List.length_take] at h2
  omega
theorem UG.next {ks : List UK} {i : Nat} (hp : ks[i]? = some x) : ded ((ks.take (i + 1)).map (·.2)) = insG (ded ((ks.take i).map (·.2))) x.2 := by
  unfold ded
  rw [List.take_add_one, hp, List.map_append, List.foldl_append]
  rfl
theorem UG.new {ks L' : List UK} {i : Nat} (g : UG ks i L) (hp : ks[i]? = some x) (m : x.2 ∉ L.map (·.2)) (pm : L'.Perm (x :: L)) : UG ks (i + 1) L' := by
  refine ⟨fun p hp' => ?_, ?_⟩
  · rcases List.mem_cons.mp (pm.subset hp') with e | e
    · rw [e]
      exact List.mem_of_getElem? hp
    · exact g.1 p e
  · rw [UG.next hp, insG, if_neg fun z => m (g.2.symm.subset z)]
    refine (pm.map _).trans ?_
    rw [List.map_cons]
    exact (g.2.cons _).trans (List.perm_append_singleton _ _).symm
end
end Ho
namespace Ho
open PySem PySem.Spec PyProof.Rows L2 Evl
section
variable {P : Program} {w : World} {A : Around} {E : Value → Shared → Prop} {s : Shared} {x : UK} {a : Addr} {L : List UK} {es : Array (Int × Value)} {ep : Nat} {t : SetTable}
def UT (P : Program) (w : World) (h : Heap) (a : Addr) (L : List UK) : Prop := ∃ (es : Array (Int × Value)) (ep : Nat) (t : SetTable), (∃ o, h.get? a = some o ∧ o.ExactSet ∧ o.data = .set es ep t) ∧ es.toList = uRows P w L ∧ TabOk t (L.map fun p => uH P w p.2) ∧ (L.map (·.2)).Nodup ∧
  (w.params.followText "set-order" = true ∨ t.led = true) ∧ L.length < 64 ∧ L.length * 5 < t.mask * 3
theorem US.bare {h : Heap} (R : US P w h a L es ep t) : UT P w h a L := ⟨es, ep, t, R.ob, R.rows, R.tab, R.nd, R.led, R.few, R.room⟩
theorem UT.full {h : Heap} (R : UT P w h a L) (ht : ∀ p ∈ L, IsU P w h p) : ∃ es ep t, US P w h a L es ep t := by
  obtain ⟨es, ep, t, h1, h2, h3, h4, h5, h6, h7⟩ := R
  exact ⟨es, ep, t, ⟨h1, h2, h3, h4, ht, h5, h6⟩, h7⟩
end
def k3 : Row × Row × Row → List Key := fun p => [.inr (S p.1), .inr (S p.2.1), .inr (S p.2.2)]
end Ho
namespace Ho
open PySem PySem.Spec PyProof.Rows L2 Evl
def RetX (F : Addr → Prop) (H0 : Hp) (x : V) (bs0 : List Addr) (d1 : Dt) (p1 : Pat) (d : Dt) (Q : VK) : Prop := ∀ v bs H', (∀ a o, a ∉ bs0 → H0 a = some o → H' a = some o) → bs.Nodup → (∀ b ∈ bs, b ∈ bs0 ∨ H0 b = none) →
  Ow (Mb F bs) H' d1 p1 x bs → Rp (Mb F bs) H' d v → Q v H'
def spX (n : Nat) (R : (Addr → Prop) → List V → Hp → Dt → Pat → Dt → Pat → Dt → Prop) : Sp := fun vs H Q _ => vs.length = n + 1 ∧ ∃ F x r bs0 d0 p0 d1 p1 d, vs = x :: r ∧ bs0.Nodup ∧ (∀ b ∈ bs0, ¬ F b) ∧ Al F H ∧ Ow (Mb F bs0) H d0 p0 x bs0 ∧
  R (Mb F bs0) r H d0 p0 d1 p1 d ∧ RetX F H x bs0 d1 p1 d Q
/-- a value, the slots holding ρ behind it -/
def XV (te : TE) (F : Addr → Prop) (Z : Hp → (Addr → Prop) → Prop) (ρ : List Sl) (σ : L2.St) (H : Hp) (d : Dt) : Prop := ∀ Q : VK, (∀ v H' M', Ok F Z ρ σ H' M' → Rp M' H' d v → Q v H') → te σ H Q
def XT (t : TT) (F : Addr → Prop) (Z : Hp → (Addr → Prop) → Prop) (ρ : List Sl) (σ : L2.St) (H : Hp) (b : Bool) : Prop := ∀ Q : Bool → Hp → Prop, (∀ H' M', Ok F Z ρ σ H' M' → Q b H') → t σ H Q
theorem Ow.ob {M : Addr → Prop} {H : Hp} {s : Sh} {ds : List Dt} {p : Pat} {v : V} {bs : List Addr} (h : Ow M H (.node s ds) p v bs) : ∃ a vs, v = .ref a ∧ ObAt H s a vs := by
  cases p with
  | sh =>
    rw [ow_sh] at h
    obtain ⟨a, vs, e, o, r⟩ := Rp.n h.2
    exact ⟨a, vs, e, o⟩
  | ow p =>
    unfold Ow at h
    obtain ⟨a, vs, cs, e, o, _⟩ := h
    exact ⟨a, vs, e, o⟩
  | fs ps =>
    unfold Ow at h
    obtain ⟨a, vs, cs, e, o, _⟩ := h
    exact ⟨a, vs, e, o⟩
section
variable {K : PySem.W.Frag} {F : Addr → Prop} {Z : Hp → (Addr → Prop) → Prop} {ρ ρ' : List Sl} {σ : L2.St} {H H' Hb : Hp} {M : Addr → Prop} {d d0 d1 : Dt} {p p0 p1 : Pat} {i j n : Nat} {ta tb tc te tv : TE} {tr : TA} {t u : TT} {s : Sh} {ds : List Dt} {D : Ends} {tz tu tw : TS} {E : XK} {C : Addr} {ns : List Str} {f m : Str} {ps : List Pat}
  {Ps : List (V → Hp → Prop)} {R : (Addr → Prop) → List V → Hp → Dt → Pat → Dt → Pat → Dt → Prop} {v x w : V} {bs bs0 : List Addr} {Q : VK}
/-- what a slot owns is changed elsewhere -/
theorem Ok.swapX (ok : Ok F Z ρ σ H M) (h : ρ[i]? = some (.own d p)) : ∃ v bs, σ[i]? = some (some v) ∧ Ow M H d p v bs ∧ bs.Nodup ∧ (∀ a ∈ bs, M a ∧ ¬ F a) ∧ Mb (fun a => M a ∧ a ∉ bs) bs = M ∧
    ∀ H' d' p' bs', (∀ a o, a ∉ bs → H a = some o → H' a = some o) → bs'.Nodup → (∀ b ∈ bs', b ∈ bs ∨ H b = none) → Ow (Mb (fun a => M a ∧ a ∉ bs) bs') H' d' p' v bs' → Ok F Z (ρ.set i (.own d' p')) σ H' (Mb (fun a => M a ∧ a ∉ bs) bs') := by
  obtain ⟨as, nd, own, sl⟩ := ok.sl
  obtain ⟨v, bs, cs, h1, h2, h3, h4⟩ := sl.out h
  have nd2 := List.nodup_append.mp (h4.nodup_iff.mpr nd)
  have hb : ∀ a ∈ bs, M a ∧ ¬ F a := fun a ha => own a (h4.subset (List.mem_append_left _ ha))
  have eM : Mb (fun a => M a ∧ a ∉ bs) bs = M := by
    funext a
    apply propext
    constructor
    · rintro (z | z)
      · exact z.1
      · exact (hb a z).1
    · intro z
      by_cases q : a ∈ bs
      · exact .inr q
      · exact .inl ⟨z, q⟩
  refine ⟨v, bs, h1, h2, nd2.1, hb, eM, fun H' d' p' bs' k1 k2 k3 w => ?_⟩
  have g0 : Go M H (Mb (fun a => M a ∧ a ∉ bs) bs') H' := fun b u n e => ⟨k1 b u (fun z => n (hb b z).1) e, fun z => by
    rcases z with z | z
    · exact n z.1
    · rcases k3 b z with q | q
      · exact n (hb b q).1
      · rw [q] at e; cases e⟩
  have sl' := h3.go g0 fun b hbc u e => k1 b u (fun z => nd2.2.2 b z b hbc rfl) e
  have hi : i < ρ.length := (List.getElem?_eq_some_iff.mp h).1
  obtain ⟨as', q1, q2⟩ := OkL.back (bs := bs') w hi sl' h1
  have hal : ∀ b ∈ cs, H b ≠ none := h3.al
  refine ⟨⟨as', ?_, fun b hbb => ?_, q1⟩, fun b hbb hn => ?_, fun a ha => .inl ⟨ok.fr a ha, fun z => (hb a z).2 ha⟩, ?_, ok.mz⟩
  · rw [q2.nodup_iff, List.nodup_append]
    refine ⟨k2, nd2.2.1, fun u hu y hy z => ?_⟩
    subst z
    rcases k3 u hu with q | q
    · exact nd2.2.2 u q u hy rfl
    · exact hal u hy q
  · rcases List.mem_append.mp (q2.subset hbb) with z | z
    · refine ⟨.inr z, fun hf => ?_⟩
      rcases k3 b z with q | q
      · exact (hb b q).2 hf
      · exact ok.al b (ok.fr b hf) q
    · have := own b (h4.subset (List.mem_append_right _ z))
      exact ⟨.inl ⟨this.1, fun q => nd2.2.2 b q b z rfl⟩, this.2⟩
  · rcases hbb with z | z
    · cases e : H b with
      | none => exact ok.al b z.1 e
      | some o => rw [k1 b o z.2 e] at hn; cases hn
    · exact w.al b z hn
  · refine ok.mz _ _ _ _ ok.z ⟨fun b u n e => k1 b u (fun z => n (hb b z)) e, fun b hbb => ?_⟩
    rcases hbb.1 with z | z
    · exact .inl ⟨z.1, hbb.2⟩
    · rcases k3 b z with q | q
      · exact .inl (hb b q)
      · exact .inr q
/-- o.m(..), o the slot's -/
theorem x_meth {sel : Addr → Sp → Prop} (ok : Ok F Z ρ σ H M) (hi : ρ[i]? = some (.own (.node (.i C ns) ds) p0)) (hs : sel C (spX n R)) (hl : m ∉ ns) (h : EvAG tr σ H Ps) (hn : Ps.length = n)
    (hr : ∀ vs H1, AllP Ps vs H1 → R M vs H1 (.node (.i C ns) ds) p0 d1 p1 d) : XV (tMethU sel m E (tVar i) tr) F Z (ρ.set i (.own d1 p1)) σ H d := fun Q q => by
  obtain ⟨v, bs, h1, w, -⟩ := ok.swapX hi
  obtain ⟨a, vs, rfl, ⟨dx, ho, hz⟩⟩ := w.ob
  refine ⟨.ref a, h1, a, C, dx, _, spX n R, rfl, ho, lookup_zip hl, hs, ?_⟩
  refine h H (Ex.refl _) _ fun ws H2 e2 hp => ?_
  obtain ⟨v2, bs, h2, w, nb, hM, eM, sw⟩ := (ok.ex e2).swapX hi
  rw [h1] at h2
  obtain rfl := Option.some.inj (Option.some.inj h2)
  exact ⟨by rw [List.length_cons, hp.length, hn], fun a => M a ∧ a ∉ bs, .ref a, ws, bs, _, p0, d1, p1, d, rfl, nb, fun b hb z => z.2 hb, fun a ha => (ok.ex e2).al a ha.1, by rw [eM]; exact w, by rw [eM]; exact hr _ _ hp,
    fun v bs' H' k1 k2 k3 k4 k5 => q v H' _ (sw H' d1 p1 bs' k1 k2 k3 k4) k5⟩
theorem x_callX (ok : Ok F Z ρ σ H M) (hi : ρ[i]? = some (.own d0 p0)) (h : EvAG tr σ H Ps) (hn : Ps.length = n)
    (hr : ∀ vs H1, AllP Ps vs H1 → R M vs H1 d0 p0 d1 p1 d) : XV (tCallO (spX n R) E (tCons (tVar i) tr)) F Z (ρ.set i (.own d1 p1)) σ H d := fun Q q => by
  obtain ⟨v, bs, h1, w, -⟩ := ok.swapX hi
  refine ⟨v, h1, ?_⟩
  refine h H (Ex.refl _) _ fun ws H2 e2 hp => ?_
  obtain ⟨v2, bs, h2, w, nb, hM, eM, sw⟩ := (ok.ex e2).swapX hi
  rw [h1] at h2
  obtain rfl := Option.some.inj (Option.some.inj h2)
  exact ⟨by rw [List.length_cons, hp.length, hn], fun a => M a ∧ a ∉ bs, v, ws, bs, d0, p0, d1, p1, d, rfl, nb, fun b hb z => z.2 hb, fun a ha => (ok.ex e2).al a ha.1, by rw [eM]; exact w, by rw [eM]; exact hr _ _ hp,
    fun v bs' H' k1 k2 k3 k4 k5 => q v H' _ (sw H' d1 p1 bs' k1 k2 k3 k4) k5⟩
theorem Ok.startX (al : Al F H) (nf : ∀ b ∈ bs0, ¬ F b) (nb : bs0.Nodup) (hx : ∀ b ∈ bs0, H b ≠ none) (sl : OkL (Mb F bs0) H ρ σ bs0) : Ok F (fun H' O' => Lt H (· ∈ bs0) H' O') ρ σ H (Mb F bs0) :=
  ⟨⟨bs0, nb, fun a ha => ⟨.inr ha, nf a ha⟩, sl⟩, fun a ha => by
    rcases ha with ha | ha
    · exact al a ha
    · exact hx a ha, fun a ha => .inl ha, ⟨fun a o _ h => h, fun b hb => by
    rcases hb.1 with h | h
    · exact (hb.2 h).elim
    · exact .inl h⟩, fun _ _ _ _ z l => z.trans l⟩
theorem c_endY (ok : Ok F Z ρ σ H M) (hi : ρ[i]? = some (.own d1 p1)) (hs : σ[i]? = some (some x)) (r : Rp M H d v) (k : RetX F Hb x bs0 d1 p1 d Q) (zz : ∀ H O, Z H O → Lt Hb (· ∈ bs0) H O) : Q v H := by
  obtain ⟨as, nd, own, sl⟩ := ok.sl
  obtain ⟨u, bs, cs, h1, h2, h3, h4⟩ := sl.out hi
  rw [h1] at hs
  obtain rfl := Option.some.inj (Option.some.inj hs)
  have l := zz _ _ ok.z
  have hb : ∀ b ∈ bs, M b ∧ ¬ F b := fun b hb => own b (h4.subset (List.mem_append_left _ hb))
  have g : Go M H (Mb F bs) H := fun a o m h => ⟨h, fun z => m (by
    rcases z with z | z
    · exact ok.fr a z
    · exact (hb a z).1)⟩
  exact k v bs H (fun a o n h => l.1 a o n h) (List.nodup_append.mp (h4.nodup_iff.mpr nd)).1 (fun b hbb => l.2 b (hb b hbb)) (h2.go g fun _ _ _ h => h) (r.go g)
theorem c_retY (ok : Ok F Z ρ σ H M) (h : EvR M te σ H d) (hi : ρ[i]? = some (.own d1 p1)) (hs : σ[i]? = some (some x)) (k : RetX F Hb x bs0 d1 p1 d D.rt) (zz : ∀ H O, Z H O → Lt Hb (· ∈ bs0) H O) : tRet te D σ H :=
  h H (Ex.refl _) _ fun v H1 e r => c_endY (ok.ex e) hi hs r k zz
theorem c_retYY (h : XV te F Z ρ σ H d) (hi : ρ[i]? = some (.own d1 p1)) (hs : σ[i]? = some (some x)) (k : RetX F Hb x bs0 d1 p1 d D.rt) (zz : ∀ H O, Z H O → Lt Hb (· ∈ bs0) H O) : tRet te D σ H :=
  h _ fun v H' M' ok r => c_endY ok hi hs r k zz
theorem c_asgY (h : XV te F Z ρ σ H d) (k : ∀ v M' H', Ok F Z (ρ.set j (st d)) (σ.set j (some v)) H' M' → D.nx (σ.set j (some v)) H') : tAsg te (gName j) D σ H :=
  h _ fun v H' M' ok r => k v _ _ (ok.setR (Ex.refl _) r)
theorem b_asgY (h : XV te F Z ρ σ H d) (k : ∀ v M' H', Ok F Z (ρ.set j (st d)) (σ.set j (some v)) H' M' → tz D (σ.set j (some v)) H') : tSeq (tAsg te (gName j)) tz D σ H := c_asgY (D := { D with nx := tz D }) h k
theorem c_dropY (h : XV te F Z ρ σ H d) (k : ∀ M' H', Ok F Z ρ σ H' M' → D.nx σ H') : tDrop te D σ H :=
  h _ fun v H' M' ok r => k _ _ ok
theorem xt_B {b : Bool} (h : XV te F Z ρ σ H (uB b)) : XT (tB te) F Z ρ σ H b := fun Q q => h _ fun v H' M' ok r => ⟨b, by unfold Rp at r; exact r, q _ _ ok⟩
theorem xt_not {b : Bool} (h : XT t F Z ρ σ H b) : XT (tNot t) F Z ρ σ H (!b) := fun Q q => h _ fun H' M' ok => q _ _ ok
theorem xt_of {b : Bool} (ok : Ok F Z ρ σ H M) (h : EvT t σ H b) : XT t F Z ρ σ H b := fun Q q => h H (Ex.refl _) _ fun H2 e => q _ _ (ok.ex e)
/-- false so far, and then -/
theorem xt_or0 {c : Bool} (h : XT t F Z ρ σ H false) (h2 : ∀ H' M', Ok F Z ρ σ H' M' → EvT u σ H' c) : XT (tOr t u) F Z ρ σ H c := fun Q q => h _ fun H' M' ok => by
  rw [if_neg (by decide)]
  exact h2 _ _ ok H' (Ex.refl _) _ fun H2 e => q _ _ (ok.ex e)
theorem XT.is {b c : Bool} (h : XT t F Z ρ σ H b) (e : b = c) : XT t F Z ρ σ H c := e ▸ h
theorem XV.is {d' : Dt} (h : XV te F Z ρ σ H d) (e : d = d') : XV te F Z ρ σ H d' := e ▸ h
/-- x op y: x such a value -/
theorem x_op {r : R2} (h : XV ta F Z ρ σ H (.sc v)) (k : ∀ H' M', Ok F Z ρ σ H' M' → Ev (tOp r (tC v) tb) σ H' w) : XV (tOp r ta tb) F Z ρ σ H (.sc w) := fun Q q => h _ fun u H' M' ok e => by
  unfold Rp at e
  subst e
  exact k _ _ ok H' (Ex.refl _) _ fun H2 e2 => q _ _ _ (ok.ex e2) (by unfold Rp; rfl)
theorem c_ifY {b : Bool} (h : XT t F Z ρ σ H b) (h1 : b = true → ∀ M' H', Ok F Z ρ σ H' M' → tu D σ H') (h2 : b = false → ∀ M' H', Ok F Z ρ σ H' M' → tw D σ H') : tIfS t tu tw D σ H := h _ fun H' M' ok => by
  cases b with
  | true => exact (if_pos rfl).mpr (h1 rfl _ _ ok)
  | false => exact (if_neg (by decide)).mpr (h2 rfl _ _ ok)
theorem c_whenY {b : Bool} (h : XT t F Z ρ σ H b) (h1 : b = true → ∀ M' H', Ok F Z ρ σ H' M' → tu D σ H') (h2 : b = false → ∀ M' H', Ok F Z ρ σ H' M' → D.nx σ H') : tIfS t tu tNext D σ H := c_ifY h h1 h2
theorem b_whenY {b : Bool} (h : XT t F Z ρ σ H b) (h1 : b = true → ∀ M' H', Ok F Z ρ σ H' M' → tu { D with nx := tz D } σ H') (h2 : b = false → ∀ M' H', Ok F Z ρ σ H' M' → tz D σ H') : tSeq (tIfS t tu tNext) tz D σ H := c_whenY (D := { D with nx := tz D }) h h1 h2
theorem b_skipY (h : XT t F Z ρ σ H false) (k : ∀ M' H', Ok F Z ρ σ H' M' → tz D σ H') : tSeq (tIfS t tu tNext) tz D σ H := b_whenY h (fun e => nomatch e) fun _ => k
theorem c_asgS (ok : Ok F Z ρ σ H M) (h : EvP M te σ H d p) (k : ∀ v M' H', Ok F Z (ρ.set i (.own d p)) (σ.set i (some v)) H' M' → D.nx (σ.set i (some v)) H') : tAsg te (gName i) D σ H :=
  h H (Ex.refl H) _ fun v bs H1 e nd n w => k _ _ _ (ok.set e nd n w)
theorem b_asgS (ok : Ok F Z ρ σ H M) (h : EvP M te σ H d p) (k : ∀ v M' H', Ok F Z (ρ.set i (.own d p)) (σ.set i (some v)) H' M' → tz D (σ.set i (some v)) H') : tSeq (tAsg te (gName i)) tz D σ H := c_asgS (D := { D with nx := tz D }) ok h k
theorem c_dropS (ok : Ok F Z ρ σ H M) (h : EvP M te σ H d p) (k : ∀ M' H', Ok F Z ρ σ H' M' → D.nx σ H') : tDrop te D σ H :=
  h H (Ex.refl H) _ fun v bs H1 e nd n w => k _ _ (ok.ex e)
theorem b_dropS (ok : Ok F Z ρ σ H M) (h : EvP M te σ H d p) (k : ∀ M' H', Ok F Z ρ σ H' M' → tz D σ H') : tSeq (tDrop te) tz D σ H := c_dropS (D := { D with nx := tz D }) ok h k
theorem c_parS {i2 : Nat} {d2 : Dt} {p2 : Pat} (ok : Ok F Z ρ σ H M) (h : EvP M te σ H d p) (h2 : ∀ M' H', Ok F Z ρ σ H' M' → EvP M' tb σ H' d2 p2) (k : ∀ v v2 M' H', Ok F Z ((ρ.set i (.own d p)).set i2 (.own d2 p2)) ((σ.set i (some v)).set i2 (some v2)) H' M' → D.nx ((σ.set i (some v)).set i2 (some v2)) H') : tPar i i2 (tCons te (tCons tb tNil)) D σ H :=
  h H (Ex.refl H) _ fun v bs H1 e nd n w => by
    have ok1 : Ok F Z ρ σ H1 (Mb M bs) := ok.more e n w.al
    refine h2 _ _ ok1 H1 (Ex.refl _) _ fun v2 bs2 H2 e2 nd2 n2 w2 => ⟨v, v2, rfl, ?_⟩
    have s1 := (ok.set (i := i) e nd n w)
    have s2 := s1.set (i := i2) e2 nd2 n2 w2
    exact k _ _ _ _ s2
theorem b_parS {i2 : Nat} {d2 : Dt} {p2 : Pat} (ok : Ok F Z ρ σ H M) (h : EvP M te σ H d p) (h2 : ∀ M' H', Ok F Z ρ σ H' M' → EvP M' tb σ H' d2 p2) (k : ∀ v v2 M' H', Ok F Z ((ρ.set i (.own d p)).set i2 (.own d2 p2)) ((σ.set i (some v)).set i2 (some v2)) H' M' → tz D ((σ.set i (some v)).set i2 (some v2)) H') : tSeq (tPar i i2 (tCons te (tCons tb tNil))) tz D σ H := c_parS (D := { D with nx := tz D }) ok h h2 k
theorem c_ifE {b : Bool} (ok : Ok F Z ρ σ H M) (h : EvT t σ H b) (h1 : b = true → ∀ M' H', Ok F Z ρ σ H' M' → tu D σ H') (h2 : b = false → ∀ M' H', Ok F Z ρ σ H' M' → tw D σ H') : tIfS t tu tw D σ H := c_ifY (xt_of ok h) h1 h2
theorem c_whenE {b : Bool} (ok : Ok F Z ρ σ H M) (h : EvT t σ H b) (h1 : b = true → ∀ M' H', Ok F Z ρ σ H' M' → tu D σ H') (h2 : b = false → ∀ M' H', Ok F Z ρ σ H' M' → D.nx σ H') : tIfS t tu tNext D σ H := c_ifE ok h h1 h2
theorem b_whenE {b : Bool} (ok : Ok F Z ρ σ H M) (h : EvT t σ H b) (h1 : b = true → ∀ M' H', Ok F Z ρ σ H' M' → tu { D with nx := tz D } σ H') (h2 : b = false → ∀ M' H', Ok F Z ρ σ H' M' → tz D σ H') : tSeq (tIfS t tu tNext) tz D σ H := c_whenE (D := { D with nx := tz D }) ok h h1 h2
theorem b_skipE (ok : Ok F Z ρ σ H M) (h : EvT t σ H false) (k : ∀ M' H', Ok F Z ρ σ H' M' → tz D σ H') : tSeq (tIfS t tu tNext) tz D σ H := b_whenE ok h (fun e => nomatch e) fun _ => k
theorem c_skipE (ok : Ok F Z ρ σ H M) (h : EvT t σ H false) (k : ∀ M' H', Ok F Z ρ σ H' M' → D.nx σ H') : tIfS t tu tNext D σ H := c_whenE ok h (fun e => nomatch e) fun _ => k
theorem owF_put {M : Addr → Prop} {H : Hp} {d : Dt} {p : Pat} {y : V} {bs : List Addr} (w : Ow M H d p y bs) : ∀ {ds : List Dt} {ps : List Pat} {vs : List V} {cs : List Addr} (j : Nat), j < ds.length → OwF M H ds ps vs cs →
    ∃ cs' c0, OwF M H (ds.set j d) (ps.set j p) (vs.set j y) cs' ∧ (∀ a ∈ cs', a ∈ bs ∨ a ∈ cs) ∧ (cs.Nodup → bs.Nodup → (∀ a ∈ bs, a ∉ cs) → cs'.Nodup) ∧ c0 = cs
  | [], ps, vs, cs, j, hj, h => by simp at hj
  | d0 :: ds, ps, vs, cs, 0, _, h => by
    unfold OwF at h
    obtain ⟨q, pr, u, r, b, c, rfl, rfl, rfl, h1, h2⟩ := h
    refine ⟨bs ++ c, _, ?_, fun a ha => ?_, fun n1 n2 n3 => ?_, rfl⟩
    · show OwF M H (d :: ds) (p :: pr) (y :: r) (bs ++ c)
      unfold OwF
      exact ⟨p, pr, y, r, bs, c, rfl, rfl, rfl, w, h2⟩
    · rcases List.mem_append.mp ha with z | z
      · exact .inl z
      · exact .inr (List.mem_append_right _ z)
    · rw [List.nodup_append]
      exact ⟨n2, (List.nodup_append.mp n1).2.1, fun a ha b' hb' z => n3 a ha (List.mem_append_right _ (z ▸ hb'))⟩
  | d0 :: ds, ps, vs, cs, j + 1, hj, h => by
    unfold OwF at h
    obtain ⟨q, pr, u, r, b, c, rfl, rfl, rfl, h1, h2⟩ := h
    obtain ⟨c', _, k1, k2, k3, _⟩ := owF_put w j (by simpa using hj) h2
    refine ⟨b ++ c', _, ?_, fun a ha => ?_, fun n1 n2 n3 => ?_, rfl⟩
    · show OwF M H (d0 :: ds.set j d) (q :: pr.set j p) (u :: r.set j y) (b ++ c')
      unfold OwF
      exact ⟨q, pr.set j p, u, r.set j y, b, c', rfl, rfl, rfl, h1, k1⟩
    · rcases List.mem_append.mp ha with z | z
      · exact .inr (List.mem_append_left _ z)
      · rcases k2 a z with z | z
        · exact .inl z
        · exact .inr (List.mem_append_right _ z)
    · have n1' := List.nodup_append.mp n1
      rw [List.nodup_append]
      refine ⟨n1'.1, k3 n1'.2.1 n2 fun a ha z => n3 a ha (List.mem_append_right _ z), fun a ha b' hb' z => ?_⟩
      subst z
      rcases k2 a hb' with z | z
      · exact n3 a z (List.mem_append_left _ ha)
      · exact n1'.2.2 a ha a z rfl
/-- o.f = e, f a field already -/
theorem c_fldAt (j : Nat) (ok : Ok F Z ρ σ H M) (hi : ρ[i]? = some (.own (.node (.i C ns) ds) (.fs ps))) (h : EvP M tv σ H d p) (hC : Cls K C) (hn : NoAttr K C f) (hj : ns[j]? = some f) (ht : f ∉ ns.take j) (hl : ns.length = ds.length) (hz : ns.length < 1000)
    (k : ∀ M' H', Ok F Z (ρ.set i (.own (.node (.i C ns) (ds.set j d)) (.fs (ps.set j p)))) σ H' M' → D.nx σ H') : sFld K (tVar i) tv f D σ H :=
  h H (Ex.refl _) _ fun y bs H1 e1 nd n w => by
    obtain ⟨u, bs0, h1, w0, nb, hM, eM, sw⟩ := ok.swapX hi
    unfold Ow at w0
    obtain ⟨a, vs, cs, rfl, ⟨dx, ho, hlv⟩, rfl, f2⟩ := w0
    have nc := List.nodup_cons.mp nb
    have hjl : j < ns.length := (List.getElem?_eq_some_iff.mp hj).1
    refine ⟨_, h1, a, C, dx, ns.zip vs, rfl, e1 _ _ ho, hC, hn, by rw [List.length_zip]; omega, ?_⟩
    rw [putF_at hj ht hlv]
    have hal : ∀ b ∈ a :: cs, H b ≠ none := fun b hb => ok.al b (hM b hb).1
    have hab : a ∉ bs := fun z => hal a List.mem_cons_self (n a z)
    have hcb : ∀ b ∈ bs, b ∉ cs := fun b hb z => hal b (List.mem_cons_of_mem _ z) (n b hb)
    have keep : ∀ b, b ≠ a → ∀ o, H b = some o → upd H1 a (.ins C dx (ns.zip (vs.set j y))) b = some o := fun b hb o h => by rw [upd_ne hb]; exact e1 b o h
    have g1 : Go (Mb M bs) H1 (Mb M bs) (upd H1 a (.ins C dx (ns.zip (vs.set j y)))) := fun b u nb hb => ⟨by rw [upd_ne (fun z => nb (.inl (by rw [z]; exact (hM a List.mem_cons_self).1)))]; exact hb, nb⟩
    have w' : Ow (Mb M bs) (upd H1 a (.ins C dx (ns.zip (vs.set j y)))) d p y bs := w.go g1 fun b hb u hu => by rw [upd_ne (fun z => hab (by rw [← z]; exact hb))]; exact hu
    have g0 : Go M H (Mb M bs) (upd H1 a (.ins C dx (ns.zip (vs.set j y)))) := fun b u nb hb => ⟨keep b (fun z => nb (by rw [z]; exact (hM a List.mem_cons_self).1)) u hb, fun z => by
      rcases z with z | z
      · exact nb z
      · rw [n b z] at hb; cases hb⟩
    have f2' := f2.go g0 fun b hb u hu => keep b (fun z => nc.1 (by rw [← z]; exact hb)) u hu
    obtain ⟨cs', _, k1, k2, k3, _⟩ := owF_put w' j (by omega) f2'
    have hsub : ∀ b, Mb (fun b => M b ∧ b ∉ a :: cs) (a :: cs') b → Mb M bs b := fun b hb => by
      rcases hb with hb | hb
      · exact .inl hb.1
      · rcases List.mem_cons.mp hb with rfl | hb
        · exact .inl (hM b List.mem_cons_self).1
        · rcases k2 b hb with z | z
          · exact .inr z
          · exact .inl (hM b (List.mem_cons_of_mem _ z)).1
    have hsh : Go (Mb M bs) (upd H1 a (.ins C dx (ns.zip (vs.set j y)))) (Mb (fun b => M b ∧ b ∉ a :: cs) (a :: cs')) (upd H1 a (.ins C dx (ns.zip (vs.set j y)))) := fun b u nb hb => ⟨hb, fun z => nb (hsub b z)⟩
    have fin : Ow (Mb (fun b => M b ∧ b ∉ a :: cs) (a :: cs')) (upd H1 a (.ins C dx (ns.zip (vs.set j y)))) (.node (.i C ns) (ds.set j d)) (.fs (ps.set j p)) (.ref a) (a :: cs') := by
      unfold Ow
      exact ⟨a, vs.set j y, cs', rfl, ⟨dx, upd_same, by rw [List.length_set]; exact hlv⟩, rfl, k1.go hsh fun _ _ _ h => h⟩
    refine k _ _ (sw _ _ _ (a :: cs') (fun b o nn hb => keep b (fun z => nn (by rw [z]; exact List.mem_cons_self)) o hb) ?_ (fun b hb => ?_) fin)
    · refine List.nodup_cons.mpr ⟨fun z => ?_, k3 nc.2 nd hcb⟩
      rcases k2 a z with z | z
      · exact hab z
      · exact nc.1 z
    · rcases List.mem_cons.mp hb with rfl | hb
      · exact .inl List.mem_cons_self
      · rcases k2 b hb with z | z
        · exact .inr (n b z)
        · exact .inl (List.mem_cons_of_mem _ z)
theorem b_fldAt (j : Nat) (ok : Ok F Z ρ σ H M) (hi : ρ[i]? = some (.own (.node (.i C ns) ds) (.fs ps))) (h : EvP M tv σ H d p) (hC : Cls K C) (hn : NoAttr K C f) (hj : ns[j]? = some f) (ht : f ∉ ns.take j) (hl : ns.length = ds.length) (hz : ns.length < 1000)
    (k : ∀ M' H', Ok F Z (ρ.set i (.own (.node (.i C ns) (ds.set j d)) (.fs (ps.set j p)))) σ H' M' → tz D σ H') : tSeq (sFld K (tVar i) tv f) tz D σ H := c_fldAt (D := { D with nx := tz D }) j ok hi h hC hn hj ht hl hz k
/-- o.f += e, numbers -/
theorem c_fldAug {a b : Int} (j : Nat) (ok : Ok F Z ρ σ H M) (hi : ρ[i]? = some (.own (.node (.i C ns) ds) (.fs ps))) (h : Ev tv σ H (.int b)) (hC : Cls K C) (hn : NoAttr K C f) (hj : ns[j]? = some f) (ht : f ∉ ns.take j) (hl : ns.length = ds.length) (hz : ns.length < 1000)
    (hd : ds[j]? = some (uI a)) (hp : ps[j]? = some .sh)
    (k : ∀ M' H', Ok F Z (ρ.set i (.own (.node (.i C ns) (ds.set j (uI (a + b)))) (.fs ps))) σ H' M' → D.nx σ H') : sFldAug K (tVar i) tv rAdd f D σ H := by
  obtain ⟨u, bs0, h1, w0, nb, hM, eM, sw⟩ := ok.swapX hi
  have w1 := w0
  unfold Ow at w0
  obtain ⟨x, vs, cs, rfl, ⟨dx, ho, hlv⟩, rfl, f2⟩ := w0
  have hjl : j < ns.length := (List.getElem?_eq_some_iff.mp hj).1
  obtain ⟨vj, bj, q1, q2, -⟩ := f2.at j (uI a) .sh hd hp
  have q2 : vj = .int a := by
    unfold Ow at q2
    exact q2.2.1
  subst q2
  refine ⟨_, h1, x, C, dx, ns.zip vs, .int a, rfl, ho, hC, hn, by rw [lookup_zip_at hj ht hlv]; exact q1, ?_⟩
  refine h H (Ex.refl _) _ fun H1 e1 => ⟨a, b, rfl, rfl, dx, ns.zip vs, e1 _ _ ho, by rw [List.length_zip]; omega, ?_⟩
  have := c_fldAt (K := K) (D := D) (tv := tC (.int (a + b))) (d := uI (a + b)) (p := .sh) j (ok.ex e1) hi (p_ev fun _ _ Q q => q _ (Ex.refl _)) hC hn hj ht hl hz (by
    intro M' H' ok'
    refine k M' H' ?_
    have e : ps.set j .sh = ps := by
      refine List.ext_getElem? fun n => ?_
      by_cases z : n = j
      · subst z
        rw [hp]
        exact List.getElem?_set_self (List.getElem?_eq_some_iff.mp hp).1
      · rw [List.getElem?_set_ne (fun q => z q.symm)]
    rwa [e] at ok')
  obtain ⟨v', g1, a', C', dx', fs', g2, g3, g4, g5, g6, g7⟩ := this
  rw [h1] at g1
  obtain rfl := Option.some.inj (Option.some.inj g1)
  obtain rfl : x = a' := by injection g2
  rw [e1 _ _ ho] at g3
  injection Option.some.inj g3 with z1 z2 z3
  subst z1 z2 z3
  exact g7
theorem b_fldAug {a b : Int} (j : Nat) (ok : Ok F Z ρ σ H M) (hi : ρ[i]? = some (.own (.node (.i C ns) ds) (.fs ps))) (h : Ev tv σ H (.int b)) (hC : Cls K C) (hn : NoAttr K C f) (hj : ns[j]? = some f) (ht : f ∉ ns.take j) (hl : ns.length = ds.length) (hz : ns.length < 1000)
    (hd : ds[j]? = some (uI a)) (hp : ps[j]? = some .sh)
    (k : ∀ M' H', Ok F Z (ρ.set i (.own (.node (.i C ns) (ds.set j (uI (a + b)))) (.fs ps))) σ H' M' → tz D σ H') : tSeq (sFldAug K (tVar i) tv rAdd f) tz D σ H := c_fldAug (D := { D with nx := tz D }) j ok hi h hC hn hj ht hl hz hd hp k
/-- e is not None, of a thing -/
theorem ev_isntNoN (h : EvN M ta σ H s ds) (hb : Ev tb σ H .non) : Ev (tOp (rIsNo true) ta tb) σ H (.bl true) := fun H1 e Q q =>
  h H1 e _ fun v H2 e2 ⟨a, vs, hv, _⟩ => hb H2 (e.trans e2) _ fun H3 e3 => by
    subst hv
    exact ⟨rfl, q H3 (e2.trans e3)⟩
end
structure InitAtD (K : PySem.W.Frag) (mg : Str → Option Value) (x qual : Str) (st : Stmt) (ps : List Str) (dvs : List V) : Prop where
  ex : ∃ f fd ds, Mk K (cA mg x) f ∧ FunD K "__init__" qual (defArgs st) (defBody st) (defScope st) dvs [] f fd ∧ Binds K fd ps [] ∧ Vals dvs ds ∧ Binds K fd ps ds
structure OkID (P : Program) (w : World) (K : PySem.W.Frag) (mg : Str → Option Value) (base : Heap) (CX : CXT) (C : Addr) (k : Nat) (sp : Sp) (dvs : List V) : Prop where
  ex : ∃ f fd ps ds, Mk K C f ∧ Binds K fd ps [] ∧ Vals dvs ds ∧ Binds K fd ps ds ∧ FnOk P w K mg base CX k f fd ps sp
structure MethAtD (K : PySem.W.Frag) (mg : Str → Option Value) (x m qual : Str) (st : Stmt) (ps : List Str) (dvs : List V) : Prop where
  ex : ∃ f fd ds, Meth K (cA mg x) m f ∧ FunD K m qual (defArgs st) (defBody st) (defScope st) dvs [] f fd ∧ Binds K fd ps [] ∧ Vals dvs ds ∧ Binds K fd ps ds
structure OkMD (P : Program) (w : World) (K : PySem.W.Frag) (mg : Str → Option Value) (base : Heap) (CX : CXT) (C : Addr) (m : Str) (k : Nat) (sp : Sp) (dvs : List V) : Prop where
  ex : ∃ f fd ps ds, Meth K C m f ∧ Binds K fd ps [] ∧ Vals dvs ds ∧ Binds K fd ps ds ∧ FnOk P w K mg base CX k f fd ps sp
section
variable {P : Program} {w : World} {K : PySem.W.Frag} {mg : Str → Option Value} {base : Heap}
theorem OkID.full {CX : CXT} {C : Addr} {k : Nat} {sp : Sp} {dvs : List V} (O : OkID P w K mg base CX C k sp dvs) : OkI P w K mg base CX C k sp := by
  obtain ⟨f, fd, ps, ds, h0, h1, h2, h3, h4⟩ := O.ex
  exact ⟨f, fd, ps, h0, h1, h4⟩
theorem OkMD.full {CX : CXT} {C : Addr} {m : Str} {k : Nat} {sp : Sp} {dvs : List V} (O : OkMD P w K mg base CX C m k sp dvs) : OkM P w K mg base CX C m k sp := by
  obtain ⟨f, fd, ps, ds, h0, h1, h2, h3, h4⟩ := O.ex
  exact ⟨f, fd, ps, h0, h1, h4⟩
theorem OkID.of {x qual : Str} {st : Stmt} {ps N : List Str} {k : Nat} {sp : Sp} {dvs : List V} (D : InitAtD K mg x qual st ps dvs) (Sc : FnScope N ps (defScope st)) (len : ∀ vs H Q E, sp vs H Q E → vs.length = ps.length)
    (hbody : ∀ (f : Addr) (cdv : Value) (A : Around) (outer : List Env) (s : Shared) (H : Hp) (vs : List V) (Q : VK) (E : XK), Room k (A.deeper (envOfC qual (defScope st) s.heap.objs.size f cdv)) → sp vs H Q E →
      ∃ t, PSs (cxOf CX0 P w K mg base N qual (defScope st) f cdv A outer s H E).nox (defBody st) t ∧ t { nx := fun _ H' => Q .non H', rt := Q } (start N vs) H) : OkID P w K mg base CX0 (cA mg x) (k + 1) sp dvs := by
  obtain ⟨f, fd, ds, hm, F, h1, h2, h3⟩ := D.ex
  refine ⟨f, fd, ps, ds, hm, h1, h2, h3, F.ok Sc len fun cdv A outer s H vs Q E hr hsp => ?_⟩
  obtain ⟨t, h, q⟩ := hbody f cdv A outer s H vs Q E hr hsp
  exact ⟨t, h.nox, q⟩
theorem OkMD.of {x m qual : Str} {st : Stmt} {ps N : List Str} {k : Nat} {sp : Sp} {dvs : List V} (D : MethAtD K mg x m qual st ps dvs) (Sc : FnScope N ps (defScope st)) (len : ∀ vs H Q E, sp vs H Q E → vs.length = ps.length)
    (hbody : ∀ (f : Addr) (cdv : Value) (A : Around) (outer : List Env) (s : Shared) (H : Hp) (vs : List V) (Q : VK) (E : XK), Room k (A.deeper (envOfC qual (defScope st) s.heap.objs.size f cdv)) → sp vs H Q E →
      ∃ t, PSs (cxOf CX0 P w K mg base N qual (defScope st) f cdv A outer s H E).nox (defBody st) t ∧ t { nx := fun _ H' => Q .non H', rt := Q } (start N vs) H) : OkMD P w K mg base CX0 (cA mg x) m (k + 1) sp dvs := by
  obtain ⟨f, fd, ds, hm, F, h1, h2, h3⟩ := D.ex
  refine ⟨f, fd, ps, ds, hm, h1, h2, h3, F.ok Sc len fun cdv A outer s H vs Q E hr hsp => ?_⟩
  obtain ⟨t, h, q⟩ := hbody f cdv A outer s H vs Q E hr hsp
  exact ⟨t, h.nox, q⟩
end
section
variable {X : Cx} {CX : CXT} {k j : Nat} {C : Addr} {sp : Sp} {E : XK} {x : Str} {p pos : Pos} {e : Expr} {es : List Expr} {t : TA} {dvs : List V}
theorem pe_makeD (O : OkID X.prog X.w X.K X.mg X.base CX C k sp dvs) (hm : X.mg x = some (.ref C)) (hr : Room j X.A) (hg : Gl X x) (hx : Passes CX X E) (ha : PA X (e :: es) t) (hk : k + 1 ≤ j := by decide)
    (hdb : (x == ("__debug__" : Str)) = false := by decide) (he : starEach (e :: es) X.env = (false, eval e X.env) :: starEach es X.env := by rfl) (hpl : (backTo pos (starEach es X.env)).any (·.1) = false := by rfl) :
    PE X (.Call (.Name x p) (e :: es) [] pos) (tMakeO C sp E (tDfl dvs t)) := by
  obtain ⟨f, fd, ps, ds, M, h1, h2, h3, F⟩ := O.ex
  exact pe_make (pos := pos) (p := p) (x := x) M F (hr.mono hk) hg hm h3 h2 hx ha hdb he hpl
end
end Ho
namespace PySem.SeqAt
open AutoSeq1 (wpAny_loadPart')
open MeetsSeq MeetsSeq2 MeetsSeq3 SeqRoads2
end PySem.SeqAt
namespace Ho
open PySem PySem.Spec PyProof.Rows L2 Evl
/-- without dicts; at most n deep -/
inductive Cq : Nat → Dt → Prop
  | non {n : Nat} : Cq n uN
  | bl {n : Nat} (b : Bool) : Cq n (uB b)
  | int {n : Nat} (i : Int) : Cq n (uI i)
  | str {n : Nat} (r : Row) : Cq n (uS r)
  | lst {n : Nat} {ds : List Dt} : ds.length ≤ 1000 → (∀ d ∈ ds, Cq n d) → Cq (n + 1) (.node .l ds)
  | tup {n : Nat} {ds : List Dt} : ds.length ≤ 1000 → (∀ d ∈ ds, Cq n d) → Cq (n + 1) (.node .t ds)
/-- dicts of texts among lists, too -/
inductive Cp : Nat → Dt → Prop
  | q {n : Nat} {d : Dt} : Cq n d → Cp n d
  | lst {n : Nat} {ds : List Dt} : ds.length ≤ 1000 → (∀ d ∈ ds, Cp n d) → Cp (n + 1) (.node .l ds)
  | dic {n : Nat} {r : Dic} : (r.map (·.1)).Nodup → r.length ≤ 1000 → Cp (n + 1) (uD r)
def tyD : Dt → String
  | .sc .non => "NoneType"
  | .sc (.bl _) => "bool"
  | .sc (.int _) => "int"
  | .sc _ => "str"
  | .node .l _ => "list"
  | .node .t _ => "tuple"
  | .node _ _ => "dict"
theorem Cp.ty {K : PySem.W.Frag} {H : Hp} {n : Nat} {d : Dt} {v : V} (h : Cp n d) (r : Rp Mo H d v) : TyX K H v (.type (tyD d)) := by
  have node_l : ∀ {ds : List Dt}, Rp Mo H (.node .l ds) v → TyX K H v (.type "list") := fun r => by
    unfold Rp at r
    obtain ⟨a, vs, rfl, _, o, _⟩ := r
    exact tyx_L (slof o)
  cases h with
  | q h =>
    cases h with
    | non => unfold Rp at r; rw [r]; exact .base .non
    | bl b => unfold Rp at r; rw [r]; exact .base (.bl _)
    | int i => unfold Rp at r; rw [r]; exact .base (.int _)
    | str x => unfold Rp at r; rw [r]; exact .base (.str _)
    | lst _ _ => exact node_l r
    | tup _ _ =>
      unfold Rp at r
      obtain ⟨a, vs, rfl, _, o, _⟩ := r
      exact tyx_T (stof o)
  | lst _ _ => exact node_l r
  | dic _ _ =>
    unfold Rp at r
    obtain ⟨a, vs, rfl, _, o, _⟩ := r
    exact .base (.dK o.1)
mutual
def fz : Dt → Bool
  | .sc _ => true
  | .node .t ds => fzL ds
  | .node _ _ => false
def fzL : List Dt → Bool
  | [] => true
  | d :: ds => fz d && fzL ds
end
mutual
def fl : Dt → Pat
  | .sc _ => .sh
  | .node .t ds => if fzL ds then .sh else .fs (flL ds)
  | .node _ ds => .fs (flL ds)
def flL : List Dt → List Pat
  | [] => []
  | d :: ds => fl d :: flL ds
end
theorem flL_map : ∀ ds : List Dt, flL ds = ds.map fl
  | [] => by unfold flL; rfl
  | d :: ds => by unfold flL; rw [flL_map ds]; rfl
theorem fl_sc (v : V) : fl (.sc v) = .sh := by unfold fl; rfl
theorem fl_d (ks : List Key) (ds : List Dt) : fl (.node (.d ks) ds) = .fs (ds.map fl) := by unfold fl; rw [flL_map]
end Ho
namespace Ho
open PySem PySem.Spec PyProof.Rows L2 Evl
/-- one item apart; another one in its place -/
theorem OwF.atX {M : Addr → Prop} {H : Hp} : ∀ {ds : List Dt} {ps : List Pat} {vs : List V} {cs : List Addr}, OwF M H ds ps vs cs → ∀ (j : Nat) (d : Dt) (p : Pat), ds[j]? = some d → ps[j]? = some p →
    ∃ v b c, vs[j]? = some v ∧ Ow M H d p v b ∧ cs.Perm (b ++ c) ∧ ∀ M' H' d' p' b' y, Go M H M' H' → (∀ x ∈ c, ∀ o, H x = some o → H' x = some o) → Ow M' H' d' p' y b' → ∃ cs', cs'.Perm (b' ++ c) ∧ OwF M' H' (ds.set j d') (ps.set j p') (vs.set j y) cs'
  | [], ps, vs, cs, h, j, d, p, e, _ => by simp at e
  | d0 :: ds, ps, vs, cs, h, j, d, p, e, e' => by
    unfold OwF at h
    obtain ⟨p0, pr, v0, r, b0, c, rfl, rfl, rfl, h1, h2⟩ := h
    cases j with
    | zero =>
      simp at e e'
      subst e e'
      refine ⟨v0, b0, c, rfl, h1, List.Perm.refl _, fun M' H' d' p' b' y g k w => ⟨b' ++ c, List.Perm.refl _, ?_⟩⟩
      show OwF M' H' (d' :: ds) (p' :: pr) (y :: r) _
      unfold OwF
      exact ⟨p', pr, y, r, b', c, rfl, rfl, rfl, w, h2.go g k⟩
    | succ j =>
      simp at e e'
      obtain ⟨v, b, c2, k1, k2, k3, k4⟩ := h2.atX j d p e e'
      refine ⟨v, b, b0 ++ c2, by simpa using k1, k2, ?_, fun M' H' d' p' b' y g k w => ?_⟩
      · refine (k3.append_left b0).trans ?_
        rw [← List.append_assoc, ← List.append_assoc]
        exact (List.perm_append_comm (l₁ := b0) (l₂ := b)).append_right c2
      · obtain ⟨cs', q1, q2⟩ := k4 M' H' d' p' b' y g (fun x hx => k x (List.mem_append_right _ hx)) w
        refine ⟨b0 ++ cs', ?_, ?_⟩
        · refine (q1.append_left b0).trans ?_
          rw [← List.append_assoc, ← List.append_assoc]
          exact (List.perm_append_comm (l₁ := b0) (l₂ := b')).append_right c2
        · show OwF M' H' (d0 :: ds.set j d') (p0 :: pr.set j p') (v0 :: r.set j y) _
          unfold OwF
          exact ⟨p0, _, v0, _, b0, cs', rfl, rfl, rfl, h1.go g (fun x hx => k x (List.mem_append_left _ hx)), q2⟩
section
variable {K : PySem.W.Frag} {F : Addr → Prop} {Z : Hp → (Addr → Prop) → Prop} {ρ : List Sl} {σ : L2.St} {H H' Hb : Hp} {M : Addr → Prop} {d d0 d1 : Dt} {p p0 p1 : Pat} {i j n : Nat} {ta tb tc te to tv : TE} {tr : TA} {t u : TT} {s : Sh} {ds : List Dt} {D : Ends} {tz tu tw : TS} {E : XK} {ps : List Pat} {α : Type}
  {Ps : List (V → Hp → Prop)} {R : (Addr → Prop) → List V → Hp → Dt → Pat → Dt → Pat → Dt → Prop} {v x w : V} {bs bs0 : List Addr} {Q : VK}
theorem ow_rep {M : Addr → Prop} {bs : List Addr} : Ow M H (.node s ds) (.ow p) v bs ↔ Ow M H (.node s ds) (.fs (List.replicate ds.length p)) v bs := by
  constructor
  · intro h
    unfold Ow at h ⊢
    exact h
  · intro h
    unfold Ow at h ⊢
    exact h
end
end Ho
namespace Ho
open PySem PySem.Spec PyProof.Rows L2 Evl
theorem zip_inj2 {α β : Type} : ∀ {l : List α} {a b : List β}, l.length = a.length → l.length = b.length → l.zip a = l.zip b → a = b
  | [], [], [], _, _, _ => rfl
  | x :: l, y :: a, z :: b, h1, h2, h => by
    rw [List.zip_cons_cons, List.zip_cons_cons] at h
    obtain ⟨e1, e2⟩ := List.cons.inj h
    rw [(Prod.mk.inj e1).2, zip_inj2 (by simpa using h1) (by simpa using h2) e2]
theorem ObAt.fn {H : Hp} {s : Sh} {a : Addr} {vs ws : List V} (h : ObAt H s a vs) (k : ObAt H s a ws) : vs = ws := by
  cases s with
  | l =>
    have h : H a = some (.lst vs) := h
    have k : H a = some (.lst ws) := k
    rw [h] at k
    injection k with k
    injection k
  | t =>
    have h : H a = some (.tup vs) := h
    have k : H a = some (.tup ws) := k
    rw [h] at k
    injection k with k
    injection k
  | d ks =>
    have h1 := h.1
    rw [k.1] at h1
    injection h1 with h1
    injection h1 with h1
    exact (zip_inj2 k.2 h.2 h1).symm
  | e ks =>
    have h1 := h.1
    rw [k.1] at h1
    injection h1 with h1
    injection h1 with h1
    exact (zip_inj2 k.2 h.2 h1).symm
  | i C ns =>
    obtain ⟨d1, h1, h2⟩ := h
    obtain ⟨d2, k1, k2⟩ := k
    rw [k1] at h1
    injection h1 with h1
    injection h1 with _ _ h1
    exact (zip_inj2 k2 h2 h1).symm
mutual
theorem Ow.uniq {M : Addr → Prop} {H : Hp} : ∀ {d : Dt} {p : Pat} {v : V} {bs cs : List Addr}, Ow M H d p v bs → Ow M H d p v cs → bs = cs
  | .sc w, p, v, bs, cs, h, k => by
    unfold Ow at h k
    rw [h.2.2, k.2.2]
  | .node s ds, .sh, v, bs, cs, h, k => by
    unfold Ow at h k
    rw [h.1, k.1]
  | .node s ds, .ow p, v, bs, cs, h, k => by
    unfold Ow at h k
    obtain ⟨a, vs, c, e, o, rfl, f⟩ := h
    obtain ⟨a', vs', c', e', o', rfl, f'⟩ := k
    subst e
    injection e' with e'
    subst e'
    obtain rfl := o.fn o'
    rw [OwF.uniq f f']
  | .node s ds, .fs ps, v, bs, cs, h, k => by
    unfold Ow at h k
    obtain ⟨a, vs, c, e, o, rfl, f⟩ := h
    obtain ⟨a', vs', c', e', o', rfl, f'⟩ := k
    subst e
    injection e' with e'
    subst e'
    obtain rfl := o.fn o'
    rw [OwF.uniq f f']
theorem OwF.uniq {M : Addr → Prop} {H : Hp} : ∀ {ds : List Dt} {ps : List Pat} {vs : List V} {bs cs : List Addr}, OwF M H ds ps vs bs → OwF M H ds ps vs cs → bs = cs
  | [], ps, vs, bs, cs, h, k => by
    unfold OwF at h k
    rw [h.2.2, k.2.2]
  | d :: ds, ps, vs, bs, cs, h, k => by
    unfold OwF at h k
    obtain ⟨p, pr, v, r, b, c, rfl, rfl, rfl, h1, h2⟩ := h
    obtain ⟨p', pr', v', r', b', c', e1, e2, rfl, k1, k2⟩ := k
    obtain ⟨rfl, rfl⟩ := List.cons.inj e1
    obtain ⟨rfl, rfl⟩ := List.cons.inj e2
    rw [Ow.uniq h1 k1, OwF.uniq h2 k2]
end
/-- the way from the slot to a part of what it owns; W, WP: the whole, the part being another one -/
def RchX (to : TE) (σ : L2.St) (H : Hp) (M : Addr → Prop) (i : Nat) (d0 : Dt) (p0 : Pat) (d : Dt) (p : Pat) (W : Dt → Dt) (WP : Pat → Pat) : Prop :=
  ∀ v0 bs0, σ[i]? = some (some v0) → Ow M H d0 p0 v0 bs0 → ∃ v b c, (∀ H1, Ex H H1 → ∀ Q : VK, (∀ H2, Ex H1 H2 → Q v H2) → to σ H1 Q) ∧ Ow M H d p v b ∧ bs0.Perm (b ++ c) ∧
    ∀ M' H' d' p' b', Go M H M' H' → (∀ x ∈ c, ∀ o, H x = some o → H' x = some o) → Ow M' H' d' p' v b' → ∃ bs', bs'.Perm (b' ++ c) ∧ Ow M' H' (W d') (WP p') v0 bs'
section
variable {K : PySem.W.Frag} {F : Addr → Prop} {Z : Hp → (Addr → Prop) → Prop} {ρ ρ' : List Sl} {σ : L2.St} {H H' Hb : Hp} {M : Addr → Prop} {d d0 d1 d00 : Dt} {p p0 p1 p00 : Pat} {i j n : Nat} {ta tb tc te to tv : TE} {tr : TA} {t u : TT} {s : Sh} {ds : List Dt} {D : Ends} {tz tu tw : TS} {E : XK} {ps : List Pat} {α : Type}
  {Ps : List (V → Hp → Prop)} {R : (Addr → Prop) → List V → Hp → Dt → Pat → Dt → Pat → Dt → Prop} {v x w : V} {bs bs0 : List Addr} {Q : VK} {W : Dt → Dt} {WP : Pat → Pat}
theorem RchX.var : RchX (tVar i) σ H M i d p d p id id := fun v0 bs0 e w => ⟨v0, bs0, [], fun H1 e1 Q q => ⟨v0, e, q H1 (Ex.refl _)⟩, w, by simp, fun M' H' d' p' b' g k w' => ⟨b', by simp, w'⟩⟩
theorem set_self {β : Type} {l : List β} {n : Nat} {x : β} (h : l[n]? = some x) : l.set n x = l := by
  refine List.ext_getElem? fun m => ?_
  by_cases z : m = n
  · subst z
    rw [h]
    exact List.getElem?_set_self (List.getElem?_eq_some_iff.mp h).1
  · rw [List.getElem?_set_ne (fun q => z q.symm)]
/-- an item told by what evaluates to it -/
theorem RchX.item (h : RchX to σ H M i d0 p0 (.node s ds) (.fs ps) W WP) (hd : ds[n]? = some d) (hp : ps[n]? = some p)
    (ev : ∀ v a vs y, (∀ H1, Ex H H1 → ∀ Q : VK, (∀ H2, Ex H1 H2 → Q v H2) → to σ H1 Q) → v = .ref a → ObAt H s a vs → vs[n]? = some y → ∀ H1, Ex H H1 → ∀ Q : VK, (∀ H2, Ex H1 H2 → Q y H2) → te σ H1 Q) :
    RchX te σ H M i d0 p0 d p (fun x => W (.node s (ds.set n x))) (fun x => WP (.fs (ps.set n x))) := fun v0 bs0 e0 w0 => by
  obtain ⟨v, b, c, ev0, w, pm, put⟩ := h v0 bs0 e0 w0
  unfold Ow at w
  obtain ⟨a, vs, cs, rfl, ho, rfl, f2⟩ := w
  obtain ⟨vn, bn, c2, k1, k2, k3, k4⟩ := f2.atX n d p hd hp
  refine ⟨vn, bn, a :: (c2 ++ c), ev _ a vs vn ev0 rfl ho k1, k2, ?_, fun M' H' d' p' b' g k w' => ?_⟩
  · refine pm.trans ?_
    have h1 : (a :: cs ++ c).Perm (a :: (bn ++ c2) ++ c) := (k3.cons a).append_right c
    refine h1.trans ?_
    rw [List.cons_append, List.append_assoc]
    exact List.perm_middle.symm
  · obtain ⟨cs', q1, q2⟩ := k4 M' H' d' p' b' vn g (fun x hx => k x (List.mem_cons_of_mem _ (List.mem_append_left _ hx))) w'
    rw [set_self k1] at q2
    obtain ⟨bs', r1, r2⟩ := put M' H' (.node s (ds.set n d')) (.fs (ps.set n p')) (a :: cs') g (fun x hx => k x (List.mem_cons_of_mem _ (List.mem_append_right _ hx))) (by
      unfold Ow
      exact ⟨a, vs, cs', rfl, ho.go fun o h => k a List.mem_cons_self o h, rfl, q2⟩)
    refine ⟨bs', r1.trans ?_, r2⟩
    have h1 : (a :: cs' ++ c).Perm (a :: (b' ++ c2) ++ c) := (q1.cons a).append_right c
    refine h1.trans ?_
    rw [List.cons_append, List.append_assoc]
    exact List.perm_middle.symm
/-- a part is changed elsewhere -/
theorem Ok.swapC {v0 : V} {b c : List Addr} (ok : Ok F Z ρ σ H M) (hi : ρ[i]? = some (.own d0 p0)) (e0 : σ[i]? = some (some v0)) (w0' : Ow M H d0 p0 v0 bs0) (w : Ow M H d p v b) (pm : bs0.Perm (b ++ c))
    (put : ∀ M' H' d' p' b', Go M H M' H' → (∀ x ∈ c, ∀ o, H x = some o → H' x = some o) → Ow M' H' d' p' v b' → ∃ bs', bs'.Perm (b' ++ c) ∧ Ow M' H' (W d') (WP p') v0 bs') : b.Nodup ∧ (∀ a ∈ b, M a ∧ ¬ F a) ∧ Mb (fun a => M a ∧ a ∉ b) b = M ∧
    ∀ H' d' p' b', (∀ a o, a ∉ b → H a = some o → H' a = some o) → b'.Nodup → (∀ x ∈ b', x ∈ b ∨ H x = none) → Ow (Mb (fun a => M a ∧ a ∉ b) b') H' d' p' v b' → Ok F Z (ρ.set i (.own (W d') (WP p'))) σ H' (Mb (fun a => M a ∧ a ∉ b) b') := by
  obtain ⟨v0', bs0', h1, w0, nb, hM, eM, sw⟩ := ok.swapX hi
  rw [h1] at e0
  obtain rfl := Option.some.inj (Option.some.inj e0)
  obtain rfl := w0.uniq w0'
  have nd := List.nodup_append.mp (pm.nodup_iff.mp nb)
  have hb : ∀ a ∈ b, a ∈ bs0' := fun a ha => pm.symm.subset (List.mem_append_left _ ha)
  have hc : ∀ a ∈ c, a ∈ bs0' := fun a ha => pm.symm.subset (List.mem_append_right _ ha)
  have hbc : ∀ a ∈ bs0', a ∈ b ∨ a ∈ c := fun a ha => List.mem_append.mp (pm.subset ha)
  refine ⟨nd.1, fun a ha => hM a (hb a ha), ?_, fun H' d' p' b' k1 k2 k3 w' => ?_⟩
  · funext a
    apply propext
    constructor
    · rintro (z | z)
      · exact z.1
      · exact (hM a (hb a z)).1
    · intro z
      by_cases q : a ∈ b
      · exact .inr q
      · exact .inl ⟨z, q⟩
  have g : Go M H (Mb (fun a => M a ∧ a ∉ b) b') H' := fun a o n e => ⟨k1 a o (fun z => n (hM a (hb a z)).1) e, fun z => by
    rcases z with z | z
    · exact n z.1
    · rcases k3 a z with q | q
      · exact n (hM a (hb a q)).1
      · rw [q] at e; cases e⟩
  have hcb : ∀ a ∈ c, a ∉ b := fun a ha hb' => nd.2.2 a hb' a ha rfl
  obtain ⟨bs', q1, q2⟩ := put _ H' d' p' b' g (fun a ha o e => k1 a o (hcb a ha) e) w'
  have hal : ∀ a ∈ bs0', H a ≠ none := fun a ha => ok.al a (hM a ha).1
  have eq : Mb (fun a => M a ∧ a ∉ b) b' = Mb (fun a => M a ∧ a ∉ bs0') bs' := by
    funext a
    apply propext
    constructor
    · rintro (z | z)
      · by_cases q : a ∈ bs0'
        · exact .inr (q1.symm.subset (List.mem_append_right _ ((hbc a q).resolve_left z.2)))
        · exact .inl ⟨z.1, q⟩
      · exact .inr (q1.symm.subset (List.mem_append_left _ z))
    · rintro (z | z)
      · exact .inl ⟨z.1, fun q => z.2 (hb a q)⟩
      · rcases List.mem_append.mp (q1.subset z) with z | z
        · exact .inr z
        · exact .inl ⟨(hM a (hc a z)).1, hcb a z⟩
  rw [eq] at q2 ⊢
  refine sw H' _ _ bs' (fun a o n e => k1 a o (fun z => n (hb a z)) e) ?_ (fun a ha => ?_) q2
  · rw [q1.nodup_iff, List.nodup_append]
    refine ⟨k2, nd.2.1, fun x hx y hy z => ?_⟩
    subst z
    rcases k3 x hx with q | q
    · exact hcb x hy q
    · exact hal x (hc x hy) q
  · rcases List.mem_append.mp (q1.subset ha) with z | z
    · exact (k3 a z).imp_left (hb a)
    · exact .inl (hc a z)
theorem Ok.swapR (ok : Ok F Z ρ σ H M) (hi : ρ[i]? = some (.own d0 p0)) (Rr : RchX to σ H M i d0 p0 d p W WP) : ∃ v b, (∀ H1, Ex H H1 → ∀ Q : VK, (∀ H2, Ex H1 H2 → Q v H2) → to σ H1 Q) ∧ Ow M H d p v b ∧ b.Nodup ∧ (∀ a ∈ b, M a ∧ ¬ F a) ∧ Mb (fun a => M a ∧ a ∉ b) b = M ∧
    ∀ H' d' p' b', (∀ a o, a ∉ b → H a = some o → H' a = some o) → b'.Nodup → (∀ x ∈ b', x ∈ b ∨ H x = none) → Ow (Mb (fun a => M a ∧ a ∉ b) b') H' d' p' v b' → Ok F Z (ρ.set i (.own (W d') (WP p'))) σ H' (Mb (fun a => M a ∧ a ∉ b) b') := by
  obtain ⟨v0, bs0, h1, w0, _⟩ := ok.swapX hi
  obtain ⟨v, b, c, ev, w, pm, put⟩ := Rr v0 bs0 h1 w0
  exact ⟨v, b, ev, w, ok.swapC hi h1 w0 w pm put⟩
theorem ow_dic {r : Dic} : Ow M H (uD r) (fl (uD r)) v bs ↔ ∃ a, v = .ref a ∧ H a = some (.dK (DS r)) ∧ bs = [a] := by
  have e : fl (uD r) = .fs (List.replicate (r.map fun p => uS p.2).length .sh) := by
    rw [fl_d]
    congr 1
    rw [List.map_map]
    refine List.ext_getElem (by simp) fun n h1 h2 => ?_
    simp [fl_sc]
  rw [e, ← ow_rep, ow_mu]
  constructor
  · rintro ⟨a, vs, rfl, o, rfl, r1⟩
    rw [rpL_sc (g := fun p : Row × Row => VS p.2)] at r1
    subst r1
    have o := o.1
    rw [DS_zip] at o
    exact ⟨a, rfl, o, rfl⟩
  · rintro ⟨a, rfl, o, rfl⟩
    exact ⟨a, r.map fun p => VS p.2, rfl, ⟨by rw [DS_zip]; exact o, by simp⟩, rfl, rpL_sc.mpr rfl⟩
/-- (part).clear(), a dict -/
theorem c_clearP {r : Dic} (ok : Ok F Z ρ σ H M) (hi : ρ[i]? = some (.own d0 p0)) (Rr : RchX to σ H M i d0 p0 (uD r) (fl (uD r)) W WP) (k : ∀ M' H', Ok F Z (ρ.set i (.own (W (uD [])) (WP (fl (uD []))))) σ H' M' → D.nx σ H') :
    tDrop (tBM0 K "dict" rDClear to) D σ H := by
  obtain ⟨v, b, ev, w, nb, hM, eM, sw⟩ := ok.swapR hi Rr
  obtain ⟨a, rfl, o, rfl⟩ := ow_dic.mp w
  refine ev H (Ex.refl _) _ fun H2 e2 => ⟨.inr (.inr (.inl ⟨rfl, .inl ⟨_, e2 _ _ o⟩⟩)), a, _, rfl, rfl, e2 _ _ o, ?_⟩
  refine k _ _ (sw (upd H2 a (.dK [])) _ _ [a] (fun b u nbb e => ?_) nb (fun b hb => .inl hb) (ow_dic.mpr ⟨a, rfl, upd_same, rfl⟩))
  rw [upd_ne (fun z => nbb (List.mem_singleton.mpr z))]
  exact e2 _ _ e
end
end Ho
namespace Ho
open PySem PySem.Spec PyProof.Rows L2 Evl LamX PySem.W
structure Lm where
  params : Arguments
  body : Expr
  scope : Scope
/-- the function object at f is this lambda's -/
def LmO (q : Str) (L : Lm) (c' f : Addr) : HO := .ext fun h => ∃ pm ctv, h.get? f = some (kla_obj "<lambda>" q L.params L.body L.scope [] pm c' ctv)
def LmAt (q : Str) (L : Lm) (H : Hp) (f : Addr) : Prop := ∃ c', H f = some (LmO q L c' f) ∧ H c' = some (CodeO c' q)
theorem LmAt.ex {q : Str} {L : Lm} {H H' : Hp} {f : Addr} (h : LmAt q L H f) (e : Ex H H') : LmAt q L H' f := by
  obtain ⟨c', h1, h2⟩ := h
  exact ⟨c', e _ _ h1, e _ _ h2⟩
/-- the same, nothing of it owned -/
def LmAtO (q : Str) (L : Lm) (H : Hp) (O : Addr → Prop) (f : Addr) : Prop := ∃ c', H f = some (LmO q L c' f) ∧ H c' = some (CodeO c' q) ∧ ¬ O f ∧ ¬ O c'
theorem LmAtO.at {q : Str} {L : Lm} {H : Hp} {O : Addr → Prop} {f : Addr} (h : LmAtO q L H O f) : LmAt q L H f := by
  obtain ⟨c', h1, h2, _⟩ := h
  exact ⟨c', h1, h2⟩
theorem LmAtO.lt {q : Str} {L : Lm} {H H' : Hp} {O O' : Addr → Prop} {f : Addr} (h : LmAtO q L H O f) (l : Lt H O H' O') : LmAtO q L H' O' f := by
  obtain ⟨c', h1, h2, h3, h4⟩ := h
  refine ⟨c', l.1 _ _ h3 h1, l.1 _ _ h4 h2, fun z => ?_, fun z => ?_⟩
  · rcases l.2 _ z with y | y
    · exact h3 y
    · rw [y] at h1; cases h1
  · rcases l.2 _ z with y | y
    · exact h4 y
    · rw [y] at h2; cases h2
/-- the lambdas of a list, in order -/
def LmsAt (q : Str) (Ls : List Lm) (H : Hp) (fs : List Addr) : Prop := fs.length = Ls.length ∧ ∀ (i : Nat) (L : Lm) (f : Addr), Ls[i]? = some L → fs[i]? = some f → LmAt q L H f
/-- the maker's list under way: σ's slot 0 -/
def Mk (P : Addr) (q : Str) (Hb : Hp) (Ls : List Lm) (σ : L2.St) (H : Hp) : Prop := ∃ a fs, σ = [some (.ref a)] ∧ Hb a = none ∧ H a = some (.lst (fs.map V.ref)) ∧ ExT [(P, q)] Hb H ∧ TabS H P q ∧ LmsAt q Ls H fs
end Ho
namespace Ho
open PySem PySem.Spec PyProof.Rows L2 Evl
theorem Cq.mono {n : Nat} {d : Dt} (h : Cq n d) : ∀ {m : Nat}, n ≤ m → Cq m d := by
  induction h with
  | non => exact fun _ => .non
  | bl b => exact fun _ => .bl b
  | int i => exact fun _ => .int i
  | str r => exact fun _ => .str r
  | lst hz _ ih =>
    intro m hm
    obtain ⟨k, rfl⟩ : ∃ k, m = k + 1 := ⟨m - 1, by omega⟩
    exact .lst hz fun d hd => ih d hd (by omega)
  | tup hz _ ih =>
    intro m hm
    obtain ⟨k, rfl⟩ : ∃ k, m = k + 1 := ⟨m - 1, by omega⟩
    exact .tup hz fun d hd => ih d hd (by omega)
theorem Cp.mono {n : Nat} {d : Dt} (h : Cp n d) : ∀ {m : Nat}, n ≤ m → Cp m d := by
  induction h with
  | q h => exact fun hm => .q (h.mono hm)
  | lst hz _ ih =>
    intro m hm
    obtain ⟨k, rfl⟩ : ∃ k, m = k + 1 := ⟨m - 1, by omega⟩
    exact .lst hz fun d hd => ih d hd (by omega)
  | dic nd hz =>
    intro m hm
    obtain ⟨k, rfl⟩ : ∃ k, m = k + 1 := ⟨m - 1, by omega⟩
    exact .dic nd hz
/-- what can be spoilt -/
inductive Cx : Nat → Dt → Prop
  | q {n : Nat} {d : Dt} : Cq n d → Cx n d
  | dic {n : Nat} {r : Dic} : (r.map (·.1)).Nodup → [120] ∉ r.map (·.1) → r.length ≤ 1000 → Cx n (uD r)
end Ho
namespace Ho
open PySem PySem.Spec PyProof.Rows L2 Evl LamX PySem.W
def Cv (d : Dt) (p : Pat) : Prop := ∀ (M : Addr → Prop) (H : Hp) (v : V) (b : List Addr), Ow M H d p v b → Ow M H d (fl d) v b
theorem cv_sc {v : V} {p : Pat} : Cv (.sc v) p := fun M H u b h => by
  unfold Ow at h
  rw [fl_sc]
  unfold Ow
  exact ⟨rfl, h.2⟩
theorem cvF_ow {p : Pat} {M : Addr → Prop} {H : Hp} : ∀ {ds : List Dt} {vs : List V} {cs : List Addr}, (∀ d ∈ ds, Cv d p) → OwF M H ds (List.replicate ds.length p) vs cs → OwF M H ds (ds.map fl) vs cs
  | [], vs, cs, _, h => h
  | d :: ds, vs, cs, hc, h => by
    rw [List.length_cons, List.replicate_succ] at h
    unfold OwF at h
    obtain ⟨q, pr, v, r, b, c, e1, e2, e3, h1, h2⟩ := h
    obtain ⟨rfl, rfl⟩ := List.cons.inj e1
    rw [List.map_cons]
    unfold OwF
    exact ⟨_, _, v, r, b, c, rfl, e2, e3, hc d List.mem_cons_self M H v b h1, cvF_ow (fun d hd => hc d (List.mem_cons_of_mem _ hd)) h2⟩
theorem cv_ow {s : Sh} {ds : List Dt} {p : Pat} (hf : fl (.node s ds) = .fs (ds.map fl)) (hc : ∀ d ∈ ds, Cv d p) : Cv (.node s ds) (.ow p) := fun M H v b h => by
  rw [hf]
  unfold Ow at h ⊢
  obtain ⟨a, vs, cs, e, o, e2, f⟩ := h
  exact ⟨a, vs, cs, e, o, e2, cvF_ow hc f⟩
theorem cv_D {r : Dic} : Cv (uD r) (.ow .sh) := cv_ow (fl_d _ _) fun d hd => by
  obtain ⟨x, hx, rfl⟩ := List.mem_map.mp hd
  exact cv_sc
section
variable {K : PySem.W.Frag} {σ : L2.St} {H : Hp} {M : Addr → Prop} {ta te : TE} {d : Dt} {p : Pat} {C : Addr} {ns : List Str} {ds : List Dt} {ps : List Pat} {f : Str}
theorem p_cv (h : EvP M te σ H d p) (c : Cv d p) : EvP M te σ H d (fl d) := fun H1 e Q q => h H1 e Q fun v bs H2 e2 nd n w => q v bs H2 e2 nd n (c _ _ _ _ w)
end
end Ho
namespace Ho
open PySem PySem.Spec PyProof.Rows L2 Evl
section
variable {K : PySem.W.Frag} {h : Heap} {mg : Str → Option Value} {x m qual : Str} {st : Stmt} {f : Addr} {fd : FuncData} {ps : List Str} {dvs : List V}
theorem cA_ga (X : K.In h) (G : h.Ns mainGlobals mg) (c : (He.Fa.glo x).ok K = true) : cA mg x = He.ga K x := by
  unfold cA
  rw [He.glo_ok X G c]
theorem fun_he (F : FunD K x qual (defArgs st) (defBody st) (defScope st) [] [] f fd) : L2.Fun K x qual st f fd := by
  obtain ⟨oc, od, dV, kV, doc, pm, an, cdv, ct, osl, rfl, lk, hcd, hD, hK⟩ := F.ex
  rcases hD with ⟨_, rfl⟩ | ⟨e, _⟩
  · exact ⟨⟨oc, od, kV, doc, pm, an, cdv, ct, osl, rfl, lk, hcd⟩, F.kp⟩
  · exact absurd rfl e
abbrev BindN (x qual : Str) (st : Stmt) (ps : List Str) : Prop := ∀ (kV doc pm : Value) (an : Option Addr) (cdv ct : Value) (us : List Value), us.length = ps.length → bindArgs (PySem.W.fnOf x qual (defArgs st) (defBody st) (defScope st) .none kV doc pm an cdv ct) ⟨us, []⟩ = pure (ps.zip us)
theorem defAt_he (X : K.In h) (G : h.Ns mainGlobals mg) (c : (He.Fa.glo x).ok K = true) (F : ∃ fd, FunD K x x (defArgs st) (defBody st) (defScope st) [] [] (He.ga K x) fd) (b : BindN x x st ps) : DefAt K mg x x st ps := by
  obtain ⟨fd, F⟩ := F
  exact ⟨_, fd, He.glo_ok X G c, fun_he F, F.bindsN b⟩
theorem methAt_he (X : K.In h) (G : h.Ns mainGlobals mg) (c : (He.Fa.glo x).ok K = true) (cm : (He.Fa.meth x m).ok K = true) (F : ∃ fd, FunD K m qual (defArgs st) (defBody st) (defScope st) [] [] (He.ma K (He.ga K x) m) fd) (b : BindN m qual st ps) : MethAt K mg x m qual st ps := by
  obtain ⟨fd, F⟩ := F
  exact ⟨_, fd, by rw [cA_ga X G c]; exact He.meth_ok cm, fun_he F, F.bindsN b⟩
theorem initAt_he (X : K.In h) (G : h.Ns mainGlobals mg) (c : (He.Fa.glo x).ok K = true) (cm : (He.Fa.mkr x).ok K = true) (F : ∃ fd, FunD K "__init__" qual (defArgs st) (defBody st) (defScope st) [] [] (He.ma K (He.ga K x) "__init__") fd) (b : BindN "__init__" qual st ps) : InitAt K mg x qual st ps := by
  obtain ⟨fd, F⟩ := F
  exact ⟨_, fd, by rw [cA_ga X G c]; exact He.mkr_ok cm, fun_he F, F.bindsN b⟩
/-- with defaults -/
abbrev BindD (x qual : Str) (st : Stmt) (ps : List Str) (n nd : Nat) (g : List Value → List Value → List Value) : Prop := ∀ (T : Addr) (kV doc pm : Value) (an : Option Addr) (cdv ct : Value) (us its : List Value), us.length = n → its.length = nd →
  ∃ k, bindArgs (PySem.W.fnOf x qual (defArgs st) (defBody st) (defScope st) (.ref T) kV doc pm an cdv ct) ⟨us, []⟩ = seqItems? (.ref T) >>= k ∧ k (some its.toArray) = pure (ps.zip (g us its))
theorem binds_he (F : FunD K x qual (defArgs st) (defBody st) (defScope st) dvs [] f fd) (hd : dvs ≠ []) (hn : dvs.length ≤ ps.length) (b1 : BindD x qual st ps ps.length dvs.length fun us _ => us) (b2 : BindD x qual st ps (ps.length - dvs.length) dvs.length fun us its => us ++ its) :
    ∃ ds, Binds K fd ps [] ∧ Vals dvs ds ∧ Binds K fd ps ds := by
  obtain ⟨ds1, v1, B1⟩ := F.binds1 (ps := ps) ps.length dvs.length hd (by omega) fun T kV doc pm an cdv ct us its h1 h2 => by
    obtain ⟨k, e1, e2⟩ := b1 T kV doc pm an cdv ct us its h1 h2
    exact ⟨k, e1, by rw [e2, ← h2, List.drop_length, List.append_nil]⟩
  obtain ⟨ds2, v2, B2⟩ := F.binds1 (ps := ps) (ps.length - dvs.length) 0 hd (by omega) fun T kV doc pm an cdv ct us its h1 h2 => by
    obtain ⟨k, e1, e2⟩ := b2 T kV doc pm an cdv ct us its h1 h2
    exact ⟨k, e1, by rw [e2, List.drop_zero]⟩
  rw [List.drop_length] at v1
  rw [List.drop_zero] at v2
  cases v1
  exact ⟨ds2, B1, v2, B2⟩
theorem methAtD_he (X : K.In h) (G : h.Ns mainGlobals mg) (c : (He.Fa.glo x).ok K = true) (cm : (He.Fa.meth x m).ok K = true) (F : ∃ fd, FunD K m qual (defArgs st) (defBody st) (defScope st) dvs [] (He.ma K (He.ga K x) m) fd) (hd : dvs ≠ []) (hn : dvs.length ≤ ps.length)
    (b1 : BindD m qual st ps ps.length dvs.length fun us _ => us) (b2 : BindD m qual st ps (ps.length - dvs.length) dvs.length fun us its => us ++ its) : MethAtD K mg x m qual st ps dvs := by
  obtain ⟨fd, F⟩ := F
  obtain ⟨ds, B1, v, B2⟩ := binds_he F hd hn b1 b2
  exact ⟨_, fd, ds, by rw [cA_ga X G c]; exact He.meth_ok cm, F, B1, v, B2⟩
theorem initAtD_he (X : K.In h) (G : h.Ns mainGlobals mg) (c : (He.Fa.glo x).ok K = true) (cm : (He.Fa.mkr x).ok K = true) (F : ∃ fd, FunD K "__init__" qual (defArgs st) (defBody st) (defScope st) dvs [] (He.ma K (He.ga K x) "__init__") fd) (hd : dvs ≠ []) (hn : dvs.length ≤ ps.length)
    (b1 : BindD "__init__" qual st ps ps.length dvs.length fun us _ => us) (b2 : BindD "__init__" qual st ps (ps.length - dvs.length) dvs.length fun us its => us ++ its) : InitAtD K mg x qual st ps dvs := by
  obtain ⟨fd, F⟩ := F
  obtain ⟨ds, B1, v, B2⟩ := binds_he F hd hn b1 b2
  exact ⟨_, fd, ds, by rw [cA_ga X G c]; exact He.mkr_ok cm, F, B1, v, B2⟩
def getB (K : PySem.W.Frag) : Bool := He.eqO (PySem.W.specialIn K (.builtin "object.__class__") "__get__") (some (some (.builtin "getset_descriptor.__get__"))) && decide (PySem.W.takesIn K (.builtin "object.__class__") = some true)
def clsB (K : PySem.W.Frag) (x : Str) : Bool := He.eqO (PySem.W.findIn K (.ref (He.ga K x)) "__class__") (some (some (.builtin "object.__class__"))) && decide (PySem.W.mroIn K (He.ga K x) (.type "object") = some true)
def kitB (K : PySem.W.Frag) (q : Str × Str × Bool) : Bool := decide (PySem.W.kitOne K (.ref (He.ga K q.1)) (.ref (He.ga K q.2.1)) = some q.2.2)
theorem clsAt_he (X : K.In h) (G : h.Ns mainGlobals mg) (c : (He.Fa.glo x).ok K = true) (cl : (He.Fa.cls x).ok K = true) (g : getB K = true) (b : clsB K x = true) : ClsAt K mg x := by
  have e := cA_ga X G c
  obtain ⟨g1, g2⟩ := He.ba g
  obtain ⟨b1, b2⟩ := He.ba b
  exact ⟨by rw [e]; exact He.glo_ok X G c, by rw [e]; exact He.cls_ok cl, by rw [e]; exact He.eqO_ok b1, He.eqO_ok g1, of_decide_eq_true g2, by rw [e]; exact of_decide_eq_true b2⟩
theorem noAt_he (X : K.In h) (G : h.Ns mainGlobals mg) (c : (He.Fa.glo x).ok K = true) (n : (He.Fa.noat x m).ok K = true) : NoAttr K (cA mg x) m := by
  rw [cA_ga X G c]
  exact He.noat_ok n
theorem kit_he {y : Str} {b : Bool} (X : K.In h) (G : h.Ns mainGlobals mg) (c : (He.Fa.glo x).ok K = true) (c2 : (He.Fa.glo y).ok K = true) (q : kitB K (x, y, b) = true) : PySem.W.kitOne K (.ref (cA mg x)) (.ref (cA mg y)) = some b := by
  rw [cA_ga X G c, cA_ga X G c2]
  exact of_decide_eq_true q
theorem all_at {α : Type} {l : List α} {f : α → Bool} (h : l.all f = true) (i : Nat) {a : α} (e : l[i]? = some a) : f a = true := List.all_eq_true.mp h a (List.mem_of_getElem? e)
end
end Ho
namespace Ho
open PySem PySem.Spec PyProof.Rows L2 Evl LamX
def LmsAtO (q : Str) (Ls : List Lm) (H : Hp) (O : Addr → Prop) (fs : List Addr) : Prop := fs.length = Ls.length ∧ ∀ (i : Nat) (L : Lm) (f : Addr), Ls[i]? = some L → fs[i]? = some f → LmAtO q L H O f
def Zl (T : List (Addr × Str)) (Hb : Hp) (q : Str) (Ls : List Lm) (fs : List Addr) : Hp → (Addr → Prop) → Prop := fun H O => ZT T Hb H O ∧ LmsAtO q Ls H O fs
section
variable {K : PySem.W.Frag} {T : List (Addr × Str)} {F : Addr → Prop} {ρ : List Sl} {σ : L2.St} {H H' Hb : Hp} {O O' M : Addr → Prop} {q : Str} {Ls : List Lm} {Lf : Nat → Lm} {fs : List Addr} {D : Ends} {tz : TS} {E : XK} {i : Nat} {P : Addr}
theorem LmsAtO.lt (h : LmsAtO q Ls H O fs) (l : Lt H O H' O') : LmsAtO q Ls H' O' fs := ⟨h.1, fun i L f h1 h2 => (h.2 i L f h1 h2).lt l⟩
theorem Zl.mz : ∀ H O H' O', Zl T Hb q Ls fs H O → Lt H O H' O' → Zl T Hb q Ls fs H' O' := fun H O H' O' z l => ⟨ZT.mz _ _ _ _ z.1 l, z.2.lt l⟩
end
end Ho
namespace Ho
open PySem PySem.Spec PyProof.Rows L2 Evl
def dictRefs (g : Addr → Option Obj) (a : Addr) : List Addr := match g a with
  | some ⟨_, _, .dict es _, _⟩ => es.toList.flatMap fun e => He.refV e.val
  | _ => []
def funRefs (g : Addr → Option Obj) (a : Addr) : List Addr := match g a with
  | some ⟨_, _, .func fd, _⟩ => He.refV fd.code ++ He.refV fd.defaults
  | _ => []
def topRefs (g : Addr → Option Obj) (a : Addr) : List Addr := match g a with
  | some ⟨_, _, .func fd, _⟩ => He.refV fd.code ++ He.refV fd.defaults
  | some ⟨_, _, .cls cd, _⟩ => cd.ns :: (dictRefs g cd.ns ++ (dictRefs g cd.ns).flatMap (funRefs g))
  | _ => []
def asY (g : Addr → Option Obj) : List Addr := mainGlobals :: (dictRefs g mainGlobals ++ ((dictRefs g mainGlobals).flatMap (topRefs g) ++ [cStatics]))
def frY (g : Addr → Option Obj) : PySem.W.Frag := He.frT g (asY g)
section
variable (fa : List He.Fa) (f1 f2 f3 : List He.DefD) (tf : List He.Defn) (ex : PySem.W.Frag → Bool) (g : Addr → Option Obj)
def obsF (fn : List He.DefD) : He.AlD := (fn.all fun d => d.ok (frY g), fn.map fun d => He.fnW (frY g) d.at_)
def obsA : Bool := (fa.all fun f => f.ok (frY g)) && (ex (frY g) && He.tabsB g tf (frY g))
abbrev AlY : Type := Bool × He.AlD × He.AlD × He.AlD
def obsY : AlY := (obsA fa tf ex g, obsF g f1, obsF g f2, obsF g f3)
def valY : AlY := (true, He.valD f1, He.valD f2, He.valD f3)
end
section
variable {fa : List He.Fa} {f1 f2 f3 fn : List He.DefD} {tf : List He.Defn} {ex : PySem.W.Frag → Bool} {w : World} {h : Heap} {g : Addr → Option Obj}
theorem obsF_ok (e : obsF g fn = He.valD fn) : (fn.all fun d => d.ok (frY g)) = true ∧ (fn.map fun d => He.fnW (frY g) d.at_) = fn.map He.DefD.val :=
  ⟨congrArg Prod.fst e, congrArg Prod.snd e⟩
theorem saysY (e : obsY fa f1 f2 f3 tf ex h.get? = valY f1 f2 f3) : He.SaysX fa (f1 ++ (f2 ++ f3)) [] tf ex w h (frY h.get?) := by
  have e0 : obsA fa tf ex h.get? = true := congrArg Prod.fst e
  obtain ⟨a1, b1⟩ := obsF_ok (g := h.get?) (fn := f1) (congrArg (fun z : AlY => z.2.1) e)
  obtain ⟨a2, b2⟩ := obsF_ok (g := h.get?) (fn := f2) (congrArg (fun z : AlY => z.2.2.1) e)
  obtain ⟨a3, b3⟩ := obsF_ok (g := h.get?) (fn := f3) (congrArg (fun z : AlY => z.2.2.2) e)
  obtain ⟨c1, c2⟩ := He.ba e0
  obtain ⟨c3, c4⟩ := He.ba c2
  have tab : ∀ p ∈ tf, PySem.W.codeHdIn (frY h.get?) (He.cT (frY h.get?) p).1 (He.cT (frY h.get?) p).2 = true ∧ ∃ o, h.get? (He.cT (frY h.get?) p).2 = some o ∧ He.emptyTab o = true := by
    intro p hp
    obtain ⟨q1, q2⟩ := He.ba (List.all_eq_true.mp c4 p hp)
    refine ⟨q1, ?_⟩
    revert q2
    cases h.get? (He.cT (frY h.get?) p).2 with
    | none => exact fun z => nomatch z
    | some o => exact fun z => ⟨o, rfl, z⟩
  constructor
  · show (((fa.all fun f => f.ok (frY h.get?)) && (f1 ++ (f2 ++ f3)).all fun d => d.ok (frY h.get?), (f1 ++ (f2 ++ f3)).map fun d => He.fnW (frY h.get?) d.at_), ([] : List (Option (List (Option (Str × Int)))))) = ((true, (f1 ++ (f2 ++ f3)).map He.DefD.val), [])
    rw [List.all_append, List.all_append, List.map_append, List.map_append, List.map_append, List.map_append, c1, a1, a2, a3, b1, b2, b3]
    rfl
  · exact c3
  · exact fun p hp => (tab p hp).1
  · intro p hp
    obtain ⟨-, o, q1, q2⟩ := tab p hp
    exact He.frT_none q1 q2
  · intro p hp
    obtain ⟨-, o, q1, q2⟩ := tab p hp
    rw [q1, He.emptyTab_eq q2]
def hookY (fa : List He.Fa) (f1 f2 f3 : List He.DefD) (tf : List He.Defn) (ex : PySem.W.Frag → Bool) : PySem.W.Hook where
  α := AlY
  obs := fun s => obsY fa f1 f2 f3 tf ex s.heap.get?
  val := fun _ => valY f1 f2 f3
  says := fun w h => ∃ K : PySem.W.Frag, K.In h ∧ He.SaysX fa (f1 ++ (f2 ++ f3)) [] tf ex w h K
  of := fun _ _ e => ⟨_, He.frT_in, saysY e⟩
  keeps := fun _ _ _ ⟨K, hK, c⟩ k => ⟨K, PySem.W.Frag.In.keeps hK k, { c with empty := fun p hp => k _ _ (c.empty p hp) }⟩
theorem obsY_eq {s : Shared} (e : ∀ a, g a = s.heap.get? a) : obsY fa f1 f2 f3 tf ex g = (hookY fa f1 f2 f3 tf ex).obs s := by
  obtain rfl : g = s.heap.get? := funext e
  rfl
/-- the run's equation, in parts -/
theorem run_parts {α β γ : Type} {x : Option α} {a1 : α → β} {b1 : β} {a2 : α → γ} {c1 : γ} {pA : α → Bool} {q1 q2 q3 : α → He.AlD} {v1 v2 v3 : He.AlD}
    (hA : x.map (fun s => (a1 s, a2 s, pA s)) = some (b1, c1, true)) (h1 : x.map q1 = some v1) (h2 : x.map q2 = some v2) (h3 : x.map q3 = some v3) :
    x.map (fun s => (a1 s, a2 s, ((pA s, q1 s, q2 s, q3 s) : AlY))) = some (b1, c1, (true, v1, v2, v3)) := by
  cases x with
  | none => cases hA
  | some s =>
    simp only [Option.map_some, Option.some.injEq, Prod.mk.injEq] at hA h1 h2 h3 ⊢
    exact ⟨hA.1, hA.2.1, hA.2.2, h1, h2, h3⟩
end
end Ho
namespace Ho
open PySem PySem.Spec PyProof.Rows L2 Evl
section
variable {K : PySem.W.Frag} {F : Addr → Prop} {Z : Hp → (Addr → Prop) → Prop} {ρ ρ' : List Sl} {σ : L2.St} {H : Hp} {M : Addr → Prop} {d d0 d2 : Dt} {p p0 : Pat} {i j : Nat} {ta tb te to : TE} {D : Ends} {tz : TS} {W : Dt → Dt} {v : V} {α : Type}
theorem c_parZ (ok : Ok F Z ρ σ H M) (h : Ev ta σ H v) (h2 : ∀ M' H', Ok F Z ρ σ H' M' → XV tb F Z ρ' σ H' d2) (k : ∀ v2 M' H', Ok F Z ((ρ'.set i (st (.sc v))).set j (st d2)) ((σ.set i (some v)).set j (some v2)) H' M' → D.nx ((σ.set i (some v)).set j (some v2)) H') : tPar i j (tCons ta (tCons tb tNil)) D σ H :=
  h H (Ex.refl H) _ fun H1 e => h2 _ _ (ok.ex e) _ fun v2 H2 M2 ok2 r => ⟨v, v2, rfl, k _ _ _ ((ok2.setR (Ex.refl _) (by unfold Rp; rfl)).setR (Ex.refl _) r)⟩
theorem b_parZ (ok : Ok F Z ρ σ H M) (h : Ev ta σ H v) (h2 : ∀ M' H', Ok F Z ρ σ H' M' → XV tb F Z ρ' σ H' d2) (k : ∀ v2 M' H', Ok F Z ((ρ'.set i (st (.sc v))).set j (st d2)) ((σ.set i (some v)).set j (some v2)) H' M' → tz D ((σ.set i (some v)).set j (some v2)) H') : tSeq (tPar i j (tCons ta (tCons tb tNil))) tz D σ H := c_parZ (D := { D with nx := tz D }) ok h h2 k
/-- (part).extend(xs), xs a new list of values -/
theorem c_extS {g : α → V} {xs zs : List α} (ok : Ok F Z ρ σ H M) (hi : ρ[i]? = some (.own d0 p0)) (R : Rch to σ H M i d0 p0 (.node .l (xs.map fun x => .sc (g x))) (.ow .sh) W) (h : EvH te σ H (zs.map g)) (hz : xs.length + zs.length < 100000)
    (k : ∀ M' H', Ok F Z (ρ.set i (.own (W (.node .l ((xs ++ zs).map fun x => .sc (g x)))) p0)) σ H' M' → D.nx σ H') : tDrop (tBM K "list" rExtend to (tCons te tNil)) D σ H := by
  obtain ⟨a, vs, h1, h2, h3, h4⟩ := ok.reach hi R
  have h2 : H a = some (.lst vs) := h2
  have hvl : vs.length = xs.length := by rw [h3.len, List.length_map]
  refine h1 H (Ex.refl _) _ fun H0 e0 => ⟨.inl ⟨rfl, vs, SL.q (slof (e0 _ _ h2))⟩, ?_⟩
  refine h H0 e0 _ fun b H1 e1 hb => ⟨a, b, vs, zs.map g, rfl, rfl, (e0.trans e1) _ _ h2, hb, by rw [List.length_map, hvl, sizeLine_eq]; omega, ?_⟩
  refine k _ _ (h4 H1 (e0.trans e1) _ .l _ (vs ++ zs.map g) upd_same ?_)
  rw [List.map_append]
  exact (RpL.go (Go.ex (e0.trans e1)) h3).app (rpL_sc.mpr rfl)
end
/-- what a raise tells: its class, its fields -/
def Told (H H' : Hp) (d : Option Addr) : Option (List (Str × V)) → Prop
  | none => d = none
  | some l => ∃ a, d = some a ∧ H a = none ∧ H' a = some (.xd l)
def spE (n : Nat) (R : List V → Hp → Value → Option (List (Str × V)) → Prop) : Sp := fun vs H _ E => vs.length = n ∧ ∃ cls fs, R vs H cls fs ∧ ∀ H' d, Ex H H' → Told H H' d fs → E cls d H'
def spOr (s1 s2 : Sp) : Sp := fun vs H Q E => s1 vs H Q E ∨ s2 vs H Q E
theorem Told.ex {H0 H H' : Hp} {d : Option Addr} {fs : Option (List (Str × V))} (e : Ex H0 H) (h : Told H H' d fs) : Told H0 H' d fs := by
  cases fs with
  | none => exact h
  | some l =>
    obtain ⟨a, h1, h2, h3⟩ := h
    exact ⟨a, h1, fresh_back e h2, h3⟩
/-- a def as it runs, whatever its function object tells besides -/
structure RunA (P : Program) (w : World) (K : PySem.W.Frag) (mg : Str → Option Value) (base : Heap) (CX : CXT) (k : Nat) (f : Addr) (sp : Sp) : Prop where
  run : ∀ (A : Around) (outer : List Env) (s : Shared) (H : Hp) (us : List Value) (vs : List V) (Q : VK) (E : XK), Room k A → Env0 P w K mg base A outer s H → Vals vs us → sp vs H Q E → codeAny (model P w) A (.call (.ref f) ⟨us, []⟩) (CR CX outer P w H s Q E) s
structure RunM (P : Program) (w : World) (K : PySem.W.Frag) (mg : Str → Option Value) (base : Heap) (CX : CXT) (C : Addr) (m : Str) (k : Nat) (sp : Sp) : Prop where
  ex : ∃ f, Meth K C m f ∧ RunA P w K mg base CX k f sp
structure RunF (P : Program) (w : World) (K : PySem.W.Frag) (mg : Str → Option Value) (base : Heap) (CX : CXT) (x : Str) (k : Nat) (sp : Sp) : Prop where
  ex : ∃ f, mg x = some (.ref f) ∧ PySem.W.keepIn K (.ref f) = true ∧ RunA P w K mg base CX k f sp
section
variable {P : Program} {w : World} {K : PySem.W.Frag} {mg : Str → Option Value} {base : Heap} {CX : CXT} {C f : Addr} {x m qual : Str} {j k : Nat} {sp sp2 : Sp} {fd : FuncData} {ps N : List Str} {st : Stmt}
theorem RunA.of (b : Binds K fd ps []) (F : FnOk P w K mg base CX k f fd ps sp) : RunA P w K mg base CX k f sp := ⟨fun A outer s H us vs Q E hr e0 r h => by
  have KX : K.In s.heap := e0.mod.kin.keeps fun b o e => (e0.bs b o e).1
  have hb := b s us KX (by rw [List.append_nil, ← r.length]; exact F.len _ _ _ _ h)
  rw [List.append_nil] at hb
  exact F.run A outer s H ⟨us, []⟩ us vs Q E hr e0 hb r h⟩
/-- nothing is let out: then whatever may be -/
theorem RunA.up (R : RunA P w K mg base CX0 k f sp) : RunA P w K mg base CX k f sp := ⟨fun A outer s H us vs Q E hr e0 r h => codeAny_mono (R.run A outer s H us vs Q E hr e0 r h) fun r' s' q => by
  cases r' with
  | error e => exact False.elim q
  | ok fl => rcases fl with _ | u | _ | _ <;> exact q⟩
theorem RunA.mono (R : RunA P w K mg base CX j f sp) (h : j ≤ k) : RunA P w K mg base CX k f sp := ⟨fun A outer s H us vs Q E hr => R.run A outer s H us vs Q E (hr.mono h)⟩
theorem RunA.or (R : RunA P w K mg base CX k f sp) (R2 : RunA P w K mg base CX k f sp2) : RunA P w K mg base CX k f (spOr sp sp2) := ⟨fun A outer s H us vs Q E hr e0 r h => h.elim (R.run A outer s H us vs Q E hr e0 r) (R2.run A outer s H us vs Q E hr e0 r)⟩
theorem RunM.of (O : OkM P w K mg base CX C m k sp) : RunM P w K mg base CX C m k sp := by
  obtain ⟨f, fd, ps, h1, h2, h3⟩ := O.ex
  exact ⟨f, h1, .of h2 h3⟩
theorem RunM.up (R : RunM P w K mg base CX0 C m k sp) : RunM P w K mg base CX C m k sp := by
  obtain ⟨f, h1, h2⟩ := R.ex
  exact ⟨f, h1, h2.up⟩
theorem RunM.mono (R : RunM P w K mg base CX C m j sp) (h : j ≤ k) : RunM P w K mg base CX C m k sp := by
  obtain ⟨f, h1, h2⟩ := R.ex
  exact ⟨f, h1, h2.mono h⟩
theorem RunM.or (R : RunM P w K mg base CX C m k sp) (R2 : RunM P w K mg base CX C m k sp2) : RunM P w K mg base CX C m k (spOr sp sp2) := by
  obtain ⟨f, h1, h2⟩ := R.ex
  obtain ⟨g, q1, q2⟩ := R2.ex
  have e := h1.at_.symm.trans q1.at_
  simp only [Option.some.injEq, Value.ref.injEq] at e
  subst e
  exact ⟨f, h1, h2.or q2⟩
theorem RunF.of (O : OkF P w K mg base CX x k sp) : RunF P w K mg base CX x k sp := by
  obtain ⟨f, fd, ps, h1, h2, h3, h4⟩ := O.ex
  exact ⟨f, h1, h2, .of h3 h4⟩
theorem RunF.mono (R : RunF P w K mg base CX x j sp) (h : j ≤ k) : RunF P w K mg base CX x k sp := by
  obtain ⟨f, h1, h2, h3⟩ := R.ex
  exact ⟨f, h1, h2, h3.mono h⟩
abbrev CXN (P : Program) (w : World) : CXT := L2N.CX P w
/-- a def that refuses -/
theorem RunF.ofX (D : DefAt K mg x qual st ps) (Sc : FnScope N ps (defScope st)) (len : ∀ vs H Q E, sp vs H Q E → vs.length = ps.length)
    (hbody : ∀ (f : Addr) (cdv : Value) (A : Around) (outer : List Env) (s : Shared) (H : Hp) (vs : List V) (Q : VK) (E : XK), Room k (A.deeper (envOfC qual (defScope st) s.heap.objs.size f cdv)) → sp vs H Q E →
      ∃ t, PSs (cxOf (CXN P w) P w K mg base N qual (defScope st) f cdv A outer s H E) (defBody st) t ∧ t { nx := fun _ H' => Q .non H', rt := Q } (start N vs) H) : RunF P w K mg base (CXN P w) x (k + 1) sp := by
  obtain ⟨f, fd, hm, F, b⟩ := D.ex
  obtain ⟨oc, od, kV, doc, pm, an, cdv, ct, osl, rfl, lk, hcd⟩ := F.ex
  exact ⟨f, hm, F.kp, .of b (fn_of lk hcd Sc len fun A outer s H vs Q E hr hsp => hbody f cdv A outer s H vs Q E hr hsp)⟩
theorem RunM.ofX (D : MethAt K mg x m qual st ps) (Sc : FnScope N ps (defScope st)) (len : ∀ vs H Q E, sp vs H Q E → vs.length = ps.length)
    (hbody : ∀ (f : Addr) (cdv : Value) (A : Around) (outer : List Env) (s : Shared) (H : Hp) (vs : List V) (Q : VK) (E : XK), Room k (A.deeper (envOfC qual (defScope st) s.heap.objs.size f cdv)) → sp vs H Q E →
      ∃ t, PSs (cxOf (CXN P w) P w K mg base N qual (defScope st) f cdv A outer s H E) (defBody st) t ∧ t { nx := fun _ H' => Q .non H', rt := Q } (start N vs) H) : RunM P w K mg base (CXN P w) (cA mg x) m (k + 1) sp := by
  obtain ⟨f, fd, hm, F, b⟩ := D.ex
  obtain ⟨oc, od, kV, doc, pm, an, cdv, ct, osl, rfl, lk, hcd⟩ := F.ex
  exact ⟨f, hm, .of b (fn_of lk hcd Sc len fun A outer s H vs Q E hr hsp => hbody f cdv A outer s H vs Q E hr hsp)⟩
theorem MethAtD.plain {dvs : List V} {t : Stmt} (D : MethAtD K mg x m qual t ps dvs) : ∃ f fd, Meth K (cA mg x) m f ∧ FunD K m qual (defArgs t) (defBody t) (defScope t) dvs [] f fd ∧ Binds K fd ps [] := by
  obtain ⟨f, fd, ds, h1, h2, h3, -⟩ := D.ex
  exact ⟨f, fd, h1, h2, h3⟩
theorem RunM.ofXD {dvs : List V} (D : MethAtD K mg x m qual st ps dvs) (Sc : FnScope N ps (defScope st)) (len : ∀ vs H Q E, sp vs H Q E → vs.length = ps.length)
    (hbody : ∀ (f : Addr) (cdv : Value) (A : Around) (outer : List Env) (s : Shared) (H : Hp) (vs : List V) (Q : VK) (E : XK), Room k (A.deeper (envOfC qual (defScope st) s.heap.objs.size f cdv)) → sp vs H Q E →
      ∃ t, PSs (cxOf (CXN P w) P w K mg base N qual (defScope st) f cdv A outer s H E) (defBody st) t ∧ t { nx := fun _ H' => Q .non H', rt := Q } (start N vs) H) : RunM P w K mg base (CXN P w) (cA mg x) m (k + 1) sp := by
  obtain ⟨f, fd, hm, F, b⟩ := D.plain
  exact ⟨f, hm, .of b (F.ok Sc len fun cdv A outer s H vs Q E hr hsp => hbody f cdv A outer s H vs Q E hr hsp)⟩
end
def tCallX (sp : Sp) (E : L2.St → XK) (t : TA) : TE := fun σ H Q => t σ H fun vs H1 => sp vs H1 Q (E σ)
def tMethX (C : Addr) (sp : Sp) (m : Str) (E : L2.St → XK) (ta : TE) (t : TA) : TE := fun σ H Q => ta σ H fun x H1 => ∃ a dx fs, x = .ref a ∧ H1 a = some (.ins C dx fs) ∧ fs.lookup m = none ∧ t σ H1 fun vs H2 => sp (x :: vs) H2 Q (E σ)
section
variable {X : L2.Cx} {CX : CXT} {j k : Nat} {C f : Addr} {sp : Sp} {E : L2.St → XK} {x m : Str} {p pos apos : Pos} {e o : Expr} {es : List Expr} {ta : TE} {t : TA}
theorem RunA.call (R : RunA X.prog X.w X.K X.mg X.base CX k f sp) (hr : Room k X.A) {pins : List (Addr × Obj)} {σ : L2.St} {H : Hp} {s : Shared} {Q : VK} {us : List Value} {vs : List V} (hx : PassesAt CX X σ (E σ))
    (I : Inv X pins σ H s) (r : Vals vs us) (h : sp vs H Q (E σ)) : wpAny (model X.prog X.w) X.A (PySem.call (.ref f) us) (EP X pins σ Q) X.xe s :=
  wpAny_call (codeAny_mono (R.run X.A X.stack s H us vs Q (E σ) hr I.env0 r h) fun r' s' q => by
    rcases r' with er | fl
    · exact hx pins H s er s' I q
    · rcases fl with _ | u | _ | _
      all_goals first | exact False.elim q | exact I.after q)
theorem pe_callX (R : RunF X.prog X.w X.K X.mg X.base CX x k sp) (hr : Room j X.A) (hg : Gl X x) (hx : ∀ σ, PassesAt CX X σ (E σ)) (ha : PA X (e :: es) t) (hk : k ≤ j := by decide) (hdb : (x == ("__debug__" : Str)) = false := by decide)
    (he : starEach (e :: es) X.env = (false, eval e X.env) :: starEach es X.env := by rfl) (hpl : (backTo pos (starEach es X.env)).any (·.1) = false := by rfl) : PE X (.Call (.Name x p) (e :: es) [] pos) (tCallX sp E t) := by
  obtain ⟨f, hm, hkp, R⟩ := R.ex
  refine ⟨fun pins s σ H Q I h => wpAny_Call_Name_kw (ld_glob I hg hm ?_ hdb)⟩
  exact PySem.W.callWith_K (h₀ := X.base) I.ok.mod.kin hkp (thn (ha.run pos pins s σ H _ I h) fun us s1 ⟨vs, H1, I1, r, q⟩ => ⟨I1.kIn, R.call (hr.mono hk) (hx σ) I1 r q⟩) he hpl
theorem pe_methX {pl : Sem Bool} (c : Cls X.K C) (R : RunM X.prog X.w X.K X.mg X.base CX C m k sp) (hr : Room j X.A) (hx : ∀ σ, PassesAt CX X σ (E σ)) (he : PE X o ta) (ha : PA X (e :: es) t) (hk : k ≤ j := by decide)
    (hst : starEach (e :: es) X.env = (false, eval e X.env) :: starEach es X.env := by rfl) (hpl : (backTo pos (starEach es X.env)).any (·.1) = false := by rfl)
    (ht : eval (.Call (.Attribute o m apos) (e :: es) [] pos) X.env = (do
      let u ← eval o X.env
      standAt apos.atName
      let (g, own) ← holding [u] (getMethod u m pl)
      callWith pos g own (backTo pos (starEach (e :: es) X.env)) (backToKw pos (keywordEach [] X.env))) := by rfl) : PE X (.Call (.Attribute o m apos) (e :: es) [] pos) (tMethX C sp m E ta t) := by
  obtain ⟨f, hm, R⟩ := R.ex
  refine ⟨fun pins s σ H Q I h => PySem.W.methodCall_KW (pl := pl) (thn (he.run pins s σ H _ I h) fun u s1 hh => ?_) ht⟩
  obtain ⟨y, H1, I1, ry, a, dx, fs, rfl, ea, l, q⟩ := hh
  cases (show u = Value.ref a from ry)
  refine getmeth_ok I1 ea c hm l (PySem.W.callWith_K (first := [.ref a]) (h₀ := X.base) I.ok.mod.kin hm.kp (thn (ha.run pos pins s1 σ H1 _ I1 q) fun us s2 h2 => ?_) hst hpl)
  obtain ⟨vs, H2, I2, r, q2⟩ := h2
  exact ⟨I2.kIn, R.call (us := .ref a :: us) (vs := .ref a :: vs) (hr.mono hk) (hx σ) I2 (.cons rfl r) q2⟩
/-- o.m(): the defaults fill up -/
theorem pe_methD0 {CX : CXT} {E : XK} {sel : Addr → Sp → Prop} {dvs : List V} {pl : Sem Bool} (c : Cls X.K C) (hs : ∀ C' sp', sel C' sp' → C' = C ∧ sp' = sp) (O : OkMD X.prog X.w X.K X.mg X.base CX C m k sp dvs) (hr : Room j X.A) (hx : Passes CX X E) (he : PE X o ta) (hk : k ≤ j := by decide)
    (ht : eval (.Call (.Attribute o m apos) [] [] pos) X.env = (do
      let u ← eval o X.env
      standAt apos.atName
      let (g, own) ← holding [u] (getMethod u m pl)
      callWith pos g own (backTo pos (starEach [] X.env)) (backToKw pos (keywordEach [] X.env))) := by rfl) : PE X (.Call (.Attribute o m apos) [] [] pos) (tMethU sel m E ta (tDfl dvs tNil)) := by
  obtain ⟨f, fd, ps, ds, hm, h1, h2, h3, F⟩ := O.ex
  refine ⟨fun pins s σ H Q I h => PySem.W.methodCall_KW (pl := pl) (thn (he.run pins s σ H _ I h) fun u s1 hh => ?_) ht⟩
  obtain ⟨y, H1, I1, ry, a, C', dx, fs, sp', rfl, ea, l, h6, q⟩ := hh
  obtain ⟨rfl, rfl⟩ := hs _ _ h6
  cases (show u = Value.ref a from ry)
  exact getmeth_ok I1 ea c hm l (PySem.W.callWith_K0 (first := [.ref a]) I1.kIn hm.kp (run_fn (us := [.ref a]) (vs := [.ref a]) F (hr.mono hk) h3 h2 hx I1 (.cons rfl .nil) q))
end
end Ho
namespace Ho
open PySem PySem.Spec PyProof.Rows L2 Evl
/-- a class of errors of the module, without an __init__ of its own -/
structure ExcAt (K : PySem.W.Frag) (mg : Str → Option Value) (x : Str) : Prop where
  at_ : mg x = some (.ref (cA mg x))
  ex : PySem.W.excIn K (cA mg x) He.veBase "ValueError.__new__" = true
  kp : PySem.W.keepIn K (.ref (cA mg x)) = true
  sub : PySem.W.subIn K (.ref (cA mg x)) (.type "BaseException") = some true
  ty : PySem.W.typeIn K (.ref (cA mg x)) = some (.type "type")
/-- one with an __init__ of its own and fields -/
structure ExcFAt (K : PySem.W.Frag) (mg : Str → Option Value) (x : Str) (fI : Addr) : Prop where
  at_ : mg x = some (.ref (cA mg x))
  oe : OexC K (cA mg x)
  xf : XfC K (cA mg x)
  iC : PySem.W.findIn K (.ref (cA mg x)) "__init__" = some (some (.ref fI))
  tI : PySem.W.typeIn K (.ref fI) = some (.type "function")
/-- its base class, as BASE.__init__ asks -/
structure ExcBAt (K : PySem.W.Frag) (mg : Str → Option Value) (x : Str) : Prop where
  at_ : mg x = some (.ref (cA mg x))
  rd : ClX.CRead K (cA mg x) (.type "type")
  iv : PySem.W.findCls K (.ref (cA mg x)) (.type "type") "__init__" = some (.val (.builtin "ValueError.__init__"))
theorem takesN0 {X : L2.Cx} : L2N.Takes X (fun _ _ _ _ => False) := fun _ _ h => by
  obtain ⟨_, _, _, _, _, _, _, _, _, _, _, _, _, _, _, _, no⟩ := h
  exact no.elim
section
variable {X : L2.Cx} {CX : CXT} {e : Expr} {es : List Expr} {ta : TA} {x m : Str} {p p1 p2 pos : Pos} {k : Nat} {fI C : Addr} {sp : Sp}
theorem pmk_x {j : Nat} (T : ExcAt X.K X.mg x) (hg : Gl X x) (hdb : (x == ("__debug__" : Str)) = false := by decide) : L2N.PMk X (.Call (.Name x p) [.Constant (.str m) j p2] [] pos) (fun _ H Q => Q (.ref (cA X.mg x)) none H) :=
  L2N.pmk_own PySem.F.excBase_ValueError T.ex T.at_ T.kp (raises_own T.sub T.ty) hg hdb
/-- BASE.__init__(self, ..), in the __init__ of a class above it -/
theorem pe_binit {pl : Sem Bool} (T : ExcBAt X.K X.mg x) (hg : Gl X x) (ha : PA X (e :: es) ta)
    (hc : eval (.Call (.Attribute (.Name x p1) "__init__" p2) (e :: es) [] pos) X.env = (do
      let u ← eval (.Name x p1) X.env
      standAt p2.atName
      let (g, own) ← holding [u] (getMethod u "__init__" pl)
      callWith pos g own (backTo pos (starEach (e :: es) X.env)) (backToKw pos (keywordEach [] X.env))) := by rfl)
    (hdb : (x == ("__debug__" : Str)) = false := by decide) (he : starEach (e :: es) X.env = (false, eval e X.env) :: starEach es X.env := by rfl) (hpl : (backTo pos (starEach es X.env)).any (·.1) = false := by rfl) :
    PE X (.Call (.Attribute (.Name x p1) "__init__" p2) (e :: es) [] pos) (tVeI X.K ta) := by
  refine ⟨fun pins s σ H Q I h => PySem.W.methodCall_KW (pl := pl) (ld_glob I hg T.at_ ?_ hdb) hc⟩
  refine PySem.W.method_cls I.kIn T.rd.ga (PySem.W.cls_value I.kIn T.rd.rd T.iv (by decide +kernel) ?_)
  refine PyProof.Rows.callWith_method1 (thn (ha.run pos pins _ σ H _ (I.tok _) h) fun us s1 hh => ?_) he hpl
  obtain ⟨vs, H1, I1, r1, a, C, ws, rfl, hl, T1, ea, q⟩ := hh
  cases r1 with
  | @cons _ u0 _ ur ra rr =>
    cases (show u0 = Value.ref a from ra)
    exact oinit_ok T1 I1 ea (by rw [← Paired.length rr, sizeLine_eq]; omega) fun s2 J => ⟨.non, H1, J, rfl, q⟩
/-- C(e, ..), C with an __init__ of its own; nothing is handled meanwhile -/
theorem pmk_f (T : OexC X.K C) (iC : PySem.W.findIn X.K (.ref C) "__init__" = some (some (.ref fI))) (tI : PySem.W.typeIn X.K (.ref fI) = some (.type "function")) (R : RunA X.prog X.w X.K X.mg X.base CX0 k fI sp) (hr : Room (k + 1) X.A) (hg : Gl X x) (hm : X.mg x = some (.ref C))
    (ha : PA X (e :: es) ta) (hdb : (x == ("__debug__" : Str)) = false := by decide) (he : starEach (e :: es) X.env = (false, eval e X.env) :: starEach es X.env := by rfl) (hpl : (backTo pos (starEach es X.env)).any (·.1) = false := by rfl) :
    L2N.PMk X (.Call (.Name x p) (e :: es) [] pos) (tMkO C sp [] ta) := by
  intro pins s σ H Q I h
  obtain ⟨_, _, _, _, bm, _, _, _, _, _, _, _, _, _, _, hC, hbm⟩ := T.cls
  refine wpAny_Call_Name_kw (ld_glob I hg hm (PySem.W.callWith_K (h₀ := X.base) I.ok.mod.kin T.kC (thn (ha.run pos pins s σ H _ I h) fun us s1 hh => ?_) he hpl) hdb)
  obtain ⟨vs, H1, I1, r1, hz, q1⟩ := hh
  refine ⟨I1.kIn, ?_⟩
  obtain ⟨hp, g, dr, tk, os⟩ := s1
  have new1 : H1 (hp.objs.size + 1) = none := I1.hok.fresh (Nat.le_succ _)
  have want := q1 (hp.objs.size + 1) new1
  rw [List.append_nil] at want
  have keeps : ∀ b o, hp.get? b = some o → ((hp.push (PySem.W.kdv_tup us)).push (PySem.HandSPX.excO C hp.objs.size)).get? b = some o := fun b o q => Heap.get?_push_of_some _ (Heap.get?_push_of_some _ q)
  have there : ((hp.push (PySem.W.kdv_tup us)).push (PySem.HandSPX.excO C hp.objs.size)).get? (hp.objs.size + 1) = some (PySem.HandSPX.excO C hp.objs.size) := by heap_get
  have J : Inv X pins σ (upd H1 (hp.objs.size + 1) (exo (hp.objs.size + 1) C none)) ⟨(hp.push (PySem.W.kdv_tup us)).push (PySem.HandSPX.excO C hp.objs.size), g, dr, tk, os⟩ :=
    I1.laid (t' := tk) (a := hp.objs.size + 1) (h' := (hp.push (PySem.W.kdv_tup us)).push (PySem.HandSPX.excO C hp.objs.size)) keeps (Nat.le_succ _) (exo_ok there)
  have small : us.length ≤ sizeLine := by
    have := Paired.length r1
    rw [sizeLine_eq]
    omega
  show wpAny _ _ (PySem.call (.ref C) us) _ _ _
  refine wpAny_call (PySem.HandSPX.call_own F.excBase_ValueError (fun Y => PySem.HandSPX.refsVE_contains Y bm hbm) (I1.kIn _ _ hC) (PySem.W.looks_findIn I1.kIn iC) (fun self => PySem.W.bind_fn I1.kIn self tI) small ?_)
  refine codeAny_mono (R.run _ X.stack _ _ (Value.ref (hp.objs.size + 1) :: us) (V.ref (hp.objs.size + 1) :: vs) _ (fun _ _ _ => False) (hr.make C us []) (J.env0.make C us []) (.cons rfl r1) want) fun r' s' hr' => ?_
  rcases r' with er | fl
  · exact False.elim hr'
  cases fl with
  | ret u =>
    obtain ⟨v, H2, os2, bare2, un2, hok2, rv, rfl, d, fs, ea, ed, hd1, q2⟩ := hr'
    obtain ⟨h2, g2, d2, t2, os'⟩ := s'
    obtain ⟨t0, G, L, kG, ge, hoe, na⟩ := mk_end0 (d2 := d2) (t2 := t2) I1 (Nat.le_succ _) keeps un2 hok2 os2 bare2 ea ed hd1
    exact ⟨rv, hp.objs.size + 1, _, _, ⟨G, g2, d2, t2, os'⟩, _, .ref C, some d, rfl, L, kG, ge, hoe, ⟨rfl, rfl, fun ws z => by cases z; rfl⟩, rfl, rfl, na, rfl, bare2, raises_own T.exC T.tyC, q2⟩
  | next => exact False.elim hr'
  | brk => exact False.elim hr'
  | cont => exact False.elim hr'
end
/-- a clause: its class, the slot of its name, its suite's reading -/
structure Cl where
  c : Value
  i : Option Nat
  ts : Addr → Value → Option Addr → TS
def offE (D : Ends) (i : Nat) : Ends := { nx := fun σ H => D.nx (σ.set i none) H, rt := D.rt, bk := fun σ H => D.bk (σ.set i none) H, ct := fun σ H => D.ct (σ.set i none) H }
def Cl.go (k : Cl) (a : Addr) (cls : Value) (d : Option Addr) (D : Ends) (σ : L2.St) (H : Hp) : Prop := match k.i with
  | none => k.ts a cls d D σ H
  | some i => k.ts a cls d (offE D i) (σ.set i (some (.ref a))) H
def wCls (K : PySem.W.Frag) (Wout : WX) (D : Ends) : List Cl → WX
  | [] => Wout
  | k :: r => fun cls d σ H => ∃ b, PySem.W.exmOne K cls k.c = some b ∧ (b = true → ∀ a, H a = none → k.go a cls d D σ H) ∧ (b = false → wCls K Wout D r cls d σ H)
inductive ClsOk (X : L2.Cx) : List ExceptHandler → List Cl → Prop
  | nil : ClsOk X [] []
  | plain {x : Str} {c : Value} {ts : Addr → Value → Option Addr → TS} {b0 : Stmt} {bs : List Stmt} {np pos : Pos} {hs : List ExceptHandler} {l : List Cl} : Names X x c →
      (∀ (a : Addr) (oe : Obj) (cls : Value) (d : Option Addr) (pn : List (Addr × Obj)), L2N.Zn cls d oe → (∃ vs, oe.data = .fields vs) → PSs (X.suite a ((a, oe) :: pn)) (b0 :: bs) (ts a cls d)) → ClsOk X hs l →
      ClsOk X (.ExceptHandler (some (.Name x np)) none (b0 :: bs) pos :: hs) (⟨c, none, ts⟩ :: l)
  | named {x n : Str} {i : Nat} {c : Value} {ts : Addr → Value → Option Addr → TS} {b0 : Stmt} {bs : List Stmt} {np pos : Pos} {hs : List ExceptHandler} {l : List Cl} : X.N[i]? = some n → X.env.kindOf n = some .local → Names X x c →
      (∀ (a : Addr) (oe : Obj) (cls : Value) (d : Option Addr) (pn : List (Addr × Obj)), L2N.Zn cls d oe → (∃ vs, oe.data = .fields vs) → PSs (X.suite a ((a, oe) :: pn)) (b0 :: bs) (ts a cls d)) → ClsOk X hs l →
      ClsOk X (.ExceptHandler (some (.Name x np)) (some n) (b0 :: bs) pos :: hs) (⟨c, some i, ts⟩ :: l)
section
variable {X : L2.Cx} {pins : List (Addr × Obj)} {σ : L2.St} {H : Hp} {D : Ends} {Wout : WX} {B : Heap} {sI s' : Shared} {a : Addr} {cls : Value} {d : Option Addr}
/-- what stands when the clauses are gone through -/
structure Landed (X : L2.Cx) (pins : List (Addr × Obj)) (σ : L2.St) (H : Hp) (B : Heap) (sI s' : Shared) (a : Addr) (cls : Value) (d : Option Addr) : Prop where
  J : Inv X pins σ H sI
  nb : ∀ b o, sI.heap.get? b = some o → b ∉ frs X.stack → B.get? b = some o
  up : sI.heap.UpToSlots s'.heap
  fl : HandSPX.FlyingZ B (X.env :: X.outer) a (L2N.Zn cls d) s'.heap
  os : s'.os = sI.os
  ag : AllBare s'.gens
  na : H a = none
theorem Landed.inv (L : Landed X pins σ H B sI s' a cls d) : Inv X pins σ H s' := L.J.landed L.nb L.fl.1 L.up L.os L.ag
theorem Landed.obj (L : Landed X pins σ H B sI s' a cls d) (hf : X.env.frame = some X.env.locals) : ∃ oe vs, s'.heap.get? a = some oe ∧ L2N.Zn cls d oe ∧ oe.data = .fields vs ∧ a ≠ X.env.locals ∧ a ∉ X.fs := by
  obtain ⟨oe, vs, he, hz, hd⟩ := L.fl.there
  have out : a ∉ frs (X.env :: X.outer) := fun hm => by
    obtain ⟨_, o1, e1, no⟩ := L.fl.2.2.1.mem hm
    rw [he] at e1
    cases e1
    exact no _ hd
  refine ⟨oe, vs, he, hz, hd, fun z => out (List.mem_filterMap.mpr ⟨X.env, List.mem_cons_self, by rw [hf, z]⟩), fun hm => ?_⟩
  obtain ⟨en, h1, h2⟩ := List.mem_filterMap.mp hm
  exact out (List.mem_filterMap.mpr ⟨en, List.mem_cons_of_mem _ h1, h2⟩)
theorem Landed.suite (L : Landed X pins σ H B sI s' a cls d) (hf : X.env.frame = some X.env.locals) : ∃ oe, L2N.Zn cls d oe ∧ (∃ vs, oe.data = .fields vs) ∧ Inv (X.suite a ((a, oe) :: (X.pn ++ pins))) [] σ H s' := by
  obtain ⟨oe, vs, he, hz, hd, n1, n2⟩ := L.obj hf
  exact ⟨oe, hz, ⟨vs, hd⟩, L.inv.suite he hd L.na n1 n2⟩
theorem Landed.again (L : Landed X pins σ H B sI s' a cls d) {h4 : Heap} (fl : HandSPX.FlyingZ B (X.env :: X.outer) a (L2N.Zn cls d) h4) (up : s'.heap.UpToSlots h4) : Landed X pins σ H B sI { s' with heap := h4 } a cls d :=
  ⟨L.J, L.nb, L.up.trans up, fl, L.os, L.ag, L.na⟩
/-- the clause's test -/
theorem Landed.test (L : Landed X pins σ H B sI s' a cls d) (hf : X.env.frame = some X.env.locals) {x : Str} {c : Value} {np : Pos} (hc : Names X x c) {Q : Value → Shared → Prop} {E : Value → Shared → Prop} (q : Q c s') :
    wpAny (model X.prog X.w) (X.A.mark (some (.ref a))) (eval (.Name x np) X.env) Q E s' := by
  obtain ⟨oe, -, -, S⟩ := L.suite hf
  obtain ⟨g1, g2, g3⟩ := hc
  rcases g3 with g3 | ⟨g3, g4, g5⟩
  · exact ld_glob (X := X.suite a ((a, oe) :: (X.pn ++ pins))) S g1 g3 q g2
  · exact ld_blt (X := X.suite a ((a, oe) :: (X.pn ++ pins))) S g1 g3 g4 q g5 g2
theorem SPu {pn : List (Addr × Obj)} {q : Addr × Obj} {f : Flow} {s6 : Shared} (ok : X.Ok) (h : SP (X.suite a (q :: (X.pn ++ pins))) [] D f s6) : SP X pins D f s6 := by
  cases f with
  | ret u =>
    obtain ⟨v, τ, G, S, z⟩ := h
    exact ⟨v, τ, G, S.unsuite ok, z⟩
  | next | brk | cont =>
    obtain ⟨τ, G, S, z⟩ := h
    exact ⟨τ, G, S.unsuite ok, z⟩
theorem cls_run (hs : X.stack = X.env :: X.outer) (hf : X.env.frame = some X.env.locals) (hN : X.N.Nodup) (ok : X.Ok) (tk : L2N.Takes X Wout) {hds : List ExceptHandler} {l : List Cl} (hk : ClsOk X hds l) :
    ∀ {s' : Shared}, Landed X pins σ H B sI s' a cls d → wCls X.K Wout D l cls d σ H → wpAny (model X.prog X.w) X.A (handleBy (.ref a) X.env hds) (SP X pins D) X.xe s' := by
  induction hk with
  | nil =>
    intro s' L w
    refine wpAny_handleBy_nil ?_
    obtain ⟨_, _, _, oe, vs, T, _, _, he, _, hd, h1, _⟩ := id L.fl
    unfold PySem.passOn
    refine wpAny_bind (wpAny_field he hd h1 ?_)
    rw [if_neg (show ¬ (Value.ref T == Value.none) = true by simp)]
    have last : wpAny (model X.prog X.w) X.A (setFlight (.ref a) X.env.frame) (fun _ z => wpAny (model X.prog X.w) X.A (throw (.ref a) : Sem Flow) (SP X pins D) X.xe z) X.xe s' := by
      rw [hf]
      refine HandSPX.setFlight_upZ L.fl fun h4 held up4 => wpAny_throw (tk _ _ ?_)
      exact ⟨a, B, sI, pins, σ, H, cls, d, rfl, L.J, L.nb, L.up.trans up4, .inr (.inr (by rw [hs]; exact held)), L.na, L.os, L.ag, w⟩
    first
      | exact wpAny_bind (wpAny_pure (wpAny_bind last))
      | exact wpAny_bind last
  | @plain x c ts b0 bs np pos hs2 l2 hc hsu r ih =>
    intro s' L w
    obtain ⟨b, hb, yes, no⟩ := w
    obtain ⟨oe, vs, he, hz, hd, -, -⟩ := L.obj hf
    have ty : PySem.W.Looks (model X.prog X.w) s'.heap (typeOf (.ref a)) cls := fun A Q E s k q => wpAny_typeOf_ref (k _ _ he) (by rw [hz.1]; exact q)
    refine wpAny_handleBy_cons (codeAny_handlers_test (L.test hf hc ((PySem.W.exm_one (M := model X.prog X.w) L.inv.kIn ty hb).here ?_))) (by intro q; cases q)
    cases b with
    | false => exact ih L (no rfl)
    | true =>
      refine codeAny_handlers_suite (HandSPX.lands_againZ L.fl fun h4 fl4 up4 => ?_)
      have L4 := L.again fl4 up4
      obtain ⟨o4, z4, d4, S4⟩ := L4.suite hf
      exact wpAny_mono ((hsu a o4 cls d (X.pn ++ pins) z4 d4).run [] _ _ H _ S4 (yes rfl a L.na)) (fun f s6 hsp => SPu (pn := []) ok hsp) fun _ _ z => False.elim z
  | @named x n i c ts b0 bs np pos hs2 l2 hi hl hc hsu r ih =>
    intro s' L w
    obtain ⟨b, hb, yes, no⟩ := w
    obtain ⟨oe, vs, he, hz, hd, -, -⟩ := L.obj hf
    have ty : PySem.W.Looks (model X.prog X.w) s'.heap (typeOf (.ref a)) cls := fun A Q E s k q => wpAny_typeOf_ref (k _ _ he) (by rw [hz.1]; exact q)
    refine wpAny_handleBy_cons (codeAny_handlers_test (L.test hf hc ((PySem.W.exm_one (M := model X.prog X.w) L.inv.kIn ty hb).here ?_))) (by intro q; cases q)
    cases b with
    | false => exact ih L (no rfl)
    | true =>
      refine codeAny_handlers_suite_as (HandSPX.lands_againZ L.fl fun h4 fl4 up4 => ?_)
      have L4 := L.again fl4 up4
      obtain ⟨o4, z4, d4, S4⟩ := L4.suite hf
      have loc : Loc X.env.scope n := .inl hl
      refine store_ok (X := X.suite a ((a, o4) :: (X.pn ++ pins))) (v := .ref a) S4 hN hi loc rfl (fun s5 S5 => ?_) (.inr hl)
      refine wpAny_mono ((hsu a o4 cls d (X.pn ++ pins) z4 d4).run [] s5 _ H _ S5 (yes rfl a L.na)) (fun f s6 hsp => ?_) fun _ _ z => False.elim z
      have away : ∀ {τ : L2.St} {G : Hp} {Q : Shared → Prop}, Inv (X.suite a ((a, o4) :: (X.pn ++ pins))) [] τ G s6 → (∀ s7, Inv X pins (τ.set i none) G s7 → Q s7) →
          wpAny (model X.prog X.w) X.A (do bindName X.env n .none; unbindBehindTheSuite X.env n pos) (fun _ s7 => Q s7) X.xe s6 := fun {τ G Q} S6 q => gone_ok (S6.unsuite ok) hN hi hl q
      cases f with
      | ret u =>
        obtain ⟨v, τ, G, S6, r6, q6⟩ := hsp
        exact away S6 fun s7 J7 => ⟨_, _, _, J7, r6, q6⟩
      | next | brk | cont =>
        obtain ⟨τ, G, S6, q6⟩ := hsp
        exact away S6 fun s7 J7 => ⟨_, _, J7, q6⟩
theorem ps_tryC {body : List Stmt} {h0 : ExceptHandler} {hds : List ExceptHandler} {l : List Cl} {pos : Pos} {tb : WX → TS} (hs : X.stack = X.env :: X.outer) (hf : X.env.frame = some X.env.locals) (hN : X.N.Nodup) (tk : L2N.Takes X Wout)
    (hb : ∀ (W : WX) (pn : List (Addr × Obj)) (xe : Value → Shared → Prop), L2N.Takes (X.tr pn xe) W → PassesOwn (model X.prog X.w) X.A X.env xe → PSs (X.tr pn xe) body (tb W)) (hk : ClsOk X (h0 :: hds) l) :
    PS X (.Try body (h0 :: hds) [] [] pos) (fun D σ H => tb (wCls X.K Wout D l) D σ H) := by
  refine ⟨fun pins s σ H D I h => wpAny_Try_except ?_⟩
  have ok := I.ok
  have fr : X.A.frames = some (X.env :: X.outer) := by rw [ok.frames, hs]
  refine wpAny_mono ((hb (wCls X.K Wout D l) (X.pn ++ pins) (fun e z1 => wpAny (model X.prog X.w) X.A (noteFrame e X.env) (fun _ z2 => wpAny (model X.prog X.w) X.A (setFlight e none) (fun _ z3 =>
    wpAny (model X.prog X.w) X.A (handleBy e X.env (h0 :: hds)) (SP X pins D) X.xe z3) X.xe z2) X.xe z1) (fun u s' xx => ?_) PassesOwn.looking).run [] s σ H D (I.toTry _) h) (fun f s1 hsp => ?_) fun e s1 he => he
  · obtain ⟨a, B, sI, pins', τ, G, cls, d, rfl, J', nb, up, sky, na, os, ag, w⟩ := xx
    have sky' : L2.Sky B (X.env :: X.outer) a (L2N.Zn cls d) X.env.locals s'.heap := by rw [← hs]; exact sky
    show wpAny (model X.prog X.w) X.A (noteFrame (.ref a) X.env) _ _ _
    exact L2N.Sky.land L2N.Zn.steady fr hf sky' fun h3 fl3 up3 => cls_run hs hf hN ok tk hk (s' := { s' with heap := h3 }) ⟨J'.ofTry ok, nb, up.trans up3, fl3, os, ag, na⟩ w
  · cases f with
    | next =>
      obtain ⟨τ, G, J, q⟩ := hsp
      exact wpAny_execs_nil ⟨τ, G, J.ofTry ok, q⟩
    | ret u =>
      obtain ⟨v, τ, G, J, r, q⟩ := hsp
      exact ⟨v, τ, G, J.ofTry ok, r, q⟩
    | brk | cont =>
      obtain ⟨τ, G, J, q⟩ := hsp
      exact ⟨τ, G, J.ofTry ok, q⟩
end
end Ho
namespace Ho
open PySem PySem.Spec PyProof.Rows L2 Evl
def oexB (K : PySem.W.Frag) (C : Addr) : Bool := (match K.lookup C with
  | some ⟨.type "type", _, .cls cd, sl⟩ => (match cd.mro, sl.toList with
    | .ref C' :: bm, [_, _, _, _, some (.builtin n), _] => C' == C && (n == "ValueError.__new__" && (!cd.hasDel && (cd.hasDict && PySem.HandSPX.refsVE bm)))
    | _, _ => false)
  | _ => false) && (He.eqO (PySem.W.findIn K (.ref C) "__setattr__") (some (some (.builtin "object.__setattr__"))) && (decide (PySem.W.subIn K (.ref C) (.type "BaseException") = some true) && (decide (PySem.W.typeIn K (.ref C) = some (.type "type")) && PySem.W.keepIn K (.ref C))))
theorem oexB_ok {K : PySem.W.Frag} {C : Addr} (h : oexB K C = true) : OexC K C := by
  obtain ⟨q, h⟩ := He.ba h
  obtain ⟨h1, h⟩ := He.ba h
  obtain ⟨h2, h⟩ := He.ba h
  obtain ⟨h3, h4⟩ := He.ba h
  refine ⟨?_, He.eqO_ok h1, of_decide_eq_true h2, of_decide_eq_true h3, h4⟩
  split at q
  · rename_i dd cd sl ho
    split at q
    · rename_i C' bm k0 k1 k2 k3 n k5 hm hs
      simp only [Bool.and_eq_true, beq_iff_eq, Bool.not_eq_true'] at q
      obtain ⟨rfl, rfl, hdel, hdi, hr⟩ := q
      obtain ⟨nm, bs, mro, ns, qn, hd, sn, sub, ab, col, del⟩ := cd
      dsimp only at hm hdel hdi
      subst hm hdel hdi
      have hsl : sl = #[k0, k1, k2, k3, some (.builtin "ValueError.__new__"), k5] := by
        obtain ⟨l⟩ := sl
        simp only at hs
        rw [hs]
      subst hsl
      exact ⟨nm, qn, ns, bs, bm, sn, sub, ab, col, dd, k0, k1, k2, k3, k5, ho, hr⟩
    · cases q
  · cases q
/-- a class of errors with an __init__ and a field of its own -/
structure ExcQ (K : PySem.W.Frag) (mg : Str → Option Value) (x f qual : Str) (st : Stmt) (ps : List Str) : Prop where
  ex : ∃ fI fd, ExcFAt K mg x fI ∧ PySem.W.findIn K (.ref (cA mg x)) f = some none ∧ L2.Fun K "__init__" qual st fI fd ∧ Binds K fd ps []
def excFB (K : PySem.W.Frag) (x f : Str) : Bool := oexB K (He.ga K x) && (xfB K (He.ga K x) && (He.eqO (PySem.W.findIn K (.ref (He.ga K x)) f) (some none) && (He.eqO (PySem.W.findIn K (.ref (He.ga K x)) "__init__") (some (some (.ref (He.ma K (He.ga K x) "__init__")))) &&
  decide (PySem.W.typeIn K (.ref (He.ma K (He.ga K x) "__init__")) = some (.type "function")))))
def excBB (K : PySem.W.Frag) (x : Str) : Bool := PySem.W.readsIn K (He.ga K x) (.type "type") && (He.eqO (PySem.W.specialIn K (.ref (He.ga K x)) "__getattribute__") (some (some (.builtin "type.__getattribute__"))) && (match PySem.W.findCls K (.ref (He.ga K x)) (.type "type") "__init__" with
  | some (.val (.builtin s)) => decide (s = "ValueError.__init__")
  | _ => false))
section
variable {K : PySem.W.Frag} {h : Heap} {mg : Str → Option Value} {x y f qual : Str} {st : Stmt} {ps : List Str} {b : Bool}
theorem excAt_he (X : K.In h) (G : h.Ns mainGlobals mg) (c : (He.Fa.glo x).ok K = true) (e : (He.Fa.exc x).ok K = true) : ExcAt K mg x := by
  have ea := cA_ga X G c
  obtain ⟨e1, e2, e3, e4⟩ := He.exc_ok e
  exact ⟨by rw [ea]; exact He.glo_ok X G c, by rw [ea]; exact e1, by rw [ea]; exact e2, by rw [ea]; exact e3, by rw [ea]; exact e4⟩
theorem excQ_he (X : K.In h) (G : h.Ns mainGlobals mg) (c : (He.Fa.glo x).ok K = true) (e : excFB K x f = true) (F : ∃ fd, FunD K "__init__" qual (defArgs st) (defBody st) (defScope st) [] [] (He.ma K (He.ga K x) "__init__") fd) (bn : BindN "__init__" qual st ps) : ExcQ K mg x f qual st ps := by
  have ea := cA_ga X G c
  obtain ⟨e1, e⟩ := He.ba e
  obtain ⟨e2, e⟩ := He.ba e
  obtain ⟨e3, e⟩ := He.ba e
  obtain ⟨e4, e5⟩ := He.ba e
  obtain ⟨fd, F⟩ := F
  exact ⟨_, fd, ⟨by rw [ea]; exact He.glo_ok X G c, by rw [ea]; exact oexB_ok e1, by rw [ea]; exact xfB_ok e2, by rw [ea]; exact He.eqO_ok e4, of_decide_eq_true e5⟩, by rw [ea]; exact He.eqO_ok e3, fun_he F, F.bindsN bn⟩
theorem excB_he (X : K.In h) (G : h.Ns mainGlobals mg) (c : (He.Fa.glo x).ok K = true) (e : excBB K x = true) : ExcBAt K mg x := by
  have ea := cA_ga X G c
  obtain ⟨e1, e⟩ := He.ba e
  obtain ⟨e2, e3⟩ := He.ba e
  refine ⟨by rw [ea]; exact He.glo_ok X G c, by rw [ea]; exact ⟨e1, He.eqO_ok e2⟩, ?_⟩
  rw [ea]
  split at e3
  · rename_i s hs
    rw [hs, of_decide_eq_true e3]
  · cases e3
theorem exm_he (X : K.In h) (G : h.Ns mainGlobals mg) (c : (He.Fa.glo x).ok K = true) (c2 : (He.Fa.glo y).ok K = true) (e : (He.Fa.exm x y b).ok K = true) : PySem.W.exmOne K (.ref (cA mg x)) (.ref (cA mg y)) = some b := by
  rw [cA_ga X G c, cA_ga X G c2]
  exact He.exm_ok e
end
end Ho
namespace Ho
open PySem PySem.Spec PyProof.Rows L2 Evl
def topS (i : Nat) : Stmt := PySem.Challenge.pw_holetape_k11_whole_punch.main.body.getD i (.Pass ⟨0, 0, 0, 0⟩)
abbrev s__law_draw : Stmt := topS 53
abbrev N__law_draw : List Str := ["_law_cell", "_law_k", "_law_many", "_law_primes"]
theorem sc__law_draw : FnScope N__law_draw ["_law_cell", "_law_k", "_law_many"] (defScope s__law_draw) := ⟨rfl, rfl, rfl, by decide +kernel, rfl, by decide +kernel, by decide +kernel⟩
abbrev s__law_cell_at : Stmt := topS 54
abbrev N__law_cell_at : List Str := ["_law_script", "_law_k"]
theorem sc__law_cell_at : FnScope N__law_cell_at ["_law_script", "_law_k"] (defScope s__law_cell_at) := ⟨rfl, rfl, rfl, by decide +kernel, rfl, by decide +kernel, by decide +kernel⟩
abbrev s__law_digits : Stmt := topS 55
abbrev N__law_digits : List Str := ["_law_script", "_law_at", "_law_many", "_law_base", "_law_blend", "_law_cell", "_law_found", "_law_left", "_law_more", "_law_turn"]
theorem sc__law_digits : FnScope N__law_digits ["_law_script", "_law_at", "_law_many", "_law_base"] (defScope s__law_digits) := ⟨rfl, rfl, rfl, by decide +kernel, rfl, by decide +kernel, by decide +kernel⟩
abbrev s__law_pool : Stmt := topS 57
abbrev N__law_pool : List Str := ["_law_script", "_law_at", "_law_one"]
theorem sc__law_pool : FnScope N__law_pool ["_law_script", "_law_at"] (defScope s__law_pool) := ⟨rfl, rfl, rfl, by decide +kernel, rfl, by decide +kernel, by decide +kernel⟩
abbrev s__law_rows : Stmt := topS 56
abbrev N__law_rows : List Str := ["_law_width_here", "_law_found", "_law_number", "_law_at"]
theorem sc__law_rows : FnScope N__law_rows ["_law_width_here"] (defScope s__law_rows) := ⟨rfl, rfl, rfl, by decide +kernel, rfl, by decide +kernel, by decide +kernel⟩
abbrev s__law_reader : Stmt := topS 58
abbrev N__law_reader : List Str := ["_law_script", "_law_at", "_law_pool_here", "_law_least", "_law_begin", "_law_draws", "_law_found", "_law_number", "_law_row", "_law_rows_here", "_law_width_here"]
theorem sc__law_reader : FnScope N__law_reader ["_law_script", "_law_at", "_law_pool_here", "_law_least"] (defScope s__law_reader) := ⟨rfl, rfl, rfl, by decide +kernel, rfl, by decide +kernel, by decide +kernel⟩
abbrev s__law_width : Stmt := topS 59
abbrev N__law_width : List Str := ["_law_reader_here"]
theorem sc__law_width : FnScope N__law_width ["_law_reader_here"] (defScope s__law_width) := ⟨rfl, rfl, rfl, by decide +kernel, rfl, by decide +kernel, by decide +kernel⟩
abbrev s__law_tape : Stmt := topS 60
abbrev N__law_tape : List Str := ["_law_script", "_law_at", "_law_width_here", "_law_many", "_law_draw_here", "_law_fewer", "_law_found", "_law_rows_here"]
theorem sc__law_tape : FnScope N__law_tape ["_law_script", "_law_at", "_law_width_here", "_law_many"] (defScope s__law_tape) := ⟨rfl, rfl, rfl, by decide +kernel, rfl, by decide +kernel, by decide +kernel⟩
abbrev s_is_row : Stmt := topS 18
abbrev N_is_row : List Str := ["thing", "width", "sign"]
theorem sc_is_row : FnScope N_is_row ["thing", "width"] (defScope s_is_row) := ⟨rfl, rfl, rfl, by decide +kernel, rfl, by decide +kernel, by decide +kernel⟩
abbrev s_is_letter : Stmt := topS 19
abbrev N_is_letter : List Str := ["thing"]
theorem sc_is_letter : FnScope N_is_letter ["thing"] (defScope s_is_letter) := ⟨rfl, rfl, rfl, by decide +kernel, rfl, by decide +kernel, by decide +kernel⟩
abbrev s_width_of : Stmt := topS 20
abbrev N_width_of : List Str := ["reader", "first", "letter", "row", "width"]
theorem sc_width_of : FnScope N_width_of ["reader"] (defScope s_width_of) := ⟨rfl, rfl, rfl, by decide +kernel, rfl, by decide +kernel, by decide +kernel⟩
abbrev s_check_tape : Stmt := topS 21
abbrev N_check_tape : List Str := ["width", "tape", "place", "row"]
theorem sc_check_tape : FnScope N_check_tape ["width", "tape"] (defScope s_check_tape) := ⟨rfl, rfl, rfl, by decide +kernel, rfl, by decide +kernel, by decide +kernel⟩
abbrev s_Punch___init__ : Stmt := inClass (topS 51) 0
abbrev N_Punch___init__ : List Str := ["self", "reader", "tape"]
theorem sc_Punch___init__ : FnScope N_Punch___init__ ["self", "reader", "tape"] (defScope s_Punch___init__) := ⟨rfl, rfl, rfl, by decide +kernel, rfl, by decide +kernel, by decide +kernel⟩
abbrev s__law_text : Stmt := topS 61
abbrev N__law_text : List Str := ["_law_script", "_law_at", "_law_pool_here", "_law_many", "_law_draws", "_law_letters", "_law_draw_here"]
theorem sc__law_text : FnScope N__law_text ["_law_script", "_law_at", "_law_pool_here", "_law_many"] (defScope s__law_text) := ⟨rfl, rfl, rfl, by decide +kernel, rfl, by decide +kernel, by decide +kernel⟩
abbrev s_Punch_standing : Stmt := inClass (topS 51) 1
abbrev N_Punch_standing : List Str := ["self"]
theorem sc_Punch_standing : FnScope N_Punch_standing ["self"] (defScope s_Punch_standing) := ⟨rfl, rfl, rfl, by decide +kernel, rfl, by decide +kernel, by decide +kernel⟩
abbrev s__law_over : Stmt := topS 62
abbrev N__law_over : List Str := ["_law_row", "_law_other", "_law_one", "_law_new"]
theorem sc__law_over : FnScope N__law_over ["_law_row", "_law_other"] (defScope s__law_over) := ⟨rfl, rfl, rfl, by decide +kernel, rfl, by decide +kernel, by decide +kernel⟩
abbrev s__law_means : Stmt := topS 63
abbrev N__law_means : List Str := ["_law_reader_here", "_law_row"]
theorem sc__law_means : FnScope N__law_means ["_law_reader_here", "_law_row"] (defScope s__law_means) := ⟨rfl, rfl, rfl, by decide +kernel, rfl, by decide +kernel, by decide +kernel⟩
abbrev s__law_holes : Stmt := topS 65
abbrev N__law_holes : List Str := ["_law_tape_here", "_law_row", "_law_sign"]
theorem sc__law_holes : FnScope N__law_holes ["_law_tape_here"] (defScope s__law_holes) := ⟨rfl, rfl, rfl, by decide +kernel, rfl, by decide +kernel, by decide +kernel⟩
abbrev s__law_cost : Stmt := topS 67
abbrev N__law_cost : List Str := ["_law_reader_here", "_law_row", "_law_letter", "_law_found", "_law_other"]
theorem sc__law_cost : FnScope N__law_cost ["_law_reader_here", "_law_row", "_law_letter"] (defScope s__law_cost) := ⟨rfl, rfl, rfl, by decide +kernel, rfl, by decide +kernel, by decide +kernel⟩
abbrev s__law_fewest : Stmt := topS 68
abbrev N__law_fewest : List Str := ["_law_reader_here", "_law_tape_here", "_law_text_here", "_law_last", "_law_line", "_law_many", "_law_prices", "_law_row", "_law_rub"]
theorem sc__law_fewest : FnScope N__law_fewest ["_law_reader_here", "_law_tape_here", "_law_text_here"] (defScope s__law_fewest) := ⟨rfl, rfl, rfl, by decide +kernel, rfl, by decide +kernel, by decide +kernel⟩
abbrev s_check_text : Stmt := topS 22
abbrev N_check_text : List Str := ["text", "place", "sign"]
theorem sc_check_text : FnScope N_check_text ["text"] (defScope s_check_text) := ⟨rfl, rfl, rfl, by decide +kernel, rfl, by decide +kernel, by decide +kernel⟩
abbrev s_cost_of : Stmt := topS 24
abbrev N_cost_of : List Str := ["row", "other"]
theorem sc_cost_of : FnScope N_cost_of ["row", "other"] (defScope s_cost_of) := ⟨rfl, rfl, rfl, by decide +kernel, rfl, by decide +kernel, by decide +kernel⟩
abbrev s_rows_of : Stmt := topS 25
abbrev N_rows_of : List Str := ["width", "found", "turn", "row"]
theorem sc_rows_of : FnScope N_rows_of ["width"] (defScope s_rows_of) := ⟨rfl, rfl, rfl, by decide +kernel, rfl, by decide +kernel, by decide +kernel⟩
abbrev s_goes_over : Stmt := topS 23
abbrev N_goes_over : List Str := ["row", "other", "one", "new"]
theorem sc_goes_over : FnScope N_goes_over ["row", "other"] (defScope s_goes_over) := ⟨rfl, rfl, rfl, by decide +kernel, rfl, by decide +kernel, by decide +kernel⟩
abbrev s_above : Stmt := topS 26
abbrev N_above : List Str := ["row", "other"]
theorem sc_above : FnScope N_above ["row"] (defScope s_above) := ⟨rfl, rfl, rfl, by decide +kernel, rfl, by decide +kernel, by decide +kernel⟩
abbrev s_meaning : Stmt := topS 28
abbrev N_meaning : List Str := ["reader", "row"]
theorem sc_meaning : FnScope N_meaning ["reader", "row"] (defScope s_meaning) := ⟨rfl, rfl, rfl, by decide +kernel, rfl, by decide +kernel, by decide +kernel⟩
abbrev s_cheapest : Stmt := topS 33
abbrev N_cheapest : List Str := ["reader", "row", "letter", "costs", "other"]
theorem sc_cheapest : FnScope N_cheapest ["reader", "row", "letter"] (defScope s_cheapest) := ⟨rfl, rfl, rfl, by decide +kernel, rfl, by decide +kernel, by decide +kernel⟩
abbrev s_marks_of : Stmt := topS 40
abbrev N_marks_of : List Str := ["reader", "tape", "text", "found", "many", "more", "row"]
theorem sc_marks_of : FnScope N_marks_of ["reader", "tape", "text"] (defScope s_marks_of) := ⟨rfl, rfl, rfl, by decide +kernel, rfl, by decide +kernel, by decide +kernel⟩
abbrev s_heights_of : Stmt := topS 41
abbrev N_heights_of : List Str := ["reader", "tape", "text", "cost", "found", "last", "letter", "line", "many", "row", "rub", "high"]
theorem sc_heights_of : FnScope N_heights_of ["reader", "tape", "text"] (defScope s_heights_of) := ⟨rfl, rfl, rfl, by decide +kernel, rfl, by decide +kernel, by decide +kernel⟩
abbrev s_Written___init__ : Stmt := inClass (topS 34) 0
abbrev N_Written___init__ : List Str := ["self", "tape", "heights", "row"]
theorem sc_Written___init__ : FnScope N_Written___init__ ["self", "tape", "heights"] (defScope s_Written___init__) := ⟨rfl, rfl, rfl, by decide +kernel, rfl, by decide +kernel, by decide +kernel⟩
abbrev s_Barred___init__ : Stmt := inClass (topS 35) 0
abbrev N_Barred___init__ : List Str := ["self", "marks"]
theorem sc_Barred___init__ : FnScope N_Barred___init__ ["self", "marks"] (defScope s_Barred___init__) := ⟨rfl, rfl, rfl, by decide +kernel, rfl, by decide +kernel, by decide +kernel⟩
abbrev s_first_row : Stmt := topS 42
abbrev N_first_row : List Str := ["reader", "row", "letter", "cost", "other"]
theorem sc_first_row : FnScope N_first_row ["reader", "row", "letter", "cost"] (defScope s_first_row) := ⟨rfl, rfl, rfl, by decide +kernel, rfl, by decide +kernel, by decide +kernel⟩
abbrev s_tape_by : Stmt := topS 43
abbrev N_tape_by : List Str := ["reader", "tape", "text", "heights", "at", "cost", "found", "many", "row"]
theorem sc_tape_by : FnScope N_tape_by ["reader", "tape", "text", "heights"] (defScope s_tape_by) := ⟨rfl, rfl, rfl, by decide +kernel, rfl, by decide +kernel, by decide +kernel⟩
abbrev s_written : Stmt := topS 44
abbrev N_written : List Str := ["reader", "tape", "text", "heights", "marks"]
theorem sc_written : FnScope N_written ["reader", "tape", "text"] (defScope s_written) := ⟨rfl, rfl, rfl, by decide +kernel, rfl, by decide +kernel, by decide +kernel⟩
abbrev s_taken : Stmt := topS 30
abbrev N_taken : List Str := ["tape", "other", "one", "new"]
theorem sc_taken : FnScope N_taken ["tape", "other"] (defScope s_taken) := ⟨rfl, rfl, rfl, by decide +kernel, rfl, by decide +kernel, by decide +kernel⟩
abbrev s_Punch_become : Stmt := inClass (topS 51) 5
abbrev N_Punch_become : List Str := ["self", "tape", "many"]
theorem sc_Punch_become : FnScope N_Punch_become ["self", "tape"] (defScope s_Punch_become) := ⟨rfl, rfl, rfl, by decide +kernel, rfl, by decide +kernel, by decide +kernel⟩
abbrev s_Punch_write : Stmt := inClass (topS 51) 6
abbrev N_Punch_write : List Str := ["self", "text", "found"]
theorem sc_Punch_write : FnScope N_Punch_write ["self", "text"] (defScope s_Punch_write) := ⟨rfl, rfl, rfl, by decide +kernel, rfl, by decide +kernel, by decide +kernel⟩
abbrev s__law_can : Stmt := topS 66
abbrev N__law_can : List Str := ["_law_tape_here", "_law_other", "_law_row", "_law_new"]
theorem sc__law_can : FnScope N__law_can ["_law_tape_here", "_law_other"] (defScope s__law_can) := ⟨rfl, rfl, rfl, by decide +kernel, rfl, by decide +kernel, by decide +kernel⟩
abbrev s__law_reads : Stmt := topS 64
abbrev N__law_reads : List Str := ["_law_reader_here", "_law_tape_here", "_law_row"]
theorem sc__law_reads : FnScope N__law_reads ["_law_reader_here", "_law_tape_here"] (defScope s__law_reads) := ⟨rfl, rfl, rfl, by decide +kernel, rfl, by decide +kernel, by decide +kernel⟩
abbrev s__law_written : Stmt := topS 70
abbrev N__law_written : List Str := ["_law_punch", "_law_reader_here", "_law_tape_here", "_law_text_here", "_law_due", "_law_found", "_law_told"]
theorem sc__law_written : FnScope N__law_written ["_law_punch", "_law_reader_here", "_law_tape_here", "_law_text_here"] (defScope s__law_written) := ⟨rfl, rfl, rfl, by decide +kernel, rfl, by decide +kernel, by decide +kernel⟩
abbrev s_is_whole : Stmt := topS 17
abbrev N_is_whole : List Str := ["thing"]
theorem sc_is_whole : FnScope N_is_whole ["thing"] (defScope s_is_whole) := ⟨rfl, rfl, rfl, by decide +kernel, rfl, by decide +kernel, by decide +kernel⟩
abbrev s_Punch_feed : Stmt := inClass (topS 51) 4
abbrev N_Punch_feed : List Str := ["self", "many"]
theorem sc_Punch_feed : FnScope N_Punch_feed ["self", "many"] (defScope s_Punch_feed) := ⟨rfl, rfl, rfl, by decide +kernel, rfl, by decide +kernel, by decide +kernel⟩
abbrev s_Punch_check_place : Stmt := inClass (topS 51) 7
abbrev N_Punch_check_place : List Str := ["self", "place"]
theorem sc_Punch_check_place : FnScope N_Punch_check_place ["self", "place"] (defScope s_Punch_check_place) := ⟨rfl, rfl, rfl, by decide +kernel, rfl, by decide +kernel, by decide +kernel⟩
abbrev s_Punch_strike : Stmt := inClass (topS 51) 8
abbrev N_Punch_strike : List Str := ["self", "place", "row"]
theorem sc_Punch_strike : FnScope N_Punch_strike ["self", "place", "row"] (defScope s_Punch_strike) := ⟨rfl, rfl, rfl, by decide +kernel, rfl, by decide +kernel, by decide +kernel⟩
abbrev s_Punch_rub : Stmt := inClass (topS 51) 9
abbrev N_Punch_rub : List Str := ["self", "place"]
theorem sc_Punch_rub : FnScope N_Punch_rub ["self", "place"] (defScope s_Punch_rub) := ⟨rfl, rfl, rfl, by decide +kernel, rfl, by decide +kernel, by decide +kernel⟩
abbrev s__law_done : Stmt := topS 72
abbrev N__law_done : List Str := ["_law_punch", "_law_reader_here", "_law_tape_here", "_law_number", "_law_text_here", "_law_at", "_law_many", "_law_row", "_law_rows_here", "_law_size", "_law_told", "_law_width_here"]
theorem sc__law_done : FnScope N__law_done ["_law_punch", "_law_reader_here", "_law_tape_here", "_law_number", "_law_text_here"] (defScope s__law_done) := ⟨rfl, rfl, rfl, by decide +kernel, rfl, by decide +kernel, by decide +kernel⟩
abbrev s_below : Stmt := topS 27
abbrev N_below : List Str := ["row", "other"]
theorem sc_below : FnScope N_below ["row"] (defScope s_below) := ⟨rfl, rfl, rfl, by decide +kernel, rfl, by decide +kernel, by decide +kernel⟩
abbrev s_means_of : Stmt := topS 46
abbrev N_means_of : List Str := ["reader", "row", "found", "other"]
theorem sc_means_of : FnScope N_means_of ["reader", "row"] (defScope s_means_of) := ⟨rfl, rfl, rfl, by decide +kernel, rfl, by decide +kernel, by decide +kernel⟩
abbrev s_counts_of : Stmt := topS 47
abbrev N_counts_of : List Str := ["reader", "tape", "text", "found", "many", "means", "row", "some"]
theorem sc_counts_of : FnScope N_counts_of ["reader", "tape", "text"] (defScope s_counts_of) := ⟨rfl, rfl, rfl, by decide +kernel, rfl, by decide +kernel, by decide +kernel⟩
abbrev s_Never___init__ : Stmt := inClass (topS 37) 0
abbrev N_Never___init__ : List Str := ["self", "counts", "some"]
theorem sc_Never___init__ : FnScope N_Never___init__ ["self", "counts"] (defScope s_Never___init__) := ⟨rfl, rfl, rfl, by decide +kernel, rfl, by decide +kernel, by decide +kernel⟩
abbrev s_Stood___init__ : Stmt := inClass (topS 36) 0
abbrev N_Stood___init__ : List Str := ["self", "tape"]
theorem sc_Stood___init__ : FnScope N_Stood___init__ ["self", "tape"] (defScope s_Stood___init__) := ⟨rfl, rfl, rfl, by decide +kernel, rfl, by decide +kernel, by decide +kernel⟩
abbrev s_elder : Stmt := topS 48
abbrev N_elder : List Str := ["reader", "tape", "text", "counts", "at", "found", "many", "means"]
theorem sc_elder : FnScope N_elder ["reader", "tape", "text", "counts"] (defScope s_elder) := ⟨rfl, rfl, rfl, by decide +kernel, rfl, by decide +kernel, by decide +kernel⟩
abbrev s_stood_of : Stmt := topS 49
abbrev N_stood_of : List Str := ["reader", "tape", "text", "counts"]
theorem sc_stood_of : FnScope N_stood_of ["reader", "tape", "text"] (defScope s_stood_of) := ⟨rfl, rfl, rfl, by decide +kernel, rfl, by decide +kernel, by decide +kernel⟩
abbrev s_Punch_once : Stmt := inClass (topS 51) 10
abbrev N_Punch_once : List Str := ["self", "text"]
theorem sc_Punch_once : FnScope N_Punch_once ["self", "text"] (defScope s_Punch_once) := ⟨rfl, rfl, rfl, by decide +kernel, rfl, by decide +kernel, by decide +kernel⟩
abbrev s_text_of : Stmt := topS 29
abbrev N_text_of : List Str := ["reader", "tape", "row"]
theorem sc_text_of : FnScope N_text_of ["reader", "tape"] (defScope s_text_of) := ⟨rfl, rfl, rfl, by decide +kernel, rfl, by decide +kernel, by decide +kernel⟩
abbrev s_Punch_text : Stmt := inClass (topS 51) 2
abbrev N_Punch_text : List Str := ["self"]
theorem sc_Punch_text : FnScope N_Punch_text ["self"] (defScope s_Punch_text) := ⟨rfl, rfl, rfl, by decide +kernel, rfl, by decide +kernel, by decide +kernel⟩
abbrev s_Punch_took : Stmt := inClass (topS 51) 3
abbrev N_Punch_took : List Str := ["self"]
theorem sc_Punch_took : FnScope N_Punch_took ["self"] (defScope s_Punch_took) := ⟨rfl, rfl, rfl, by decide +kernel, rfl, by decide +kernel, by decide +kernel⟩
abbrev s__law_can_have : Stmt := topS 69
abbrev N__law_can_have : List Str := ["_law_reader_here", "_law_tape_here", "_law_text_here", "_law_means_here", "_law_more", "_law_row", "_law_some", "_law_other", "_law_many"]
theorem sc__law_can_have : FnScope N__law_can_have ["_law_reader_here", "_law_tape_here", "_law_text_here"] (defScope s__law_can_have) := ⟨rfl, rfl, rfl, by decide +kernel, rfl, by decide +kernel, by decide +kernel⟩
abbrev s__law_stands : Stmt := topS 73
abbrev N__law_stands : List Str := ["_law_punch", "_law_reader_here", "_law_tape_here", "_law_came", "_law_texts", "_law_said", "_law_text_here", "_law_told"]
theorem sc__law_stands : FnScope N__law_stands ["_law_punch", "_law_reader_here", "_law_tape_here", "_law_came", "_law_texts"] (defScope s__law_stands) := ⟨rfl, rfl, rfl, by decide +kernel, rfl, by decide +kernel, by decide +kernel⟩
abbrev s_BadText___init__ : Stmt := inClass (topS 5) 0
abbrev N_BadText___init__ : List Str := ["self", "place"]
theorem sc_BadText___init__ : FnScope N_BadText___init__ ["self", "place"] (defScope s_BadText___init__) := ⟨rfl, rfl, rfl, by decide +kernel, rfl, by decide +kernel, by decide +kernel⟩
abbrev s__law_bad : Stmt := topS 71
abbrev N__law_bad : List Str := ["_law_punch", "_law_width_here", "_law_number", "_law_size", "error"]
theorem sc__law_bad : FnScope N__law_bad ["_law_punch", "_law_width_here", "_law_number"] (defScope s__law_bad) := ⟨rfl, rfl, rfl, by decide +kernel, rfl, by decide +kernel, by decide +kernel⟩
abbrev s_Punch_twin : Stmt := inClass (topS 51) 11
abbrev N_Punch_twin : List Str := ["self", "other"]
theorem sc_Punch_twin : FnScope N_Punch_twin ["self"] (defScope s_Punch_twin) := ⟨rfl, rfl, rfl, by decide +kernel, rfl, by decide +kernel, by decide +kernel⟩
abbrev s_law : Stmt := topS 74
abbrev N_law : List Str := ["_law_script", "_law_after", "_law_came", "_law_draws", "_law_first", "_law_given", "_law_handed", "_law_other", "_law_pool_here", "_law_reader_here", "_law_second", "_law_tape_here", "_law_text_here", "_law_theirs", "_law_turn", "_law_width_here"]
theorem sc_law : FnScope N_law ["_law_script"] (defScope s_law) := ⟨rfl, rfl, rfl, by decide +kernel, rfl, by decide +kernel, by decide +kernel⟩
structure Txt (K : PySem.W.Frag) (mg : Str → Option Value) : Prop where
  z_abs : mg "abs" = none
  z_all : mg "all" = none
  z_any : mg "any" = none
  z_bool : mg "bool" = none
  z_dict : mg "dict" = none
  z_enumerate : mg "enumerate" = none
  z_int : mg "int" = none
  z_isinstance : mg "isinstance" = none
  z_len : mg "len" = none
  z_list : mg "list" = none
  z_max : mg "max" = none
  z_min : mg "min" = none
  z_range : mg "range" = none
  z_reversed : mg "reversed" = none
  z_set : mg "set" = none
  z_sorted : mg "sorted" = none
  z_str : mg "str" = none
  z_sum : mg "sum" = none
  z_zip : mg "zip" = none
  c_HOLE : ∃ t, mg "HOLE" = some (.str (S [111]) t)
  c_BLANK : ∃ t, mg "BLANK" = some (.str (S [46]) t)
  c_LETTERS : ∃ t, mg "LETTERS" = some (.str (S [97, 98, 99, 100, 101, 102, 103, 104, 105, 106, 107, 108, 109, 110, 111, 112, 113, 114, 115, 116, 117, 118, 119, 120, 121, 122]) t)
  c_WIDEST : ∃ t, mg "WIDEST" = some (.int 4 t)
  c_MOST : ∃ t, mg "MOST" = some (.int 30 t)
  c_FAR : ∃ t, mg "FAR" = some (.int 1000 t)
  k_Punch : ClsAt K mg "Punch"
  f_Punch_width : NoAttr K (cA mg "Punch") "width"
  f_Punch_reader : NoAttr K (cA mg "Punch") "reader"
  f_Punch_rows : NoAttr K (cA mg "Punch") "rows"
  f_Punch_made : NoAttr K (cA mg "Punch") "made"
  k_Written : ClsAt K mg "Written"
  f_Written_tape : NoAttr K (cA mg "Written") "tape"
  f_Written_heights : NoAttr K (cA mg "Written") "heights"
  k_Barred : ClsAt K mg "Barred"
  f_Barred_marks : NoAttr K (cA mg "Barred") "marks"
  k_Never : ClsAt K mg "Never"
  f_Never_counts : NoAttr K (cA mg "Never") "counts"
  k_Stood : ClsAt K mg "Stood"
  f_Stood_tape : NoAttr K (cA mg "Stood") "tape"
  q_Written_Barred : PySem.W.kitOne K (.ref (cA mg "Written")) (.ref (cA mg "Barred")) = some false
  q_Barred_Barred : PySem.W.kitOne K (.ref (cA mg "Barred")) (.ref (cA mg "Barred")) = some true
  q_Stood_Stood : PySem.W.kitOne K (.ref (cA mg "Stood")) (.ref (cA mg "Stood")) = some true
  q_Never_Stood : PySem.W.kitOne K (.ref (cA mg "Never")) (.ref (cA mg "Stood")) = some false
  x_BadNumber : ExcAt K mg "BadNumber"
  x_TooLong : ExcAt K mg "TooLong"
  x_BadPlace : ExcAt K mg "BadPlace"
  x_BadRow : ExcAt K mg "BadRow"
  x_NotSo : ExcAt K mg "NotSo"
  xq_BadText : ExcQ K mg "BadText" "place" "BadText.__init__" s_BadText___init__ ["self", "place"]
  xb_TapeError : ExcBAt K mg "TapeError"
  em_BadNumber_BadNumber : PySem.W.exmOne K (.ref (cA mg "BadNumber")) (.ref (cA mg "BadNumber")) = some true
  em_TooLong_BadNumber : PySem.W.exmOne K (.ref (cA mg "TooLong")) (.ref (cA mg "BadNumber")) = some false
  em_TooLong_TooLong : PySem.W.exmOne K (.ref (cA mg "TooLong")) (.ref (cA mg "TooLong")) = some true
  em_BadText_BadNumber : PySem.W.exmOne K (.ref (cA mg "BadText")) (.ref (cA mg "BadNumber")) = some false
  em_BadText_TooLong : PySem.W.exmOne K (.ref (cA mg "BadText")) (.ref (cA mg "TooLong")) = some false
  em_BadText_BadText : PySem.W.exmOne K (.ref (cA mg "BadText")) (.ref (cA mg "BadText")) = some true
  em_BadPlace_BadNumber : PySem.W.exmOne K (.ref (cA mg "BadPlace")) (.ref (cA mg "BadNumber")) = some false
  em_BadPlace_TooLong : PySem.W.exmOne K (.ref (cA mg "BadPlace")) (.ref (cA mg "TooLong")) = some false
  em_BadPlace_BadText : PySem.W.exmOne K (.ref (cA mg "BadPlace")) (.ref (cA mg "BadText")) = some false
  em_BadPlace_BadPlace : PySem.W.exmOne K (.ref (cA mg "BadPlace")) (.ref (cA mg "BadPlace")) = some true
  em_BadRow_BadNumber : PySem.W.exmOne K (.ref (cA mg "BadRow")) (.ref (cA mg "BadNumber")) = some false
  em_BadRow_TooLong : PySem.W.exmOne K (.ref (cA mg "BadRow")) (.ref (cA mg "TooLong")) = some false
  em_BadRow_BadText : PySem.W.exmOne K (.ref (cA mg "BadRow")) (.ref (cA mg "BadText")) = some false
  em_BadRow_BadPlace : PySem.W.exmOne K (.ref (cA mg "BadRow")) (.ref (cA mg "BadPlace")) = some false
  em_BadRow_BadRow : PySem.W.exmOne K (.ref (cA mg "BadRow")) (.ref (cA mg "BadRow")) = some true
  em_NotSo_BadNumber : PySem.W.exmOne K (.ref (cA mg "NotSo")) (.ref (cA mg "BadNumber")) = some false
  em_NotSo_TooLong : PySem.W.exmOne K (.ref (cA mg "NotSo")) (.ref (cA mg "TooLong")) = some false
  em_NotSo_BadText : PySem.W.exmOne K (.ref (cA mg "NotSo")) (.ref (cA mg "BadText")) = some false
  em_NotSo_BadPlace : PySem.W.exmOne K (.ref (cA mg "NotSo")) (.ref (cA mg "BadPlace")) = some false
  em_NotSo_BadRow : PySem.W.exmOne K (.ref (cA mg "NotSo")) (.ref (cA mg "BadRow")) = some false
  em_NotSo_NotSo : PySem.W.exmOne K (.ref (cA mg "NotSo")) (.ref (cA mg "NotSo")) = some true
  d__law_draw : DefAt K mg "_law_draw" "_law_draw" s__law_draw ["_law_cell", "_law_k", "_law_many"]
  d__law_cell_at : DefAt K mg "_law_cell_at" "_law_cell_at" s__law_cell_at ["_law_script", "_law_k"]
  d__law_digits : DefAt K mg "_law_digits" "_law_digits" s__law_digits ["_law_script", "_law_at", "_law_many", "_law_base"]
  d__law_pool : DefAt K mg "_law_pool" "_law_pool" s__law_pool ["_law_script", "_law_at"]
  d__law_rows : DefAt K mg "_law_rows" "_law_rows" s__law_rows ["_law_width_here"]
  d__law_reader : DefAt K mg "_law_reader" "_law_reader" s__law_reader ["_law_script", "_law_at", "_law_pool_here", "_law_least"]
  d__law_width : DefAt K mg "_law_width" "_law_width" s__law_width ["_law_reader_here"]
  d__law_tape : DefAt K mg "_law_tape" "_law_tape" s__law_tape ["_law_script", "_law_at", "_law_width_here", "_law_many"]
  d_is_row : DefAt K mg "is_row" "is_row" s_is_row ["thing", "width"]
  d_is_letter : DefAt K mg "is_letter" "is_letter" s_is_letter ["thing"]
  d_width_of : DefAt K mg "width_of" "width_of" s_width_of ["reader"]
  d_check_tape : DefAt K mg "check_tape" "check_tape" s_check_tape ["width", "tape"]
  i_Punch : InitAtD K mg "Punch" "Punch.__init__" s_Punch___init__ ["self", "reader", "tape"] [.non]
  d__law_text : DefAt K mg "_law_text" "_law_text" s__law_text ["_law_script", "_law_at", "_law_pool_here", "_law_many"]
  m_Punch_standing : MethAt K mg "Punch" "standing" "Punch.standing" s_Punch_standing ["self"]
  d__law_over : DefAt K mg "_law_over" "_law_over" s__law_over ["_law_row", "_law_other"]
  d__law_means : DefAt K mg "_law_means" "_law_means" s__law_means ["_law_reader_here", "_law_row"]
  d__law_holes : DefAt K mg "_law_holes" "_law_holes" s__law_holes ["_law_tape_here"]
  d__law_cost : DefAt K mg "_law_cost" "_law_cost" s__law_cost ["_law_reader_here", "_law_row", "_law_letter"]
  d__law_fewest : DefAt K mg "_law_fewest" "_law_fewest" s__law_fewest ["_law_reader_here", "_law_tape_here", "_law_text_here"]
  d_check_text : DefAt K mg "check_text" "check_text" s_check_text ["text"]
  d_cost_of : DefAt K mg "cost_of" "cost_of" s_cost_of ["row", "other"]
  d_rows_of : DefAt K mg "rows_of" "rows_of" s_rows_of ["width"]
  d_goes_over : DefAt K mg "goes_over" "goes_over" s_goes_over ["row", "other"]
  d_above : DefAt K mg "above" "above" s_above ["row"]
  d_meaning : DefAt K mg "meaning" "meaning" s_meaning ["reader", "row"]
  d_cheapest : DefAt K mg "cheapest" "cheapest" s_cheapest ["reader", "row", "letter"]
  d_marks_of : DefAt K mg "marks_of" "marks_of" s_marks_of ["reader", "tape", "text"]
  d_heights_of : DefAt K mg "heights_of" "heights_of" s_heights_of ["reader", "tape", "text"]
  i_Written : InitAt K mg "Written" "Written.__init__" s_Written___init__ ["self", "tape", "heights"]
  i_Barred : InitAt K mg "Barred" "Barred.__init__" s_Barred___init__ ["self", "marks"]
  d_first_row : DefAt K mg "first_row" "first_row" s_first_row ["reader", "row", "letter", "cost"]
  d_tape_by : DefAt K mg "tape_by" "tape_by" s_tape_by ["reader", "tape", "text", "heights"]
  d_written : DefAt K mg "written" "written" s_written ["reader", "tape", "text"]
  d_taken : DefAt K mg "taken" "taken" s_taken ["tape", "other"]
  m_Punch_become : MethAt K mg "Punch" "become" "Punch.become" s_Punch_become ["self", "tape"]
  m_Punch_write : MethAt K mg "Punch" "write" "Punch.write" s_Punch_write ["self", "text"]
  d__law_can : DefAt K mg "_law_can" "_law_can" s__law_can ["_law_tape_here", "_law_other"]
  d__law_reads : DefAt K mg "_law_reads" "_law_reads" s__law_reads ["_law_reader_here", "_law_tape_here"]
  d__law_written : DefAt K mg "_law_written" "_law_written" s__law_written ["_law_punch", "_law_reader_here", "_law_tape_here", "_law_text_here"]
  d_is_whole : DefAt K mg "is_whole" "is_whole" s_is_whole ["thing"]
  m_Punch_feed : MethAtD K mg "Punch" "feed" "Punch.feed" s_Punch_feed ["self", "many"] [.int 1]
  m_Punch_check_place : MethAt K mg "Punch" "check_place" "Punch.check_place" s_Punch_check_place ["self", "place"]
  m_Punch_strike : MethAt K mg "Punch" "strike" "Punch.strike" s_Punch_strike ["self", "place", "row"]
  m_Punch_rub : MethAt K mg "Punch" "rub" "Punch.rub" s_Punch_rub ["self", "place"]
  d__law_done : DefAt K mg "_law_done" "_law_done" s__law_done ["_law_punch", "_law_reader_here", "_law_tape_here", "_law_number", "_law_text_here"]
  d_below : DefAt K mg "below" "below" s_below ["row"]
  d_means_of : DefAt K mg "means_of" "means_of" s_means_of ["reader", "row"]
  d_counts_of : DefAt K mg "counts_of" "counts_of" s_counts_of ["reader", "tape", "text"]
  i_Never : InitAt K mg "Never" "Never.__init__" s_Never___init__ ["self", "counts"]
  i_Stood : InitAt K mg "Stood" "Stood.__init__" s_Stood___init__ ["self", "tape"]
  d_elder : DefAt K mg "elder" "elder" s_elder ["reader", "tape", "text", "counts"]
  d_stood_of : DefAt K mg "stood_of" "stood_of" s_stood_of ["reader", "tape", "text"]
  m_Punch_once : MethAt K mg "Punch" "once" "Punch.once" s_Punch_once ["self", "text"]
  d_text_of : DefAt K mg "text_of" "text_of" s_text_of ["reader", "tape"]
  m_Punch_text : MethAt K mg "Punch" "text" "Punch.text" s_Punch_text ["self"]
  m_Punch_took : MethAt K mg "Punch" "took" "Punch.took" s_Punch_took ["self"]
  d__law_can_have : DefAt K mg "_law_can_have" "_law_can_have" s__law_can_have ["_law_reader_here", "_law_tape_here", "_law_text_here"]
  d__law_stands : DefAt K mg "_law_stands" "_law_stands" s__law_stands ["_law_punch", "_law_reader_here", "_law_tape_here", "_law_came", "_law_texts"]
  d__law_bad : DefAt K mg "_law_bad" "_law_bad" s__law_bad ["_law_punch", "_law_width_here", "_law_number"]
  m_Punch_twin : MethAt K mg "Punch" "twin" "Punch.twin" s_Punch_twin ["self"]
def hdFa_0 : List He.Fa := [.glo "_law_draw", .glo "_law_cell_at", .glo "_law_digits", .glo "_law_pool", .glo "_law_rows", .glo "_law_reader", .glo "_law_width", .glo "_law_tape", .glo "is_row", .glo "is_letter", .glo "width_of", .glo "check_tape", .glo "_law_text", .glo "_law_over", .glo "_law_means", .glo "_law_holes", .glo "_law_cost", .glo "_law_fewest", .glo "check_text", .glo "cost_of", .glo "rows_of", .glo "goes_over", .glo "above", .glo "meaning", .glo "cheapest", .glo "marks_of", .glo "heights_of", .glo "first_row", .glo "tape_by", .glo "written", .glo "taken", .glo "_law_can", .glo "_law_reads", .glo "_law_written", .glo "is_whole", .glo "_law_done", .glo "below", .glo "means_of", .glo "counts_of", .glo "elder"]
def hdFa_1 : List He.Fa := [.glo "stood_of", .glo "text_of", .glo "_law_can_have", .glo "_law_stands", .glo "_law_bad", .glo "law", .glo "Punch", .glo "Written", .glo "Barred", .glo "Never", .glo "Stood", .glo "BadReader", .glo "BadTape", .glo "BadText", .glo "BadNumber", .glo "TooLong", .glo "BadPlace", .glo "BadRow", .glo "NotSo", .glo "TapeError", .cls "Punch", .noat "Punch" "width", .noat "Punch" "reader", .noat "Punch" "rows", .noat "Punch" "made", .cls "Written", .noat "Written" "tape", .noat "Written" "heights", .cls "Barred", .noat "Barred" "marks", .cls "Never", .noat "Never" "counts", .cls "Stood", .noat "Stood" "tape", .exc "BadNumber", .exc "TooLong", .exc "BadPlace", .exc "BadRow", .exc "NotSo", .exm "BadNumber" "BadNumber" true]
def hdFa_2 : List He.Fa := [.exm "TooLong" "BadNumber" false, .exm "TooLong" "TooLong" true, .exm "BadText" "BadNumber" false, .exm "BadText" "TooLong" false, .exm "BadText" "BadText" true, .exm "BadPlace" "BadNumber" false, .exm "BadPlace" "TooLong" false, .exm "BadPlace" "BadText" false, .exm "BadPlace" "BadPlace" true, .exm "BadRow" "BadNumber" false, .exm "BadRow" "TooLong" false, .exm "BadRow" "BadText" false, .exm "BadRow" "BadPlace" false, .exm "BadRow" "BadRow" true, .exm "NotSo" "BadNumber" false, .exm "NotSo" "TooLong" false, .exm "NotSo" "BadText" false, .exm "NotSo" "BadPlace" false, .exm "NotSo" "BadRow" false, .exm "NotSo" "NotSo" true, .mkr "Punch", .meth "Punch" "standing", .mkr "Written", .mkr "Barred", .meth "Punch" "become", .meth "Punch" "write", .meth "Punch" "feed", .meth "Punch" "check_place", .meth "Punch" "strike", .meth "Punch" "rub", .mkr "Never", .mkr "Stood", .meth "Punch" "once", .meth "Punch" "text", .meth "Punch" "took", .meth "Punch" "twin", .free "abs", .free "all", .free "any", .free "bool"]
def hdFa_3 : List He.Fa := [.free "dict", .free "enumerate", .free "int", .free "isinstance", .free "len", .free "list", .free "max", .free "min", .free "range", .free "reversed", .free "set", .free "sorted", .free "str", .free "sum", .free "zip", .str "HOLE" (S [111]), .str "BLANK" (S [46]), .str "LETTERS" (S [97, 98, 99, 100, 101, 102, 103, 104, 105, 106, 107, 108, 109, 110, 111, 112, 113, 114, 115, 116, 117, 118, 119, 120, 121, 122]), .int "WIDEST" 4, .int "MOST" 30, .int "FAR" 1000]
def hdFa : List He.Fa := hdFa_0 ++ (hdFa_1 ++ (hdFa_2 ++ (hdFa_3)))
abbrev hd__law_draw : He.DefD := ⟨("_law_draw", none), "_law_draw", "_law_draw", defArgs s__law_draw, defBody s__law_draw, defScope s__law_draw, [], []⟩
abbrev hd__law_cell_at : He.DefD := ⟨("_law_cell_at", none), "_law_cell_at", "_law_cell_at", defArgs s__law_cell_at, defBody s__law_cell_at, defScope s__law_cell_at, [], []⟩
abbrev hd__law_digits : He.DefD := ⟨("_law_digits", none), "_law_digits", "_law_digits", defArgs s__law_digits, defBody s__law_digits, defScope s__law_digits, [], []⟩
abbrev hd__law_pool : He.DefD := ⟨("_law_pool", none), "_law_pool", "_law_pool", defArgs s__law_pool, defBody s__law_pool, defScope s__law_pool, [], []⟩
abbrev hd__law_rows : He.DefD := ⟨("_law_rows", none), "_law_rows", "_law_rows", defArgs s__law_rows, defBody s__law_rows, defScope s__law_rows, [], []⟩
abbrev hd__law_reader : He.DefD := ⟨("_law_reader", none), "_law_reader", "_law_reader", defArgs s__law_reader, defBody s__law_reader, defScope s__law_reader, [], []⟩
abbrev hd__law_width : He.DefD := ⟨("_law_width", none), "_law_width", "_law_width", defArgs s__law_width, defBody s__law_width, defScope s__law_width, [], []⟩
abbrev hd__law_tape : He.DefD := ⟨("_law_tape", none), "_law_tape", "_law_tape", defArgs s__law_tape, defBody s__law_tape, defScope s__law_tape, [], []⟩
abbrev hd_is_row : He.DefD := ⟨("is_row", none), "is_row", "is_row", defArgs s_is_row, defBody s_is_row, defScope s_is_row, [], []⟩
abbrev hd_is_letter : He.DefD := ⟨("is_letter", none), "is_letter", "is_letter", defArgs s_is_letter, defBody s_is_letter, defScope s_is_letter, [], []⟩
abbrev hd_width_of : He.DefD := ⟨("width_of", none), "width_of", "width_of", defArgs s_width_of, defBody s_width_of, defScope s_width_of, [], []⟩
abbrev hd_check_tape : He.DefD := ⟨("check_tape", none), "check_tape", "check_tape", defArgs s_check_tape, defBody s_check_tape, defScope s_check_tape, [], []⟩
abbrev hd_Punch___init__ : He.DefD := ⟨("Punch", some "__init__"), "__init__", "Punch.__init__", defArgs s_Punch___init__, defBody s_Punch___init__, defScope s_Punch___init__, [.non], []⟩
abbrev hd__law_text : He.DefD := ⟨("_law_text", none), "_law_text", "_law_text", defArgs s__law_text, defBody s__law_text, defScope s__law_text, [], []⟩
abbrev hd_Punch_standing : He.DefD := ⟨("Punch", some "standing"), "standing", "Punch.standing", defArgs s_Punch_standing, defBody s_Punch_standing, defScope s_Punch_standing, [], []⟩
abbrev hd__law_over : He.DefD := ⟨("_law_over", none), "_law_over", "_law_over", defArgs s__law_over, defBody s__law_over, defScope s__law_over, [], []⟩
abbrev hd__law_means : He.DefD := ⟨("_law_means", none), "_law_means", "_law_means", defArgs s__law_means, defBody s__law_means, defScope s__law_means, [], []⟩
abbrev hd__law_holes : He.DefD := ⟨("_law_holes", none), "_law_holes", "_law_holes", defArgs s__law_holes, defBody s__law_holes, defScope s__law_holes, [], []⟩
abbrev hd__law_cost : He.DefD := ⟨("_law_cost", none), "_law_cost", "_law_cost", defArgs s__law_cost, defBody s__law_cost, defScope s__law_cost, [], []⟩
abbrev hd__law_fewest : He.DefD := ⟨("_law_fewest", none), "_law_fewest", "_law_fewest", defArgs s__law_fewest, defBody s__law_fewest, defScope s__law_fewest, [], []⟩
abbrev hd_check_text : He.DefD := ⟨("check_text", none), "check_text", "check_text", defArgs s_check_text, defBody s_check_text, defScope s_check_text, [], []⟩
abbrev hd_cost_of : He.DefD := ⟨("cost_of", none), "cost_of", "cost_of", defArgs s_cost_of, defBody s_cost_of, defScope s_cost_of, [], []⟩
abbrev hd_rows_of : He.DefD := ⟨("rows_of", none), "rows_of", "rows_of", defArgs s_rows_of, defBody s_rows_of, defScope s_rows_of, [], []⟩
abbrev hd_goes_over : He.DefD := ⟨("goes_over", none), "goes_over", "goes_over", defArgs s_goes_over, defBody s_goes_over, defScope s_goes_over, [], []⟩
abbrev hd_above : He.DefD := ⟨("above", none), "above", "above", defArgs s_above, defBody s_above, defScope s_above, [], []⟩
abbrev hd_meaning : He.DefD := ⟨("meaning", none), "meaning", "meaning", defArgs s_meaning, defBody s_meaning, defScope s_meaning, [], []⟩
abbrev hd_cheapest : He.DefD := ⟨("cheapest", none), "cheapest", "cheapest", defArgs s_cheapest, defBody s_cheapest, defScope s_cheapest, [], []⟩
abbrev hd_marks_of : He.DefD := ⟨("marks_of", none), "marks_of", "marks_of", defArgs s_marks_of, defBody s_marks_of, defScope s_marks_of, [], []⟩
abbrev hd_heights_of : He.DefD := ⟨("heights_of", none), "heights_of", "heights_of", defArgs s_heights_of, defBody s_heights_of, defScope s_heights_of, [], []⟩
abbrev hd_Written___init__ : He.DefD := ⟨("Written", some "__init__"), "__init__", "Written.__init__", defArgs s_Written___init__, defBody s_Written___init__, defScope s_Written___init__, [], []⟩
abbrev hd_Barred___init__ : He.DefD := ⟨("Barred", some "__init__"), "__init__", "Barred.__init__", defArgs s_Barred___init__, defBody s_Barred___init__, defScope s_Barred___init__, [], []⟩
abbrev hd_first_row : He.DefD := ⟨("first_row", none), "first_row", "first_row", defArgs s_first_row, defBody s_first_row, defScope s_first_row, [], []⟩
abbrev hd_tape_by : He.DefD := ⟨("tape_by", none), "tape_by", "tape_by", defArgs s_tape_by, defBody s_tape_by, defScope s_tape_by, [], []⟩
abbrev hd_written : He.DefD := ⟨("written", none), "written", "written", defArgs s_written, defBody s_written, defScope s_written, [], []⟩
abbrev hd_taken : He.DefD := ⟨("taken", none), "taken", "taken", defArgs s_taken, defBody s_taken, defScope s_taken, [], []⟩
abbrev hd_Punch_become : He.DefD := ⟨("Punch", some "become"), "become", "Punch.become", defArgs s_Punch_become, defBody s_Punch_become, defScope s_Punch_become, [], []⟩
abbrev hd_Punch_write : He.DefD := ⟨("Punch", some "write"), "write", "Punch.write", defArgs s_Punch_write, defBody s_Punch_write, defScope s_Punch_write, [], []⟩
abbrev hd__law_can : He.DefD := ⟨("_law_can", none), "_law_can", "_law_can", defArgs s__law_can, defBody s__law_can, defScope s__law_can, [], []⟩
abbrev hd__law_reads : He.DefD := ⟨("_law_reads", none), "_law_reads", "_law_reads", defArgs s__law_reads, defBody s__law_reads, defScope s__law_reads, [], []⟩
abbrev hd__law_written : He.DefD := ⟨("_law_written", none), "_law_written", "_law_written", defArgs s__law_written, defBody s__law_written, defScope s__law_written, [], []⟩
abbrev hd_is_whole : He.DefD := ⟨("is_whole", none), "is_whole", "is_whole", defArgs s_is_whole, defBody s_is_whole, defScope s_is_whole, [], []⟩
abbrev hd_Punch_feed : He.DefD := ⟨("Punch", some "feed"), "feed", "Punch.feed", defArgs s_Punch_feed, defBody s_Punch_feed, defScope s_Punch_feed, [.int 1], []⟩
abbrev hd_Punch_check_place : He.DefD := ⟨("Punch", some "check_place"), "check_place", "Punch.check_place", defArgs s_Punch_check_place, defBody s_Punch_check_place, defScope s_Punch_check_place, [], []⟩
abbrev hd_Punch_strike : He.DefD := ⟨("Punch", some "strike"), "strike", "Punch.strike", defArgs s_Punch_strike, defBody s_Punch_strike, defScope s_Punch_strike, [], []⟩
abbrev hd_Punch_rub : He.DefD := ⟨("Punch", some "rub"), "rub", "Punch.rub", defArgs s_Punch_rub, defBody s_Punch_rub, defScope s_Punch_rub, [], []⟩
abbrev hd__law_done : He.DefD := ⟨("_law_done", none), "_law_done", "_law_done", defArgs s__law_done, defBody s__law_done, defScope s__law_done, [], []⟩
abbrev hd_below : He.DefD := ⟨("below", none), "below", "below", defArgs s_below, defBody s_below, defScope s_below, [], []⟩
abbrev hd_means_of : He.DefD := ⟨("means_of", none), "means_of", "means_of", defArgs s_means_of, defBody s_means_of, defScope s_means_of, [], []⟩
abbrev hd_counts_of : He.DefD := ⟨("counts_of", none), "counts_of", "counts_of", defArgs s_counts_of, defBody s_counts_of, defScope s_counts_of, [], []⟩
abbrev hd_Never___init__ : He.DefD := ⟨("Never", some "__init__"), "__init__", "Never.__init__", defArgs s_Never___init__, defBody s_Never___init__, defScope s_Never___init__, [], []⟩
abbrev hd_Stood___init__ : He.DefD := ⟨("Stood", some "__init__"), "__init__", "Stood.__init__", defArgs s_Stood___init__, defBody s_Stood___init__, defScope s_Stood___init__, [], []⟩
abbrev hd_elder : He.DefD := ⟨("elder", none), "elder", "elder", defArgs s_elder, defBody s_elder, defScope s_elder, [], []⟩
abbrev hd_stood_of : He.DefD := ⟨("stood_of", none), "stood_of", "stood_of", defArgs s_stood_of, defBody s_stood_of, defScope s_stood_of, [], []⟩
abbrev hd_Punch_once : He.DefD := ⟨("Punch", some "once"), "once", "Punch.once", defArgs s_Punch_once, defBody s_Punch_once, defScope s_Punch_once, [], []⟩
abbrev hd_text_of : He.DefD := ⟨("text_of", none), "text_of", "text_of", defArgs s_text_of, defBody s_text_of, defScope s_text_of, [], []⟩
abbrev hd_Punch_text : He.DefD := ⟨("Punch", some "text"), "text", "Punch.text", defArgs s_Punch_text, defBody s_Punch_text, defScope s_Punch_text, [], []⟩
abbrev hd_Punch_took : He.DefD := ⟨("Punch", some "took"), "took", "Punch.took", defArgs s_Punch_took, defBody s_Punch_took, defScope s_Punch_took, [], []⟩
abbrev hd__law_can_have : He.DefD := ⟨("_law_can_have", none), "_law_can_have", "_law_can_have", defArgs s__law_can_have, defBody s__law_can_have, defScope s__law_can_have, [], []⟩
abbrev hd__law_stands : He.DefD := ⟨("_law_stands", none), "_law_stands", "_law_stands", defArgs s__law_stands, defBody s__law_stands, defScope s__law_stands, [], []⟩
abbrev hd_BadText___init__ : He.DefD := ⟨("BadText", some "__init__"), "__init__", "BadText.__init__", defArgs s_BadText___init__, defBody s_BadText___init__, defScope s_BadText___init__, [], []⟩
abbrev hd__law_bad : He.DefD := ⟨("_law_bad", none), "_law_bad", "_law_bad", defArgs s__law_bad, defBody s__law_bad, defScope s__law_bad, [], []⟩
abbrev hd_Punch_twin : He.DefD := ⟨("Punch", some "twin"), "twin", "Punch.twin", defArgs s_Punch_twin, defBody s_Punch_twin, defScope s_Punch_twin, [], []⟩
abbrev hd_law : He.DefD := ⟨("law", none), "law", "law", defArgs s_law, defBody s_law, defScope s_law, [], []⟩
def hdF1_0 : List He.DefD := [hd__law_draw, hd__law_cell_at, hd__law_digits, hd__law_pool, hd__law_rows, hd__law_reader, hd__law_width, hd__law_tape, hd_is_row, hd_is_letter, hd_width_of, hd_check_tape, hd_Punch___init__, hd__law_text, hd_Punch_standing, hd__law_over, hd__law_means, hd__law_holes, hd__law_cost, hd__law_fewest, hd_check_text]
def hdF1 : List He.DefD := hdF1_0
def hdF2_0 : List He.DefD := [hd_cost_of, hd_rows_of, hd_goes_over, hd_above, hd_meaning, hd_cheapest, hd_marks_of, hd_heights_of, hd_Written___init__, hd_Barred___init__, hd_first_row, hd_tape_by, hd_written, hd_taken, hd_Punch_become, hd_Punch_write, hd__law_can, hd__law_reads, hd__law_written, hd_is_whole, hd_Punch_feed]
def hdF2 : List He.DefD := hdF2_0
def hdF3_0 : List He.DefD := [hd_Punch_check_place, hd_Punch_strike, hd_Punch_rub, hd__law_done, hd_below, hd_means_of, hd_counts_of, hd_Never___init__, hd_Stood___init__, hd_elder, hd_stood_of, hd_Punch_once, hd_text_of, hd_Punch_text, hd_Punch_took, hd__law_can_have, hd__law_stands, hd_BadText___init__, hd__law_bad, hd_Punch_twin, hd_law]
def hdF3 : List He.DefD := hdF3_0
def hdFn : List He.DefD := hdF1 ++ (hdF2 ++ hdF3)
def hdKi_0 : List (Str × Str × Bool) := [("Written", "Barred", false), ("Barred", "Barred", true), ("Stood", "Stood", true), ("Never", "Stood", false)]
def hdKi : List (Str × Str × Bool) := hdKi_0
def hdCl_0 : List Str := [("Punch" : Str), ("Written" : Str), ("Barred" : Str), ("Never" : Str), ("Stood" : Str)]
def hdCl : List Str := hdCl_0
def hdTf : List He.Defn := []
def hdDis (K : PySem.W.Frag) : Bool := excFB K "BadText" "place" && (excBB K "TapeError")
def hdEx (K : PySem.W.Frag) : Bool := getB K && (hdCl.all (clsB K) && (hdKi.all (kitB K) && hdDis K))
abbrev hdR : PySem.W.OpenRow := PySem.W.OpenLaw.row PySem.Challenge.rw_holetape_k11_whole_punch
def hdNm_0 : List PySem.Str := [("_wall" : PySem.Str), ("TapeError" : PySem.Str), ("BadReader" : PySem.Str), ("BadTape" : PySem.Str), ("BadText" : PySem.Str), ("BadRow" : PySem.Str), ("BadNumber" : PySem.Str), ("BadPlace" : PySem.Str), ("NotSo" : PySem.Str), ("TooLong" : PySem.Str), ("HOLE" : PySem.Str), ("BLANK" : PySem.Str), ("LETTERS" : PySem.Str), ("WIDEST" : PySem.Str), ("MOST" : PySem.Str), ("is_whole" : PySem.Str), ("is_row" : PySem.Str), ("is_letter" : PySem.Str), ("width_of" : PySem.Str), ("check_tape" : PySem.Str), ("check_text" : PySem.Str), ("goes_over" : PySem.Str), ("cost_of" : PySem.Str), ("rows_of" : PySem.Str), ("above" : PySem.Str), ("below" : PySem.Str), ("meaning" : PySem.Str), ("text_of" : PySem.Str), ("taken" : PySem.Str), ("Answer" : PySem.Str), ("cheapest" : PySem.Str), ("Written" : PySem.Str), ("Barred" : PySem.Str), ("Stood" : PySem.Str), ("Never" : PySem.Str), ("FAR" : PySem.Str), ("marks_of" : PySem.Str), ("heights_of" : PySem.Str), ("first_row" : PySem.Str), ("tape_by" : PySem.Str)]
def hdNm_1 : List PySem.Str := [("written" : PySem.Str), ("means_of" : PySem.Str), ("counts_of" : PySem.Str), ("elder" : PySem.Str), ("stood_of" : PySem.Str), ("Punch" : PySem.Str), ("_law_draw" : PySem.Str), ("_law_cell_at" : PySem.Str), ("_law_digits" : PySem.Str), ("_law_rows" : PySem.Str), ("_law_pool" : PySem.Str), ("_law_reader" : PySem.Str), ("_law_width" : PySem.Str), ("_law_tape" : PySem.Str), ("_law_text" : PySem.Str), ("_law_over" : PySem.Str), ("_law_means" : PySem.Str), ("_law_reads" : PySem.Str), ("_law_holes" : PySem.Str), ("_law_can" : PySem.Str), ("_law_cost" : PySem.Str), ("_law_fewest" : PySem.Str), ("_law_can_have" : PySem.Str), ("_law_written" : PySem.Str), ("_law_bad" : PySem.Str), ("_law_done" : PySem.Str), ("_law_stands" : PySem.Str)]
def hdNm : List PySem.Str := hdNm_0 ++ (hdNm_1)
abbrev hdK : PySem.W.Hook := hookY hdFa hdF1 hdF2 hdF3 hdTf hdEx
def hdOb (s : PySem.W.SharedT) : AlY := obsY hdFa hdF1 hdF2 hdF3 hdTf hdEx (HandSHeadRun.getT s)
theorem hdOb_eq (s : PySem.W.SharedT) : hdOb s = hdK.obs s.abs := obsY_eq (HandSHeadRun.getT_eq s)
abbrev hdV : PySem.Program := PySem.W.view hdR.prog [74]
section
open PySem PySem.W PySem.Calls PyProof.Rows
theorem run_A {α β γ : Type} {x : Option α} {a1 : α → β} {b1 : β} {a2 : α → γ} {c1 : γ} {p q1 q2 q4 : α → Bool} (h : x.map (fun s => (a1 s, a2 s)) = some (b1, c1)) (h1 : x.map q1 = some true) (h2 : x.map q2 = some true) (h4 : x.map q4 = some true) (hp : ∀ s, q1 s = true → q2 s = true → q4 s = true → p s = true) :
    x.map (fun s => (a1 s, a2 s, p s)) = some (b1, c1, true) := by
  cases x with
  | none => cases h
  | some s =>
    simp only [Option.map_some, Option.some.injEq, Prod.mk.injEq] at h h1 h2 h4 ⊢
    exact ⟨h.1, h.2, hp s h1 h2 h4⟩
theorem hdRunA0 (w : World) (os : OsState) : (HandSHeadRun.endF (HandSHeadRun.stepQ (HandSHeadRun.denQ HandSHeadRun.tabQ) hdR.prog w) 30000 hdR.prog w os).map (fun s => (HandSHeadRun.looksF hdR.prog (boot_heap w.params) s.abs, HandSHeadRun.seenQ hdV hdNm (importedModules hdR.prog.main.body) (fun s => xlAt hdV [] s && recOk hdR.toRowW.records s) s.abs)) = some (true, openGood hdV hdNm) := by
  kernel_rfl
theorem hdRunA1 (w : World) (os : OsState) : (HandSHeadRun.endF (HandSHeadRun.stepQ (HandSHeadRun.denQ HandSHeadRun.tabQ) hdR.prog w) 30000 hdR.prog w os).map (fun s => hdFa.all fun f => f.ok (frY (HandSHeadRun.getT s))) = some true := by
  kernel_rfl
theorem hdRunA2 (w : World) (os : OsState) : (HandSHeadRun.endF (HandSHeadRun.stepQ (HandSHeadRun.denQ HandSHeadRun.tabQ) hdR.prog w) 30000 hdR.prog w os).map (fun s => hdEx (frY (HandSHeadRun.getT s))) = some true := by
  kernel_rfl
theorem hdRunA4 (w : World) (os : OsState) : (HandSHeadRun.endF (HandSHeadRun.stepQ (HandSHeadRun.denQ HandSHeadRun.tabQ) hdR.prog w) 30000 hdR.prog w os).map (fun s => He.tabsB (HandSHeadRun.getT s) hdTf (frY (HandSHeadRun.getT s))) = some true := by
  kernel_rfl
theorem hdRunA (w : World) (os : OsState) : (HandSHeadRun.endF (HandSHeadRun.stepQ (HandSHeadRun.denQ HandSHeadRun.tabQ) hdR.prog w) 30000 hdR.prog w os).map (fun s => (HandSHeadRun.looksF hdR.prog (boot_heap w.params) s.abs, HandSHeadRun.seenQ hdV hdNm (importedModules hdR.prog.main.body) (fun s => xlAt hdV [] s && recOk hdR.toRowW.records s) s.abs, obsA hdFa hdTf hdEx (HandSHeadRun.getT s))) = some (true, openGood hdV hdNm, true) :=
  run_A (p := fun s => obsA hdFa hdTf hdEx (HandSHeadRun.getT s)) (hdRunA0 w os) (hdRunA1 w os) (hdRunA2 w os) (hdRunA4 w os) fun s h1 h2 h4 => by
    show obsA hdFa hdTf hdEx (HandSHeadRun.getT s) = true
    unfold obsA
    rw [h1, h2, h4]
    rfl
theorem hdRun1 (w : World) (os : OsState) : (HandSHeadRun.endF (HandSHeadRun.stepQ (HandSHeadRun.denQ HandSHeadRun.tabQ) hdR.prog w) 30000 hdR.prog w os).map (fun s => obsF (HandSHeadRun.getT s) hdF1) = some (He.valD hdF1) := by
  kernel_rfl
theorem hdRun2 (w : World) (os : OsState) : (HandSHeadRun.endF (HandSHeadRun.stepQ (HandSHeadRun.denQ HandSHeadRun.tabQ) hdR.prog w) 30000 hdR.prog w os).map (fun s => obsF (HandSHeadRun.getT s) hdF2) = some (He.valD hdF2) := by
  kernel_rfl
theorem hdRun3 (w : World) (os : OsState) : (HandSHeadRun.endF (HandSHeadRun.stepQ (HandSHeadRun.denQ HandSHeadRun.tabQ) hdR.prog w) 30000 hdR.prog w os).map (fun s => obsF (HandSHeadRun.getT s) hdF3) = some (He.valD hdF3) := by
  kernel_rfl
end
theorem hdRun (w : World) : HandSHeadRun.RunEq hdR hdV hdK hdOb 30000 hdNm w := by
  intro os
  have e := run_parts (hdRunA w os) (hdRun1 w os) (hdRun2 w os) (hdRun3 w os)
  exact e
section
open PySem PySem.W PySem.Calls PyProof.Rows
set_option maxHeartbeats 0
theorem hdTail (call : WalkO hdV hdNm (XL hdV []) hdK.says hdR.toRowW (HandSHeadRun.topDef hdR.prog 74) [] fun f vs => PySem.call f vs) : PySem.Challenge.rw_holetape_k11_whole_punch.Holds := by
  w_on; o_law
  refine HandSHeadRun.head_any (r := Ho.hdR) (q := Ho.hdV) (H := Ho.hdK) (ob := Ho.hdOb) (M := 30000) (loose := Ho.hdNm) (d := HandSHeadRun.topDef Ho.hdR.prog 74) (kwd := []) Ho.hdOb_eq (by kernel_rfl) (fun s => by kernel_rfl) Ho.hdRun (by kernel_rfl) (by kernel_rfl) (by kernel_rfl) (by rfl) (by first | assumption | decide +kernel) (by decide +kernel) ⟨rfl, rfl, rfl, rfl, rfl, by decide +kernel⟩ ?hw call
  case hw => w_witness2
end
end Ho
namespace Ho
open PySem PySem.Spec PyProof.Rows L2 Evl
def isRow (r : Row) (w : Int) : Bool := decide ((r.length : Int) = w) && r.all fun c => decide ([c] ∈ [[111], [46]])
def isLet (l : Row) : Bool := decide ((l.length : Int) = 1) && decide (l.headD 0 ∈ [97, 98, 99, 100, 101, 102, 103, 104, 105, 106, 107, 108, 109, 110, 111, 112, 113, 114, 115, 116, 117, 118, 119, 120, 121, 122])
def goes (r o : Row) : Bool := !(r.zip o).any fun p => decide ([p.1] = [111]) && decide ([p.2] = [46])
def mean (rd : Dic) (r : Row) : Row := (look rd r).getD []
def textOf (rd : Dic) (t : List Row) : Row := (t.map (mean rd)).flatten
def overB (t o : List Row) : Bool := decide ((t.length : Int) = (o.length : Int)) && (t.zip o).all fun p => goes p.1 p.2
def holesOf (t : List Row) : Int := (t.map fun r => ((r.count 111 : Nat) : Int)).sum
/-- a reader of a width -/
structure RdOk (rd : Dic) (w : Nat) : Prop where
  ne : rd ≠ []
  w1 : 1 ≤ w
  w4 : w ≤ 4
  nd : (rd.map (·.1)).Nodup
  row : ∀ p ∈ rd, isRow p.1 (w : Int) = true
  bl : ∀ p ∈ rd, 46 ∈ p.1
  lt : ∀ p ∈ rd, isLet p.2 = true
structure TpOk (t : List Row) (w : Nat) : Prop where
  len : t.length ≤ 30
  row : ∀ r ∈ t, isRow r (w : Int) = true
theorem isRow_len {r : Row} {w : Nat} (h : isRow r (w : Int) = true) : r.length = w := by
  unfold isRow at h
  simp only [Bool.and_eq_true, decide_eq_true_eq] at h
  omega
theorem isRow_mem {r : Row} {w : Int} (h : isRow r w = true) : ∀ c ∈ r, c = 111 ∨ c = 46 := by
  unfold isRow at h
  simp only [Bool.and_eq_true, List.all_eq_true, decide_eq_true_eq] at h
  intro c hc
  have := h.2 c hc
  simpa using this
theorem isRow_iff {r : Row} {w : Nat} : isRow r (w : Int) = true ↔ r.length = w ∧ ∀ c ∈ r, c = 111 ∨ c = 46 := by
  constructor
  · intro h
    exact ⟨isRow_len h, isRow_mem h⟩
  · rintro ⟨h1, h2⟩
    unfold isRow
    simp only [Bool.and_eq_true, List.all_eq_true, decide_eq_true_eq]
    refine ⟨by omega, fun c hc => ?_⟩
    rcases h2 c hc with e | e <;> simp [e]
theorem isLet_one {l : Row} (h : isLet l = true) : ∃ c, l = [c] ∧ 97 ≤ c ∧ c ≤ 122 := by
  unfold isLet at h
  simp only [Bool.and_eq_true, decide_eq_true_eq] at h
  match l, h with
  | [c], h => exact ⟨c, rfl, by have := h.2; simp at this; omega, by have := h.2; simp at this; omega⟩
  | [], h => simp at h
  | _ :: _ :: r, h => have := h.1; simp at this; omega
theorem mean_len {rd : Dic} {w : Nat} (ok : RdOk rd w) (r : Row) : (mean rd r).length ≤ 1 := by
  unfold mean
  cases h : look rd r with
  | none => simp
  | some v =>
    obtain ⟨c, e, _⟩ := isLet_one (ok.lt _ (look_mem h))
    have e : v = [c] := e
    subst e
    simp
theorem mean_cases {rd : Dic} {w : Nat} (ok : RdOk rd w) (r : Row) : mean rd r = [] ∨ ∃ c, mean rd r = [c] ∧ 97 ≤ c ∧ c ≤ 122 := by
  unfold mean
  cases h : look rd r with
  | none => exact .inl rfl
  | some v =>
    obtain ⟨c, e, h1, h2⟩ := isLet_one (ok.lt _ (look_mem h))
    exact .inr ⟨c, e, h1, h2⟩
theorem textOf_len {rd : Dic} {w : Nat} (ok : RdOk rd w) : ∀ t : List Row, (t.map (mean rd)).flatten.length ≤ t.length
  | [] => Nat.le_refl _
  | r :: t => by
    rw [List.map_cons, List.flatten_cons, List.length_append, List.length_cons]
    have := mean_len ok r
    have := textOf_len ok t
    omega
theorem rd_len {rd : Dic} {w : Nat} (ok : RdOk rd w) {p : Row × Row} (h : p ∈ rd) : p.1.length = w := isRow_len (ok.row p h)
theorem mapR {α : Type} {f : Nat → α} {j : Nat} : (List.range (j + 1)).map f = (List.range j).map f ++ [f j] := by rw [List.range_succ, List.map_append]; rfl
theorem zipIdx_at {α : Type} {l : List α} {i : Nat} {x : α} {n : Nat} (h : l.zipIdx[i]? = some (x, n)) : n = i ∧ l[i]? = some x := by
  rw [List.getElem?_zipIdx] at h
  cases e : l[i]? with
  | none => rw [e] at h; cases h
  | some y =>
    rw [e] at h
    simp at h
    exact ⟨h.2.symm, by rw [h.1]⟩
def primes : List Int := [1000003, 1000033, 1000037, 1000039, 1000081, 1000099, 1000117, 1000121, 1000133, 1000151, 1000159, 1000171, 1000183, 1000187, 1000193, 1000199]
def draw (c k m : Int) : Int := (c * 48271 + k * 69621) % primes.getD (k % 16).toNat 0 % m
theorem primes_pos : ∀ i : Nat, i < 16 → 0 < primes.getD i 0 := by decide
theorem draw_range {c k m : Int} (h : 0 < m) : 0 ≤ draw c k m ∧ draw c k m < m := ⟨Int.emod_nonneg _ (by omega), Int.emod_lt_of_pos _ h⟩
def cellAt (ns : List Int) (k : Int) : Int := if decide (k < (ns.length : Int)) then ((ns.getD k.toNat 0).natAbs : Int) else draw ((ns.sum.natAbs : Int) + 7919 * k) k 999983
theorem cellAt_nn (ns : List Int) (k : Int) : 0 ≤ cellAt ns k := by
  unfold cellAt
  split
  · omega
  · exact (draw_range (by decide)).1
def leftAt (l b : Int) : Nat → Int
  | 0 => l
  | n + 1 => leftAt l b n / b
def digit (cell base : Int) (t : Nat) : Int :=
  if 1000000000000000000 ≤ cell then leftAt (cell - 1000000000000000000) base t % base
  else (draw ((cell + 977 * (t : Int)) * (cell + 31 * (t : Int) + 5)) ((t : Int) % 9 + 1) 999983 * 1000003 + draw ((cell + 31 * (t : Int)) * (cell + 7) + 977 * (t : Int)) ((t : Int) % 7 + 2) 1000003) % base
def digits (ns : List Int) (k many base : Int) : List Int := (List.range many.toNat).map (digit (cellAt ns k) base)
theorem digit_range {c b : Int} (hb : 0 < b) (t : Nat) : 0 ≤ digit c b t ∧ digit c b t < b := by
  unfold digit
  split
  · exact ⟨Int.emod_nonneg _ (by omega), Int.emod_lt_of_pos _ hb⟩
  · exact ⟨Int.emod_nonneg _ (by omega), Int.emod_lt_of_pos _ hb⟩
theorem digits_mem {ns : List Int} {k m b : Int} (hb : 0 < b) : ∀ d ∈ digits ns k m b, 0 ≤ d ∧ d < b := by
  intro d hd
  obtain ⟨t, _, rfl⟩ := List.mem_map.mp hd
  exact digit_range hb t
theorem digits_len (ns : List Int) (k m b : Int) : (digits ns k m b).length = m.toNat := by simp [digits]
def bitC (n : Nat) (w : Int) (t : Nat) : Row := if decide (Builtin.bitAnd ((n : Int) / 2 ^ (w - 1 - (t : Int)).toNat) 1 = 1) then [111] else [46]
def rowN (w : Int) (n : Nat) : Row := ((List.range w.toNat).map (bitC n w)).flatten
def rowsL (w : Int) : List Row := (List.range (1 * 2 ^ w.toNat : Int).toNat).map (rowN w)
theorem bitC_len (n : Nat) (w : Int) (t : Nat) : (bitC n w t).length = 1 := by unfold bitC; split <;> rfl
theorem sum_ones {α : Type} (l : List α) : (l.map fun _ => 1).sum = l.length := by
  induction l with
  | nil => rfl
  | cons a l ih => rw [List.map_cons, List.sum_cons, ih, List.length_cons]; omega
theorem rowN_len (w : Int) (n : Nat) : (rowN w n).length = w.toNat := by
  unfold rowN
  rw [List.length_flatten, List.map_map]
  have : (List.length ∘ bitC n w) = fun _ => 1 := funext (bitC_len n w)
  rw [this, sum_ones, List.length_range]
theorem rowN_row (w : Nat) (n : Nat) : isRow (rowN w n) (w : Int) = true := by
  rw [isRow_iff]
  refine ⟨by rw [rowN_len]; rfl, fun c hc => ?_⟩
  obtain ⟨l, hl, hc⟩ := List.mem_flatten.mp hc
  obtain ⟨t, _, rfl⟩ := List.mem_map.mp hl
  unfold bitC at hc
  split at hc <;> simp at hc <;> simp [hc]
theorem rowsL_len (w : Int) : (rowsL w).length = 2 ^ w.toNat := by
  unfold rowsL
  rw [List.length_map, List.length_range, Int.one_mul]
  show ((2 : Int) ^ w.toNat).toNat = 2 ^ w.toNat
  have : ((2 : Int) ^ w.toNat) = ((2 ^ w.toNat : Nat) : Int) := by norm_cast
  rw [this, Int.toNat_natCast]
theorem rowsL_row (w : Nat) : ∀ r ∈ rowsL (w : Int), isRow r (w : Int) = true := by
  intro r hr
  obtain ⟨n, _, rfl⟩ := List.mem_map.mp hr
  exact rowN_row w n
/-- all but the row of holes alone have a sign without -/
theorem rowsL_blank : ∀ w : Nat, w ≤ 4 → ∀ r ∈ (rowsL (w : Int)).dropLast, 46 ∈ r := by
  intro w hw
  match w, hw with
  | 0, _ => decide +kernel
  | 1, _ => decide +kernel
  | 2, _ => decide +kernel
  | 3, _ => decide +kernel
  | 4, _ => decide +kernel
def letters : Row := [97, 98, 99, 100, 101, 102, 103, 104, 105, 106, 107, 108, 109, 110, 111, 112, 113, 114, 115, 116, 117, 118, 119, 120, 121, 122]
def pool (ns : List Int) (m : Int) : List Row := (digits ns m 3 26).map fun d => [letters.getD d.toNat 0]
theorem letters_at : ∀ i : Nat, i < 26 → isLet [letters.getD i 0] = true := by decide +kernel
theorem pool_len (ns : List Int) (m : Int) : (pool ns m).length = 3 := by
  unfold pool
  rw [List.length_map, digits_len]
  rfl
theorem pool_let (ns : List Int) (m : Int) (i : Nat) (hi : i < 3) : isLet ((pool ns m).getD i []) = true := by
  have hl : i < (digits ns m 3 26).length := by rw [digits_len]; exact hi
  unfold pool
  rw [List.getD_eq_getElem?_getD, List.getElem?_map, List.getElem?_eq_getElem hl]
  have := digits_mem (ns := ns) (k := m) (m := 3) (b := 26) (by decide) _ (List.getElem_mem hl)
  exact letters_at _ (by omega)
def rdW (ds : List Int) (least : Int) : Int := least + ds.getD (0 : Int).toNat 0 % (5 - least)
def rdRows (ds : List Int) (least : Int) : List Row := cutG (rowsL (rdW ds least)) none (some (-1))
def rdBegin (ds : List Int) (least : Int) : Int := ds.getD (0 : Int).toNat 0 / 4 % ((rdRows ds least).length : Int)
def rdStep (ds : List Int) (pl : List Row) (acc : Dic) (p : Int × Row) : Dic :=
  if decide (p.1 % 5 < 2 + ds.getD (0 : Int).toNat 0 / 64 % 3) then put acc p.2 (pl.getD (p.1 / 5 % 3).toNat []) else acc
theorem rdStep_T {ds : List Int} {pl : List Row} {acc : Dic} {p : Int × Row} (h : decide (p.1 % 5 < 2 + ds.getD (0 : Int).toNat 0 / 64 % 3) = true) : rdStep ds pl acc p = put acc p.2 (pl.getD (p.1 / 5 % 3).toNat []) := by
  unfold rdStep
  rw [if_pos h]
theorem rdStep_F {ds : List Int} {pl : List Row} {acc : Dic} {p : Int × Row} (h : decide (p.1 % 5 < 2 + ds.getD (0 : Int).toNat 0 / 64 % 3) = false) : rdStep ds pl acc p = acc := by
  unfold rdStep
  rw [if_neg (by rw [h]; decide)]
def rdZip (ds : List Int) (least : Int) : List (Int × Row) := (cutG ds (some 1) none).zip (cutG (rdRows ds least) (some (rdBegin ds least)) none ++ cutG (rdRows ds least) none (some (rdBegin ds least)))
def rdLoop (ds : List Int) (pl : List Row) (least : Int) : Dic := (rdZip ds least).foldl (rdStep ds pl) []
def rdr (ds : List Int) (pl : List Row) (least : Int) : Dic :=
  if dEq (rdLoop ds pl least) [] then put (rdLoop ds pl least) ((rdRows ds least).getD (rdBegin ds least).toNat []) (pl.getD (0 : Int).toNat []) else rdLoop ds pl least
def reader (ns : List Int) (m : Int) (pl : List Row) (least : Int) : Dic := rdr (digits ns m 17 1000) pl least
theorem dEq_nil (r : Dic) : dEq r [] = true ↔ r = [] := by
  unfold dEq
  cases r with
  | nil => simp
  | cons p r => simp [look_nil]
theorem rdW_range {ds : List Int} {least : Int} (h1 : 1 ≤ least) (h4 : least ≤ 4) : least ≤ rdW ds least ∧ rdW ds least ≤ 4 := by
  unfold rdW
  have := Int.emod_nonneg (ds.getD (0 : Int).toNat 0) (show 5 - least ≠ 0 by omega)
  have := Int.emod_lt_of_pos (ds.getD (0 : Int).toNat 0) (show 0 < 5 - least by omega)
  omega
theorem rdRows_len {ds : List Int} {least : Int} (h1 : 1 ≤ least) (h4 : least ≤ 4) : 1 ≤ (rdRows ds least).length ∧ (rdRows ds least).length ≤ 15 := by
  unfold rdRows
  rw [cutG_butlast, List.length_dropLast, rowsL_len]
  have := rdW_range (ds := ds) h1 h4
  have h : rdW ds least = 1 ∨ rdW ds least = 2 ∨ rdW ds least = 3 ∨ rdW ds least = 4 := by omega
  rcases h with h | h | h | h <;> rw [h] <;> decide
theorem rdBegin_range {ds : List Int} {least : Int} (h1 : 1 ≤ least) (h4 : least ≤ 4) : 0 ≤ rdBegin ds least ∧ rdBegin ds least < ((rdRows ds least).length : Int) := by
  have := rdRows_len (ds := ds) h1 h4
  exact ⟨Int.emod_nonneg _ (by omega), Int.emod_lt_of_pos _ (by omega)⟩
theorem rdRows_ok {ds : List Int} {least : Int} {w : Nat} (hw : rdW ds least = (w : Int)) (h4 : w ≤ 4) : ∀ r ∈ rdRows ds least, isRow r (w : Int) = true ∧ 46 ∈ r := by
  intro r hr
  unfold rdRows at hr
  rw [cutG_butlast, hw] at hr
  exact ⟨rowsL_row w r ((List.dropLast_sublist _).subset hr), rowsL_blank w h4 r hr⟩
theorem fold_keeps {ds : List Int} {pl : List Row} {w : Nat} (hpl : ∀ i, i < 3 → isLet (pl.getD i []) = true) : ∀ (z : List (Int × Row)) (acc : Dic), (∀ p ∈ z, isRow p.2 (w : Int) = true ∧ 46 ∈ p.2) →
    ((acc.map (·.1)).Nodup ∧ ∀ p ∈ acc, isRow p.1 (w : Int) = true ∧ 46 ∈ p.1 ∧ isLet p.2 = true) →
    (((z.foldl (rdStep ds pl) acc).map (·.1)).Nodup ∧ ∀ p ∈ z.foldl (rdStep ds pl) acc, isRow p.1 (w : Int) = true ∧ 46 ∈ p.1 ∧ isLet p.2 = true)
  | [], acc, _, h => h
  | q :: z, acc, hz, h => by
    rw [List.foldl_cons]
    refine fold_keeps hpl z _ (fun p hp => hz p (List.mem_cons_of_mem _ hp)) ?_
    unfold rdStep
    split
    · refine ⟨put_nodup h.1 _ _, fun p hp => ?_⟩
      rcases put_mem hp with hp | rfl
      · exact h.2 p hp
      · have := hz q List.mem_cons_self
        refine ⟨this.1, this.2, hpl _ ?_⟩
        have := Int.emod_nonneg (q.1 / 5) (show (3 : Int) ≠ 0 by decide)
        have := Int.emod_lt_of_pos (q.1 / 5) (show (0 : Int) < 3 by decide)
        omega
    · exact h
theorem rdr_ok {ds : List Int} {pl : List Row} {least : Int} (h1 : 1 ≤ least) (h4 : least ≤ 4) (hpl : ∀ i, i < 3 → isLet (pl.getD i []) = true) : RdOk (rdr ds pl least) (rdW ds least).toNat := by
  have hw := rdW_range (ds := ds) h1 h4
  have hwn : rdW ds least = (((rdW ds least).toNat : Nat) : Int) := by omega
  have hb := rdBegin_range (ds := ds) h1 h4
  have hrows := rdRows_ok hwn (by omega)
  have hz : ∀ p ∈ rdZip ds least, isRow p.2 (((rdW ds least).toNat : Nat) : Int) = true ∧ 46 ∈ p.2 := by
    intro p hp
    have := (List.of_mem_zip hp).2
    rw [cutG_from _ hb.1, cutG_to _ hb.1] at this
    rcases List.mem_append.mp this with h | h
    · exact hrows _ (List.mem_of_mem_drop h)
    · exact hrows _ (List.mem_of_mem_take h)
  have hl := fold_keeps (ds := ds) hpl (rdZip ds least) [] hz ⟨List.nodup_nil, fun p hp => nomatch hp⟩
  have hl : ((rdLoop ds pl least).map (·.1)).Nodup ∧ _ := hl
  unfold rdr
  by_cases h : dEq (rdLoop ds pl least) [] = true
  · rw [if_pos h]
    have e := (dEq_nil _).mp h
    rw [e]
    have hr : (rdRows ds least).getD (rdBegin ds least).toNat [] ∈ rdRows ds least := by
      rw [List.getD_eq_getElem?_getD, List.getElem?_eq_getElem (by omega)]
      exact List.getElem_mem _
    have := hrows _ hr
    refine ⟨put_ne_nil _ _ _, by omega, by omega, put_nodup (r := []) List.nodup_nil _ _, fun p hp => ?_, fun p hp => ?_, fun p hp => ?_⟩
    · rcases put_mem hp with hp | rfl
      · cases hp
      · exact this.1
    · rcases put_mem hp with hp | rfl
      · cases hp
      · exact this.2
    · rcases put_mem hp with hp | rfl
      · cases hp
      · exact hpl 0 (by decide)
  · rw [if_neg h]
    exact ⟨fun e => h ((dEq_nil _).mpr e), by omega, by omega, hl.1, fun p hp => (hl.2 p hp).1, fun p hp => (hl.2 p hp).2.1, fun p hp => (hl.2 p hp).2.2⟩
def tapeRow (w d : Int) : Row := (rowsL w).getD (Builtin.bitAnd (d % 16) (Builtin.bitOr (d / 16 % 16) (d / 256 % 2 * 15)) % ((rowsL w).length : Int)).toNat []
def tapeL (ns : List Int) (m w n : Int) : List Row := (digits ns m n 4096).map (tapeRow w)
theorem rowsL_pos (w : Int) : 0 < ((rowsL w).length : Int) := by
  rw [rowsL_len]
  have := Nat.pow_pos (n := w.toNat) (show 0 < 2 by decide)
  omega
theorem rowsL_le {w : Int} (h : w ≤ 4) : (rowsL w).length ≤ 16 := by
  rw [rowsL_len]
  exact Nat.pow_le_pow_right (show 1 ≤ 2 by decide) (show w.toNat ≤ 4 by omega)
theorem tapeRow_ok (w : Nat) (d : Int) : isRow (tapeRow w d) (w : Int) = true := by
  have hp := rowsL_pos w
  unfold tapeRow
  rw [List.getD_eq_getElem?_getD, List.getElem?_eq_getElem (by have := Int.emod_lt_of_pos (Builtin.bitAnd (d % 16) (Builtin.bitOr (d / 16 % 16) (d / 256 % 2 * 15))) hp; have := Int.emod_nonneg (Builtin.bitAnd (d % 16) (Builtin.bitOr (d / 16 % 16) (d / 256 % 2 * 15))) (show ((rowsL (w : Int)).length : Int) ≠ 0 by omega); omega)]
  exact rowsL_row w _ (List.getElem_mem _)
theorem tapeL_len (ns : List Int) (m w n : Int) : (tapeL ns m w n).length = n.toNat := by
  unfold tapeL
  rw [List.length_map, digits_len]
theorem tapeL_ok (ns : List Int) (m : Int) (w : Nat) {n : Int} (h : n ≤ 30) : TpOk (tapeL ns m w n) w := by
  refine ⟨by rw [tapeL_len]; omega, fun r hr => ?_⟩
  obtain ⟨d, _, rfl⟩ := List.mem_map.mp hr
  exact tapeRow_ok w d
theorem goes_alt {r o : Row} {w : Nat} (hr : isRow r (w : Int) = true) (ho : isRow o (w : Int) = true) :
    (decide ((r.length : Int) = (o.length : Int)) && (r.zip o).all fun p => decide ([p.1] = [46]) || decide ([p.2] = [111])) = goes r o := by
  rw [isRow_len hr, isRow_len ho, decide_eq_true rfl, Bool.true_and]
  have h1 := isRow_mem hr
  have h2 := isRow_mem ho
  unfold goes
  rw [List.not_any_eq_all_not, Bool.eq_iff_iff, List.all_eq_true, List.all_eq_true]
  refine forall_congr' fun p => forall_congr' fun hp => ?_
  have hm := List.of_mem_zip (a := p.1) (b := p.2) hp
  rcases h1 _ hm.1 with e | e <;> rcases h2 _ hm.2 with e' | e' <;> simp [e, e']
theorem TpOk.small {t : List Row} {w : Nat} (h : TpOk t w) : SmT t := fun r hr c hc => by
  rcases isRow_mem (h.row r hr) c hc with e | e <;> omega
def genL : Nat → List Row
  | 0 => [[]]
  | n + 1 => (genL n).map (· ++ [46]) ++ (genL n).map (· ++ [111])
theorem rising_pw : ∀ {l : List Row}, l.Pairwise (fun a b => ¬ b < a) → rising l
  | [], _ => trivial
  | a :: r, h => ⟨(List.pairwise_cons.mp h).1, rising_pw (List.pairwise_cons.mp h).2⟩
theorem rows_perm : ∀ w : Nat, w ≤ 4 → (rowsL (w : Int)).Perm (genL w) := by
  intro w hw
  match w, hw with
  | 0, _ => decide +kernel
  | 1, _ => decide +kernel
  | 2, _ => decide +kernel
  | 3, _ => decide +kernel
  | 4, _ => decide +kernel
theorem rows_rising : ∀ w : Nat, w ≤ 4 → rising (rowsL (w : Int)) := by
  intro w hw
  refine rising_pw ?_
  match w, hw with
  | 0, _ => decide +kernel
  | 1, _ => decide +kernel
  | 2, _ => decide +kernel
  | 3, _ => decide +kernel
  | 4, _ => decide +kernel
theorem genL_len : ∀ n : Nat, n ≤ 4 → (genL n).length ≤ 16 := by decide +kernel
theorem genL_row : ∀ n : Nat, ∀ r ∈ genL n, r.length = n
  | 0, r, h => by simp [genL] at h; simp [h]
  | n + 1, r, h => by
    unfold genL at h
    rcases List.mem_append.mp h with h | h
    · obtain ⟨q, hq, rfl⟩ := List.mem_map.mp h
      simp [genL_row n q hq]
    · obtain ⟨q, hq, rfl⟩ := List.mem_map.mp h
      simp [genL_row n q hq]
def aboveL (r : Row) : List Row := (rowsL (r.length : Int)).filter (goes r)
def belowL (r : Row) : List Row := (rowsL (r.length : Int)).filter fun o => goes o r
theorem aboveL_row {r o : Row} (h : o ∈ aboveL r) : isRow o (r.length : Int) = true := rowsL_row _ _ (List.mem_filter.mp h).1
theorem belowL_row {r o : Row} (h : o ∈ belowL r) : isRow o (r.length : Int) = true := rowsL_row _ _ (List.mem_filter.mp h).1
theorem aboveL_len {r : Row} (h : r.length ≤ 4) : (aboveL r).length ≤ 16 := Nat.le_trans (List.length_filter_le _ _) (rowsL_le (by omega))
theorem belowL_len {r : Row} (h : r.length ≤ 4) : (belowL r).length ≤ 16 := Nat.le_trans (List.length_filter_le _ _) (rowsL_le (by omega))
def costOf (r o : Row) : Int := ((o.count 111 : Nat) : Int) - ((r.count 111 : Nat) : Int)
/-- a text -/
structure TxOk (x : Row) : Prop where
  len : x.length ≤ 30
  lt : ∀ c ∈ x, 97 ≤ c ∧ c ≤ 122
theorem TxOk.drop {x : Row} (h : TxOk x) (n : Nat) : TxOk (x.drop n) := ⟨by rw [List.length_drop]; have := h.len; omega, fun c hc => h.lt c (List.mem_of_mem_drop hc)⟩
theorem TxOk.take {x : Row} (h : TxOk x) (n : Nat) : TxOk (x.take n) := ⟨by rw [List.length_take]; have := h.len; omega, fun c hc => h.lt c (List.mem_of_mem_take hc)⟩
theorem TxOk.nil : TxOk [] := ⟨by decide, fun c hc => nomatch hc⟩
theorem letter_in {c : Nat} (h1 : 97 ≤ c) (h2 : c ≤ 122) : c ∈ ([97, 98, 99, 100, 101, 102, 103, 104, 105, 106, 107, 108, 109, 110, 111, 112, 113, 114, 115, 116, 117, 118, 119, 120, 121, 122] : Row) := by
  simp
  omega
theorem textOf_ok {rd : Dic} {w : Nat} (ok : RdOk rd w) {t : List Row} (h : t.length ≤ 30) : TxOk (textOf rd t) := by
  refine ⟨Nat.le_trans (textOf_len ok t) h, fun c hc => ?_⟩
  obtain ⟨l, hl, hc⟩ := List.mem_flatten.mp hc
  obtain ⟨r, _, rfl⟩ := List.mem_map.mp hl
  rcases mean_cases ok r with e | ⟨d, e, h1, h2⟩
  · rw [e] at hc
    cases hc
  · rw [e] at hc
    obtain rfl := List.mem_singleton.mp hc
    exact ⟨h1, h2⟩
def lawText (ds : List Int) (pl : List Row) : Row := (ds.map fun d => if decide (d / 26 < 23) then pl.getD (d / 26 % 3).toNat [] else [letters.getD (d % 26).toNat 0]).flatten
def lawTx (ns : List Int) (m : Int) (pl : List Row) (n : Int) : Row := lawText (digits ns m n 624) pl
theorem lawText_len {ds : List Int} {pl : List Row} (hpl : ∀ i, i < 3 → isLet (pl.getD i []) = true) : (lawText ds pl).length = ds.length := by
  unfold lawText
  rw [List.length_flatten, List.map_map]
  have : (ds.map (List.length ∘ fun d => if decide (d / 26 < 23) then pl.getD (d / 26 % 3).toNat [] else [letters.getD (d % 26).toNat 0])) = ds.map fun _ => 1 := List.map_congr_left fun d _ => by
    simp only [Function.comp]
    split
    · obtain ⟨c, e, _⟩ := isLet_one (hpl (d / 26 % 3).toNat (by omega))
      rw [e]
      rfl
    · rfl
  rw [this, sum_ones]
theorem lawText_ok {ds : List Int} {pl : List Row} (hpl : ∀ i, i < 3 → isLet (pl.getD i []) = true) (h : ds.length ≤ 30) : TxOk (lawText ds pl) := by
  refine ⟨by rw [lawText_len hpl]; exact h, fun c hc => ?_⟩
  obtain ⟨l, hl, hc⟩ := List.mem_flatten.mp hc
  obtain ⟨d, _, rfl⟩ := List.mem_map.mp hl
  split at hc
  · obtain ⟨c', e, h1, h2⟩ := isLet_one (hpl (d / 26 % 3).toNat (by omega))
    rw [e] at hc
    obtain rfl := List.mem_singleton.mp hc
    exact ⟨h1, h2⟩
  · obtain rfl := List.mem_singleton.mp hc
    obtain ⟨c', e, h1, h2⟩ := isLet_one (letters_at (d % 26).toNat (by omega))
    have e := List.cons.inj e
    rw [e.1]
    exact ⟨h1, h2⟩
theorem lawTx_ok (ns : List Int) (m : Int) {pl : List Row} (hpl : ∀ i, i < 3 → isLet (pl.getD i []) = true) {n : Int} (h : n ≤ 30) : TxOk (lawTx ns m pl n) := lawText_ok hpl (by rw [digits_len]; omega)
def chp (rd : Dic) (r l : Row) : Option Int := lMin (((aboveL r).filter fun o => decide (mean rd o = l)).map (costOf r))
theorem lMin_none {l : List Int} : lMin l = none ↔ l = [] := by cases l <;> simp [lMin]
theorem foldl_min_le : ∀ (r : List Int) (n : Int), r.foldl min n ≤ n ∧ ∀ x ∈ r, r.foldl min n ≤ x
  | [], n => ⟨Int.le_refl _, fun x hx => nomatch hx⟩
  | a :: r, n => by
    rw [List.foldl_cons]
    obtain ⟨h1, h2⟩ := foldl_min_le r (min n a)
    refine ⟨by omega, fun x hx => ?_⟩
    rcases List.mem_cons.mp hx with rfl | hx
    · omega
    · exact h2 x hx
theorem foldl_min_mem : ∀ (r : List Int) (n : Int), r.foldl min n = n ∨ r.foldl min n ∈ r
  | [], n => .inl rfl
  | a :: r, n => by
    rw [List.foldl_cons]
    rcases foldl_min_mem r (min n a) with h | h
    · by_cases hn : n ≤ a
      · rw [h]
        exact .inl (by omega)
      · right
        rw [h, show min n a = a by omega]
        exact List.mem_cons_self
    · exact .inr (List.mem_cons_of_mem _ h)
theorem lMin_some {l : List Int} {m : Int} : lMin l = some m ↔ m ∈ l ∧ ∀ x ∈ l, m ≤ x := by
  cases l with
  | nil => simp [lMin]
  | cons n r =>
    unfold lMin
    rw [Option.some.injEq]
    have h1 := foldl_min_le r n
    have h2 := foldl_min_mem r n
    constructor
    · rintro rfl
      refine ⟨?_, fun x hx => ?_⟩
      · rcases h2 with h | h
        · rw [h]; exact List.mem_cons_self
        · exact List.mem_cons_of_mem _ h
      · rcases List.mem_cons.mp hx with rfl | hx
        · exact h1.1
        · exact h1.2 x hx
    · rintro ⟨hm, hx⟩
      refine Int.le_antisymm ?_ ?_
      · rcases List.mem_cons.mp hm with rfl | hm
        · exact h1.1
        · exact h1.2 m hm
      · rcases h2 with h | h
        · rw [h]; exact hx n List.mem_cons_self
        · exact hx _ (List.mem_cons_of_mem _ h)
theorem chp_some {rd : Dic} {r l : Row} {c : Int} (h : chp rd r l = some c) : ∃ o ∈ aboveL r, mean rd o = l ∧ costOf r o = c := by
  obtain ⟨hm, _⟩ := lMin_some.mp h
  obtain ⟨o, ho, e⟩ := List.mem_map.mp hm
  have := List.mem_filter.mp ho
  exact ⟨o, this.1, of_decide_eq_true this.2, e⟩
theorem chp_ex {rd : Dic} {r o : Row} (ho : o ∈ aboveL r) : (chp rd r (mean rd o)).isSome = true := by
  cases h : chp rd r (mean rd o) with
  | some c => rfl
  | none =>
    unfold chp at h
    rw [lMin_none, List.map_eq_nil_iff, List.filter_eq_nil_iff] at h
    exact absurd (by simp) (h o ho)
theorem count_goes : ∀ {r o : Row}, r.length = o.length → (∀ c ∈ o, c = 111 ∨ c = 46) → goes r o = true → r.count 111 ≤ o.count 111
  | [], [], _, _, _ => Nat.le_refl _
  | a :: r, b :: o, hl, hc, h => by
    unfold goes at h
    rw [List.zip_cons_cons, List.any_cons] at h
    simp only [Bool.not_or, Bool.and_eq_true] at h
    have ih := count_goes (r := r) (o := o) (by simpa using hl) (fun c hm => hc c (List.mem_cons_of_mem _ hm)) (by unfold goes; exact h.2)
    rw [List.count_cons, List.count_cons]
    by_cases ha : a = 111
    · subst ha
      rcases hc b List.mem_cons_self with hb | hb
      · subst hb; simp; exact ih
      · subst hb
        have := h.1
        simp at this
    · have : (a == 111) = false := beq_eq_false_iff_ne.mpr ha
      rw [this]
      simp only [Bool.false_eq_true, if_false]
      split <;> omega
theorem costOf_bd {r o : Row} (hr : r.length ≤ 4) (ho : o ∈ aboveL r) : 0 ≤ costOf r o ∧ costOf r o ≤ 4 := by
  have hrow := aboveL_row ho
  have hl := isRow_len hrow
  have hg := (List.mem_filter.mp ho).2
  have h1 := count_goes hl.symm (isRow_mem hrow) hg
  have h2 := List.count_le_length (a := 111) (l := o)
  unfold costOf
  omega
theorem chp_bd {rd : Dic} {r l : Row} {c : Int} (hr : r.length ≤ 4) (h : chp rd r l = some c) : 0 ≤ c ∧ c ≤ 4 := by
  obtain ⟨o, ho, _, rfl⟩ := chp_some h
  exact costOf_bd hr ho
/-- a row of holes alone means nothing: a row can be rubbed -/
theorem mean_full {rd : Dic} {w : Nat} (ok : RdOk rd w) (n : Nat) : mean rd (List.replicate n 111) = [] := by
  unfold mean
  cases h : look rd (List.replicate n 111) with
  | none => rfl
  | some v =>
    have := ok.bl _ (look_mem h)
    have := List.eq_of_mem_replicate this
    omega
theorem full_above {r : Row} {w : Nat} (hw : w ≤ 4) (hr : isRow r (w : Int) = true) : List.replicate w 111 ∈ aboveL r := by
  have hl := isRow_len hr
  unfold aboveL
  rw [List.mem_filter, hl]
  constructor
  · match w, hw with
    | 0, _ => decide +kernel
    | 1, _ => decide +kernel
    | 2, _ => decide +kernel
    | 3, _ => decide +kernel
    | 4, _ => decide +kernel
  · unfold goes
    rw [Bool.not_eq_true', List.any_eq_false]
    intro p hp
    have := List.eq_of_mem_replicate (List.of_mem_zip (a := p.1) (b := p.2) hp).2
    simp [this]
theorem chp_rub {rd : Dic} {w : Nat} (ok : RdOk rd w) {r : Row} (hr : isRow r (w : Int) = true) : ∃ c, chp rd r [] = some c ∧ 0 ≤ c ∧ c ≤ 4 := by
  have h1 := chp_ex (rd := rd) (full_above ok.w4 hr)
  rw [mean_full ok] at h1
  obtain ⟨c, hc⟩ := Option.isSome_iff_exists.mp h1
  exact ⟨c, hc, chp_bd (by have := isRow_len hr; have := ok.w4; omega) hc⟩
def mkUp (rd : Dic) (x : Row) (r : Row) (m : Nat) : Bool := decide (m < x.length) && (chp rd r [x.getD m 0]).isSome
def mkAt (rd : Dic) (t : List Row) (x : Row) : Nat → Nat
  | 0 => 0
  | i + 1 => if mkUp rd x (t.getD i []) (mkAt rd t x i) then mkAt rd t x i + 1 else mkAt rd t x i
def marksP (rd : Dic) (t : List Row) (x : Row) (i : Nat) : List Int := (List.range (i + 1)).map fun j => (mkAt rd t x j : Int)
def marksL (rd : Dic) (t : List Row) (x : Row) : List Int := marksP rd t x t.length
theorem marksP_len (rd : Dic) (t : List Row) (x : Row) (i : Nat) : (marksP rd t x i).length = i + 1 := by simp [marksP]
theorem marksP_last (rd : Dic) (t : List Row) (x : Row) (i : Nat) : (marksP rd t x i).getLast? = some (mkAt rd t x i : Int) := by
  unfold marksP
  rw [List.range_succ, List.map_append]
  simp
theorem marksP_succ (rd : Dic) (t : List Row) (x : Row) (i : Nat) : marksP rd t x (i + 1) = marksP rd t x i ++ [(mkAt rd t x (i + 1) : Int)] := by
  unfold marksP
  rw [List.range_succ, List.map_append]
  rfl
theorem mkAt_le (rd : Dic) (t : List Row) (x : Row) : ∀ i, mkAt rd t x i ≤ x.length
  | 0 => Nat.zero_le _
  | i + 1 => by
    have := mkAt_le rd t x i
    unfold mkAt
    split
    · rename_i h
      unfold mkUp at h
      rw [Bool.and_eq_true] at h
      have := of_decide_eq_true h.1
      omega
    · exact this
def rubC (rd : Dic) (r : Row) : Int := (chp rd r []).getD 0
def htUp (rd : Dic) (x : Row) (r : Row) (g : Nat → Int) : Nat → Int
  | 0 => g 0 + rubC rd r
  | m + 1 => match chp rd r [x.getD m 0] with
    | none => g (m + 1) + rubC rd r
    | some c => min (g (m + 1) + rubC rd r) (g m + c)
theorem htUp_none {rd : Dic} {x r : Row} {g : Nat → Int} {m : Nat} (h : chp rd r [x.getD m 0] = none) : htUp rd x r g (m + 1) = g (m + 1) + rubC rd r := by
  show (match chp rd r [x.getD m 0] with | none => _ | some c => _) = _
  rw [h]
theorem htUp_some {rd : Dic} {x r : Row} {g : Nat → Int} {m : Nat} {c : Int} (h : chp rd r [x.getD m 0] = some c) : htUp rd x r g (m + 1) = min (g (m + 1) + rubC rd r) (g m + c) := by
  show (match chp rd r [x.getD m 0] with | none => _ | some c => _) = _
  rw [h]
def htAt (rd : Dic) (t : List Row) (x : Row) : Nat → Nat → Int
  | 0 => fun m => if m = 0 then 0 else 1000
  | i + 1 => htUp rd x (t.getD i []) (htAt rd t x i)
def htLine (rd : Dic) (t : List Row) (x : Row) (i : Nat) : List Int := (List.range (x.length + 1)).map (htAt rd t x i)
def htP (rd : Dic) (t : List Row) (x : Row) (i : Nat) : List (List Int) := (List.range (i + 1)).map (htLine rd t x)
def heightsL (rd : Dic) (t : List Row) (x : Row) : List (List Int) := htP rd t x t.length
theorem htLine_len (rd : Dic) (t : List Row) (x : Row) (i : Nat) : (htLine rd t x i).length = x.length + 1 := by simp [htLine]
theorem htLine_at {rd : Dic} {t : List Row} {x : Row} {i m : Nat} (h : m ≤ x.length) : (htLine rd t x i).getD m 0 = htAt rd t x i m := by
  unfold htLine
  rw [List.getD_eq_getElem?_getD, List.getElem?_map, List.getElem?_range (by omega)]
  rfl
theorem htP_len (rd : Dic) (t : List Row) (x : Row) (i : Nat) : (htP rd t x i).length = i + 1 := by simp [htP]
theorem htP_at {rd : Dic} {t : List Row} {x : Row} {i j : Nat} (h : j ≤ i) : (htP rd t x i).getD j [] = htLine rd t x j := by
  unfold htP
  rw [List.getD_eq_getElem?_getD, List.getElem?_map, List.getElem?_range (by omega)]
  rfl
theorem htP_last (rd : Dic) (t : List Row) (x : Row) (i : Nat) : (htP rd t x i).getLast? = some (htLine rd t x i) := by
  unfold htP
  rw [List.range_succ, List.map_append]
  simp
theorem htP_succ (rd : Dic) (t : List Row) (x : Row) (i : Nat) : htP rd t x (i + 1) = htP rd t x i ++ [htLine rd t x (i + 1)] := by
  unfold htP
  rw [List.range_succ, List.map_append]
  rfl
theorem htP_zero (rd : Dic) (t : List Row) (x : Row) : htP rd t x 0 = [0 :: List.replicate x.length 1000] := by
  show [htLine rd t x 0] = _
  congr 1
  unfold htLine
  rw [List.range_succ_eq_map, List.map_cons, List.map_map]
  congr 1
  refine List.ext_getElem (by simp) fun i h1 h2 => ?_
  simp [htAt]
/-- a line under way -/
def htMid (rd : Dic) (t : List Row) (x : Row) (i j : Nat) : List Int := (List.range (x.length + 1)).map fun m => if m ≤ j then htAt rd t x (i + 1) m else htAt rd t x i m + rubC rd (t.getD i [])
theorem htMid_len (rd : Dic) (t : List Row) (x : Row) (i j : Nat) : (htMid rd t x i j).length = x.length + 1 := by simp [htMid]
theorem htMid_zero (rd : Dic) (t : List Row) (x : Row) (i : Nat) : htMid rd t x i 0 = (htLine rd t x i).map (· + rubC rd (t.getD i [])) := by
  unfold htMid htLine
  rw [List.map_map]
  refine List.map_congr_left fun m _ => ?_
  by_cases h : m = 0
  · subst h; rfl
  · rw [if_neg (by omega)]; rfl
theorem htMid_last (rd : Dic) (t : List Row) (x : Row) (i : Nat) : htMid rd t x i x.length = htLine rd t x (i + 1) := by
  unfold htMid htLine
  refine List.map_congr_left fun m hm => ?_
  rw [List.mem_range] at hm
  rw [if_pos (by omega)]
theorem htMid_at {rd : Dic} {t : List Row} {x : Row} {i j m : Nat} (h : m ≤ x.length) : (htMid rd t x i j).getD m 0 = if m ≤ j then htAt rd t x (i + 1) m else htAt rd t x i m + rubC rd (t.getD i []) := by
  unfold htMid
  rw [List.getD_eq_getElem?_getD, List.getElem?_map, List.getElem?_range (by omega)]
  rfl
theorem htMid_none {rd : Dic} {t : List Row} {x : Row} {i j : Nat} (h : chp rd (t.getD i []) [x.getD j 0] = none) : htMid rd t x i (j + 1) = htMid rd t x i j := by
  unfold htMid
  refine List.map_congr_left fun m _ => ?_
  by_cases h1 : m ≤ j
  · rw [if_pos h1, if_pos (by omega)]
  · rw [if_neg h1]
    by_cases h2 : m = j + 1
    · subst h2
      rw [if_pos (Nat.le_refl _)]
      exact htUp_none h
    · rw [if_neg (by omega)]
theorem htMid_get {rd : Dic} {t : List Row} {x : Row} {i j m : Nat} (h : m < (htMid rd t x i j).length) : (htMid rd t x i j)[m] = if m ≤ j then htAt rd t x (i + 1) m else htAt rd t x i m + rubC rd (t.getD i []) := by
  simp [htMid]
theorem htMid_some {rd : Dic} {t : List Row} {x : Row} {i j : Nat} {c : Int} (h : chp rd (t.getD i []) [x.getD j 0] = some c) : htMid rd t x i (j + 1) = (htMid rd t x i j).set (j + 1) (min (htAt rd t x i (j + 1) + rubC rd (t.getD i [])) (htAt rd t x i j + c)) := by
  refine List.ext_getElem (by simp [htMid]) fun m h1 h2 => ?_
  rw [List.getElem_set, htMid_get, htMid_get]
  by_cases e : j + 1 = m
  · subst e
    rw [if_pos rfl, if_pos (Nat.le_refl _)]
    exact htUp_some h
  · rw [if_neg e]
    by_cases h3 : m ≤ j
    · rw [if_pos h3, if_pos (by omega)]
    · rw [if_neg h3, if_neg (by omega)]
def pickRow (rd : Dic) (r l : Row) (c : Int) : Row := ((aboveL r).filter fun o => decide (mean rd o = l) && decide (costOf r o = c)).getD 0 []
theorem pickRow_ok {rd : Dic} {r l : Row} {c : Int} (h : chp rd r l = some c) : 0 < ((aboveL r).filter fun o => decide (mean rd o = l) && decide (costOf r o = c)).length ∧ pickRow rd r l c ∈ aboveL r ∧ mean rd (pickRow rd r l c) = l ∧ costOf r (pickRow rd r l c) = c := by
  obtain ⟨o, ho, h1, h2⟩ := chp_some h
  have hm : o ∈ (aboveL r).filter fun o => decide (mean rd o = l) && decide (costOf r o = c) := List.mem_filter.mpr ⟨ho, by simp [h1, h2]⟩
  have hl := List.length_pos_of_mem hm
  have hp : pickRow rd r l c ∈ (aboveL r).filter fun o => decide (mean rd o = l) && decide (costOf r o = c) := by
    unfold pickRow
    rw [List.getD_eq_getElem?_getD, List.getElem?_eq_getElem hl]
    exact List.getElem_mem _
  have := List.mem_filter.mp hp
  simp only [Bool.and_eq_true, decide_eq_true_eq] at this
  exact ⟨hl, this.1, this.2.1, this.2.2⟩
/-- whether the letter ahead is read by the row -/
def tpUp (rd : Dic) (t : List Row) (x : Row) (i m : Nat) : Option Int :=
  if 0 < m then (match chp rd (t.getD i []) [x.getD (m - 1) 0] with
    | none => none
    | some c => if htAt rd t x i (m - 1) + c = htAt rd t x (i + 1) m then some c else none) else none
def tpAt (rd : Dic) (t : List Row) (x : Row) : Nat → Nat → List Row
  | 0, _ => []
  | i + 1, m => match tpUp rd t x i m with
    | some c => tpAt rd t x i (m - 1) ++ [pickRow rd (t.getD i []) [x.getD (m - 1) 0] c]
    | none => tpAt rd t x i m ++ [pickRow rd (t.getD i []) [] (rubC rd (t.getD i []))]
def tpL (rd : Dic) (t : List Row) (x : Row) : List Row := tpAt rd t x t.length x.length
abbrev uWritten (mg : Str → Option Value) (tp : List Row) (hs : List (List Int)) : Dt := .node (.i (cA mg "Written") ["tape", "heights"]) [uL uS tp, uL (uL uI) hs]
abbrev uBarred (mg : Str → Option Value) (ms : List Int) : Dt := .node (.i (cA mg "Barred") ["marks"]) [uL uI ms]
abbrev pW : Pat := .fs [.ow .sh, .ow (.ow .sh)]
abbrev pB : Pat := .fs [.ow .sh]
theorem scal_LI {xs : List Int} : Scal (uL uI xs) (.ow .sh) := scal_map fun _ => scal_sc
theorem scal_LS {xs : List Row} : Scal (uL uS xs) (.ow .sh) := scal_map fun _ => scal_sc
theorem scal_LLI {xs : List (List Int)} : Scal (uL (uL uI) xs) (.ow (.ow .sh)) := scal_map fun _ => scal_LI
theorem scal_W {mg : Str → Option Value} {tp : List Row} {hs : List (List Int)} : Scal (uWritten mg tp hs) pW := by
  unfold Scal
  simp only [ScalF]
  exact ⟨scal_LS, scal_LLI, trivial⟩
theorem scal_B {mg : Str → Option Value} {ms : List Int} : Scal (uBarred mg ms) pB := by
  unfold Scal
  simp only [ScalF]
  exact ⟨scal_LI, trivial⟩
def hl (a b : Int) (o : Option Int) : Bool := o.isNone || decide (a ≤ b + o.getD 0)
def hAt (hs : List (List Int)) (i m : Nat) : Int := (hs.getD i []).getD m 0
/-- the heights' rules, a row's at m letters -/
def hStep (rd : Dic) (x : Row) (hs : List (List Int)) (r : Row) (i m : Nat) : Bool :=
  hl (hAt hs (i + 1) m) (hAt hs i m) (chp rd r []) && (!decide (m < x.length) || hl (hAt hs (i + 1) (m + 1)) (hAt hs i m) (chp rd r [x.getD m 0]))
def hOk (rd : Dic) (t : List Row) (x : Row) (hs : List (List Int)) : Bool := t.zipIdx.all fun p => (List.range (x.length + 1)).all fun m => hStep rd x hs p.1 p.2 m
def takenL (t o : List Row) : Int := ((t.zip o).map fun p => costOf p.1 p.2).sum
def wShow1 (rd : Dic) (w : Nat) (t : List Row) (x : Row) (tp : List Row) : Bool := (tp.all fun r => isRow r (w : Int)) && overB t tp && decide (textOf rd tp = x)
def wShow2 (t : List Row) (x : Row) (hs : List (List Int)) : Bool := decide (hs.length = t.length + 1) && (hs.all fun l => decide (l.length = x.length + 1)) && decide (hAt hs 0 0 = 0)
def wShow (rd : Dic) (w : Nat) (t : List Row) (x : Row) (tp : List Row) (hs : List (List Int)) : Bool := wShow1 rd w t x tp && wShow2 t x hs && hOk rd t x hs && decide (hAt hs t.length x.length = takenL t tp)
def wrB (rd : Dic) (t : List Row) (x : Row) : Bool := decide (mkAt rd t x t.length < x.length)
def wrD (mg : Str → Option Value) (rd : Dic) (t : List Row) (x : Row) : Dt := if wrB rd t x then uBarred mg (marksL rd t x) else uWritten mg (tpL rd t x) (heightsL rd t x)
def wrP (rd : Dic) (t : List Row) (x : Row) : Pat := if wrB rd t x then pB else pW
theorem scal_wr {mg : Str → Option Value} {rd : Dic} {t : List Row} {x : Row} : Scal (wrD mg rd t x) (wrP rd t x) := by
  unfold wrD wrP
  cases wrB rd t x
  · exact scal_W
  · exact scal_B
def opA (rd : Dic) (r : Row) (g : Nat → Option Int) (m : Nat) : List Int := match g m with
  | some v => [v + rubC rd r]
  | none => []
def opB (rd : Dic) (x r : Row) (g : Nat → Option Int) (m : Nat) : List Int := if 0 < m then (match g (m - 1), chp rd r [x.getD (m - 1) 0] with
  | some v, some c => [v + c]
  | _, _ => []) else []
def opUp (rd : Dic) (x r : Row) (g : Nat → Option Int) (m : Nat) : Option Int := lMin (opA rd r g m ++ opB rd x r g m)
def opAt (rd : Dic) (t : List Row) (x : Row) : Nat → Nat → Option Int
  | 0 => fun m => if m = 0 then some 0 else none
  | i + 1 => opUp rd x (t.getD i []) (opAt rd t x i)
def opLine (rd : Dic) (t : List Row) (x : Row) (i : Nat) : List (Option Int) := (List.range (x.length + 1)).map (opAt rd t x i)
theorem opLine_len (rd : Dic) (t : List Row) (x : Row) (i : Nat) : (opLine rd t x i).length = x.length + 1 := by simp [opLine]
theorem opLine_at {rd : Dic} {t : List Row} {x : Row} {i m : Nat} (h : m ≤ x.length) : (opLine rd t x i).getD m none = opAt rd t x i m := by
  unfold opLine
  rw [List.getD_eq_getElem?_getD, List.getElem?_map, List.getElem?_range (by omega)]
  rfl
theorem opLine_zero (rd : Dic) (t : List Row) (x : Row) : opLine rd t x 0 = some 0 :: List.replicate x.length none := by
  unfold opLine
  rw [List.range_succ_eq_map, List.map_cons, List.map_map]
  congr 1
  refine List.ext_getElem (by simp) fun i h1 h2 => ?_
  simp [opAt]
theorem opUp_zero (rd : Dic) (x r : Row) (g : Nat → Option Int) : opUp rd x r g 0 = (g 0).map (· + rubC rd r) := by
  unfold opUp opA opB
  rw [if_neg (by omega)]
  cases g 0 <;> rfl
theorem opUp_succ (rd : Dic) (x r : Row) (g : Nat → Option Int) (m : Nat) : opUp rd x r g (m + 1) = match g (m + 1), g m, chp rd r [x.getD m 0] with
    | some a, some b, some c => some (min (a + rubC rd r) (b + c))
    | some a, _, _ => some (a + rubC rd r)
    | none, some b, some c => some (b + c)
    | none, _, _ => none := by
  unfold opUp opA opB
  rw [if_pos (by omega), Nat.add_sub_cancel]
  cases g (m + 1) <;> cases g m <;> cases chp rd r [x.getD m 0] <;> rfl
/-- heights and sums -/
def OpHt (o : Option Int) (h : Int) (i : Nat) : Prop := match o with
  | some v => h = v ∧ 0 ≤ v ∧ v ≤ 4 * (i : Int)
  | none => 1000 ≤ h
theorem opHt {rd : Dic} {w : Nat} {t : List Row} (x : Row) (p0 : RdOk rd w) (p1 : TpOk t w) : ∀ i, i ≤ t.length → ∀ m, OpHt (opAt rd t x i m) (htAt rd t x i m) i
  | 0, _, m => by
    unfold opAt htAt OpHt
    by_cases h : m = 0
    · rw [if_pos h, if_pos h]; exact ⟨rfl, by decide, by decide⟩
    · rw [if_neg h, if_neg h]; exact Int.le_refl _
  | i + 1, hi, m => by
    have ih := opHt x p0 p1 i (by omega)
    have htl := p1.len
    have hil : i < t.length := by omega
    have hrw : isRow (t.getD i []) (w : Int) = true := p1.row _ (by rw [List.getD_eq_getElem?_getD, List.getElem?_eq_getElem hil]; exact List.getElem_mem _)
    have hr4 : (t.getD i []).length ≤ 4 := by have := isRow_len hrw; have := p0.w4; omega
    obtain ⟨rc, hrc, h0, h4⟩ := chp_rub p0 hrw
    have hrub : rubC rd (t.getD i []) = rc := by unfold rubC; rw [hrc]; rfl
    show OpHt (opUp rd x (t.getD i []) (opAt rd t x i) m) (htUp rd x (t.getD i []) (htAt rd t x i) m) (i + 1)
    cases m with
    | zero =>
      rw [opUp_zero]
      show OpHt _ (htAt rd t x i 0 + rubC rd (t.getD i [])) _
      have h := ih 0
      rw [hrub]
      unfold OpHt at h ⊢
      cases hg : opAt rd t x i 0 with
      | none => rw [hg] at h; dsimp only at h; show 1000 ≤ _; omega
      | some v =>
        rw [hg] at h
        have h : htAt rd t x i 0 = v ∧ 0 ≤ v ∧ v ≤ 4 * (i : Int) := h
        show htAt rd t x i 0 + rc = v + rc ∧ 0 ≤ v + rc ∧ v + rc ≤ 4 * ((i + 1 : Nat) : Int)
        exact ⟨by omega, by omega, by omega⟩
    | succ m =>
      rw [opUp_succ]
      have h1 := ih (m + 1)
      have h2 := ih m
      cases hc : chp rd (t.getD i []) [x.getD m 0] with
      | none =>
        rw [htUp_none hc, hrub]
        cases hg : opAt rd t x i (m + 1) with
        | none =>
          rw [hg] at h1
          have h1 : 1000 ≤ htAt rd t x i (m + 1) := h1
          have : 1000 ≤ htAt rd t x i (m + 1) + rc := by omega
          cases opAt rd t x i m <;> exact this
        | some v =>
          rw [hg] at h1
          have h1 : htAt rd t x i (m + 1) = v ∧ 0 ≤ v ∧ v ≤ 4 * (i : Int) := h1
          have : htAt rd t x i (m + 1) + rc = v + rc ∧ 0 ≤ v + rc ∧ v + rc ≤ 4 * ((i + 1 : Nat) : Int) := ⟨by omega, by omega, by omega⟩
          cases opAt rd t x i m <;> exact this
      | some c =>
        have hcb := chp_bd hr4 hc
        rw [htUp_some hc, hrub]
        cases hg : opAt rd t x i (m + 1) with
        | none =>
          rw [hg] at h1
          have h1 : 1000 ≤ htAt rd t x i (m + 1) := h1
          cases hg2 : opAt rd t x i m with
          | none =>
            rw [hg2] at h2
            have h2 : 1000 ≤ htAt rd t x i m := h2
            show 1000 ≤ _
            omega
          | some b =>
            rw [hg2] at h2
            have h2 : htAt rd t x i m = b ∧ 0 ≤ b ∧ b ≤ 4 * (i : Int) := h2
            show _ ∧ _ ∧ _
            refine ⟨by omega, by omega, by omega⟩
        | some a =>
          rw [hg] at h1
          have h1 : htAt rd t x i (m + 1) = a ∧ 0 ≤ a ∧ a ≤ 4 * (i : Int) := h1
          cases hg2 : opAt rd t x i m with
          | none =>
            rw [hg2] at h2
            have h2 : 1000 ≤ htAt rd t x i m := h2
            show _ ∧ _ ∧ _
            refine ⟨by omega, by omega, by omega⟩
          | some b =>
            rw [hg2] at h2
            have h2 : htAt rd t x i m = b ∧ 0 ≤ b ∧ b ≤ 4 * (i : Int) := h2
            show _ ∧ _ ∧ _
            refine ⟨by omega, by omega, by omega⟩
/-- marks and sums -/
theorem opMk {rd : Dic} {t : List Row} {x : Row} : ∀ i, (∀ m, m ≤ x.length → (opAt rd t x i m).isSome = true → m ≤ mkAt rd t x i) ∧ (opAt rd t x i (mkAt rd t x i)).isSome = true
  | 0 => by
    refine ⟨fun m _ h => ?_, rfl⟩
    unfold opAt at h
    by_cases hm : m = 0
    · omega
    · rw [if_neg hm] at h; cases h
  | i + 1 => by
    obtain ⟨ih1, ih2⟩ := opMk (rd := rd) (t := t) (x := x) i
    have hd : opAt rd t x (i + 1) = opUp rd x (t.getD i []) (opAt rd t x i) := rfl
    have hmk : mkAt rd t x (i + 1) = if mkUp rd x (t.getD i []) (mkAt rd t x i) then mkAt rd t x i + 1 else mkAt rd t x i := rfl
    constructor
    · intro m hm h
      rw [hd] at h
      have hle : mkAt rd t x i ≤ mkAt rd t x (i + 1) := by rw [hmk]; split <;> omega
      cases m with
      | zero => omega
      | succ m =>
        rw [opUp_succ] at h
        cases hg : opAt rd t x i (m + 1) with
        | some a => have := ih1 (m + 1) hm (by rw [hg]; rfl); omega
        | none =>
          rw [hg] at h
          cases hg2 : opAt rd t x i m with
          | none => rw [hg2] at h; cases h
          | some b =>
            rw [hg2] at h
            cases hc : chp rd (t.getD i []) [x.getD m 0] with
            | none => rw [hc] at h; cases h
            | some c =>
              have := ih1 m (by omega) (by rw [hg2]; rfl)
              by_cases he : m = mkAt rd t x i
              · rw [hmk, if_pos (by unfold mkUp; rw [← he, hc, decide_eq_true (show m < x.length by omega)]; rfl)]
                omega
              · omega
    · rw [hd, hmk]
      obtain ⟨v, hv⟩ := Option.isSome_iff_exists.mp ih2
      split
      · rename_i hu
        unfold mkUp at hu
        rw [Bool.and_eq_true] at hu
        obtain ⟨c, hc⟩ := Option.isSome_iff_exists.mp hu.2
        rw [opUp_succ, hv, hc]
        cases opAt rd t x i (mkAt rd t x i + 1) <;> rfl
      · cases hm : mkAt rd t x i with
        | zero =>
          rw [hm] at hv
          rw [opUp_zero, hv]
          rfl
        | succ m =>
          rw [hm] at hv
          rw [opUp_succ, hv]
          cases opAt rd t x i m <;> cases chp rd (t.getD i []) [x.getD m 0] <;> rfl
theorem wrB_iff {rd : Dic} {t : List Row} {x : Row} : wrB rd t x = (opAt rd t x t.length x.length).isNone := by
  obtain ⟨h1, h2⟩ := opMk (rd := rd) (t := t) (x := x) t.length
  have h3 := mkAt_le rd t x t.length
  unfold wrB
  cases ho : opAt rd t x t.length x.length with
  | none =>
    refine decide_eq_true ?_
    rcases Nat.lt_or_ge (mkAt rd t x t.length) x.length with h | h
    · exact h
    · rw [show mkAt rd t x t.length = x.length by omega, ho] at h2
      cases h2
  | some v =>
    refine decide_eq_false ?_
    have := h1 x.length (Nat.le_refl _) (by rw [ho]; rfl)
    omega
/-- the tape told -/
structure TpFact (rd : Dic) (w : Nat) (t : List Row) (x : Row) (i m : Nat) (v : Int) (o : List Row) : Prop where
  len : o.length = i
  row : ∀ r ∈ o, isRow r (w : Int) = true
  ov : ((t.take i).zip o).all (fun p => goes p.1 p.2) = true
  tx : textOf rd o = x.take m
  cost : takenL (t.take i) o = v
theorem TpFact.add {rd : Dic} {w : Nat} {t : List Row} {x : Row} {i m m' : Nat} {v c : Int} {o : List Row} {r q : Row} (f : TpFact rd w t x i m v o) (hr : t[i]? = some r) (hrw : isRow r (w : Int) = true) (hq : q ∈ aboveL r) (hc : costOf r q = c) (hm : x.take m ++ mean rd q = x.take m') : TpFact rd w t x (i + 1) m' (v + c) (o ++ [q]) := by
  have hil := (List.getElem?_eq_some_iff.mp hr).1
  have ht : t.take (i + 1) = t.take i ++ [r] := by rw [List.take_succ, hr]; rfl
  have hz : (t.take (i + 1)).zip (o ++ [q]) = (t.take i).zip o ++ [(r, q)] := by
    rw [ht, List.zip_append (by rw [List.length_take, f.len]; omega)]
    rfl
  refine ⟨by rw [List.length_append, f.len]; rfl, fun y hy => ?_, ?_, ?_, ?_⟩
  · rcases List.mem_append.mp hy with h | h
    · exact f.row y h
    · rw [List.mem_singleton.mp h]
      have := aboveL_row hq
      rwa [isRow_len hrw] at this
  · rw [hz, List.all_append, f.ov]
    have := (List.mem_filter.mp hq).2
    simp [this]
  · show ((o ++ [q]).map (mean rd)).flatten = _
    rw [List.map_append, List.flatten_append, show (o.map (mean rd)).flatten = x.take m from f.tx, ← hm]
    simp
  · have := f.cost
    unfold takenL at this ⊢
    rw [hz, List.map_append, List.sum_append, this]
    simp [hc]
theorem tpFact {rd : Dic} {w : Nat} {t : List Row} {x : Row} (p0 : RdOk rd w) (p1 : TpOk t w) : ∀ i, i ≤ t.length → ∀ m v, m ≤ x.length → opAt rd t x i m = some v → TpFact rd w t x i m v (tpAt rd t x i m)
  | 0, _, m, v, _, h => by
    unfold opAt at h
    by_cases hm : m = 0
    · rw [if_pos hm] at h
      cases h
      subst hm
      exact ⟨rfl, fun r hr => (nomatch hr), rfl, rfl, rfl⟩
    · rw [if_neg hm] at h; cases h
  | i + 1, hi, m, v, hm, h => by
    have htl := p1.len
    have hil : i < t.length := by omega
    have hr : t[i]? = some (t.getD i []) := by rw [List.getD_eq_getElem?_getD, List.getElem?_eq_getElem hil]; rfl
    have hrw : isRow (t.getD i []) (w : Int) = true := p1.row _ (List.mem_of_getElem? hr)
    have hr4 : (t.getD i []).length ≤ 4 := by have := isRow_len hrw; have := p0.w4; omega
    obtain ⟨rc, hrc, h0, h4⟩ := chp_rub p0 hrw
    have hrub : rubC rd (t.getD i []) = rc := by unfold rubC; rw [hrc]; rfl
    have hv := opHt x p0 p1 (i + 1) hi m
    rw [h] at hv
    have hv : htAt rd t x (i + 1) m = v ∧ 0 ≤ v ∧ v ≤ 4 * ((i + 1 : Nat) : Int) := hv
    have get : ∀ m' c, 0 ≤ c → htAt rd t x i m' + c = v → ∃ v', opAt rd t x i m' = some v' ∧ v' + c = v := fun m' c hc e => by
      have := opHt x p0 p1 i (by omega) m'
      cases hg : opAt rd t x i m' with
      | none => rw [hg] at this; have : 1000 ≤ htAt rd t x i m' := this; omega
      | some v' => rw [hg] at this; have : htAt rd t x i m' = v' ∧ _ := this; exact ⟨v', rfl, by omega⟩
    have hup : tpUp rd t x i m = if 0 < m then (match chp rd (t.getD i []) [x.getD (m - 1) 0] with
      | none => none
      | some c => if htAt rd t x i (m - 1) + c = htAt rd t x (i + 1) m then some c else none) else none := rfl
    have htd : htAt rd t x (i + 1) = htUp rd x (t.getD i []) (htAt rd t x i) := rfl
    cases hu : tpUp rd t x i m with
    | some c =>
      have hm0 : 0 < m := by
        rw [hup] at hu
        split at hu
        · assumption
        · cases hu
      rw [hup, if_pos hm0] at hu
      cases hq : chp rd (t.getD i []) [x.getD (m - 1) 0] with
      | none => rw [hq] at hu; cases hu
      | some c' =>
        rw [hq] at hu
        dsimp only at hu
        split at hu
        · rename_i he
          cases hu
          have hcb := chp_bd hr4 hq
          obtain ⟨v', hg, hvv⟩ := get (m - 1) c hcb.1 (by omega)
          have ih := tpFact p0 p1 i (by omega) (m - 1) v' (by omega) hg
          obtain ⟨-, k1, k2, k3⟩ := pickRow_ok hq
          have : tpAt rd t x (i + 1) m = tpAt rd t x i (m - 1) ++ [pickRow rd (t.getD i []) [x.getD (m - 1) 0] c] := by
            show (match tpUp rd t x i m with | some c => _ | none => _) = _
            rw [hup, if_pos hm0, hq]
            dsimp only
            rw [if_pos he]
          rw [this, ← hvv]
          refine ih.add hr hrw k1 k3 ?_
          rw [k2]
          obtain ⟨m, rfl⟩ : ∃ n, m = n + 1 := ⟨m - 1, by omega⟩
          rw [Nat.add_sub_cancel, List.take_succ, List.getElem?_eq_getElem (show m < x.length by omega), List.getD_eq_getElem?_getD, List.getElem?_eq_getElem (show m < x.length by omega)]
          rfl
        · cases hu
    | none =>
      have he : htAt rd t x i m + rc = v := by
        rw [← hv.1, htd]
        cases m with
        | zero => show _ = htAt rd t x i 0 + rubC rd (t.getD i []); rw [hrub]
        | succ m =>
          rw [hup, if_pos (by omega), Nat.add_sub_cancel] at hu
          cases hq : chp rd (t.getD i []) [x.getD m 0] with
          | none => rw [htUp_none hq, hrub]
          | some c =>
            rw [hq] at hu
            dsimp only at hu
            split at hu
            · cases hu
            · rename_i hne
              rw [htd, htUp_some hq, hrub] at hne
              rw [htUp_some hq, hrub]
              omega
      obtain ⟨v', hg, hvv⟩ := get m rc h0 he
      have ih := tpFact p0 p1 i (by omega) m v' hm hg
      obtain ⟨-, k1, k2, k3⟩ := pickRow_ok hrc
      have : tpAt rd t x (i + 1) m = tpAt rd t x i m ++ [pickRow rd (t.getD i []) [] (rubC rd (t.getD i []))] := by
        show (match tpUp rd t x i m with | some c => _ | none => _) = _
        rw [hu]
      rw [this, ← hvv, hrub]
      exact ih.add hr hrw k1 k3 (by rw [k2, List.append_nil])
theorem taken_holes : ∀ {t o : List Row}, t.length = o.length → takenL t o = holesOf o - holesOf t
  | [], [], _ => rfl
  | a :: t, b :: o, h => by
    have ih := taken_holes (t := t) (o := o) (by simpa using h)
    unfold takenL holesOf at ih ⊢
    simp only [List.zip_cons_cons, List.map_cons, List.sum_cons, ih]
    unfold costOf
    omega
theorem hAt_ht {rd : Dic} {t : List Row} {x : Row} {i m : Nat} (hi : i ≤ t.length) (hm : m ≤ x.length) : hAt (heightsL rd t x) i m = htAt rd t x i m := by
  unfold hAt heightsL
  rw [htP_at hi, htLine_at hm]
theorem hOk_ht {rd : Dic} {w : Nat} {t : List Row} {x : Row} (p0 : RdOk rd w) (p1 : TpOk t w) : hOk rd t x (heightsL rd t x) = true := by
  unfold hOk
  rw [List.all_eq_true]
  rintro ⟨r, i⟩ hp
  rw [List.all_eq_true]
  intro m hm
  rw [List.mem_range] at hm
  obtain ⟨j, hj⟩ := List.mem_iff_getElem?.mp hp
  obtain ⟨rfl, hr⟩ := zipIdx_at hj
  have hil := (List.getElem?_eq_some_iff.mp hr).1
  have hg : t.getD i [] = r := by rw [List.getD_eq_getElem?_getD, hr]; rfl
  have htd : htAt rd t x (i + 1) = htUp rd x r (htAt rd t x i) := by rw [← hg]; rfl
  obtain ⟨rc, hrc, h0, h4⟩ := chp_rub p0 (p1.row r (List.mem_of_getElem? hr))
  have hrub : rubC rd r = rc := by unfold rubC; rw [hrc]; rfl
  show hStep rd x _ r i m = true
  unfold hStep
  rw [hAt_ht (by omega) (by omega), hAt_ht (by omega) (by omega), Bool.and_eq_true]
  constructor
  · unfold hl
    rw [hrc]
    show decide (_ ≤ _ + rc) = true
    refine decide_eq_true ?_
    rw [htd]
    cases m with
    | zero => show htAt rd t x i 0 + rubC rd r ≤ _; rw [hrub]; omega
    | succ m =>
      cases hq : chp rd r [x.getD m 0] with
      | none => rw [htUp_none hq, hrub]; omega
      | some c => rw [htUp_some hq, hrub]; omega
  · by_cases hmx : m < x.length
    · rw [decide_eq_true hmx, hAt_ht (by omega) (by omega), htd]
      unfold hl
      cases hq : chp rd r [x.getD m 0] with
      | none => rfl
      | some c =>
        rw [htUp_some hq]
        show decide (_ ≤ _ + c) = true
        refine decide_eq_true ?_
        omega
    · rw [decide_eq_false hmx]; rfl
theorem wShow2_ht (rd : Dic) (t : List Row) (x : Row) : wShow2 t x (heightsL rd t x) = true := by
  unfold wShow2
  rw [hAt_ht (by omega) (by omega)]
  simp only [Bool.and_eq_true, decide_eq_true_eq, List.all_eq_true]
  refine ⟨⟨htP_len rd t x t.length, fun l hl => ?_⟩, rfl⟩
  obtain ⟨i, hi, rfl⟩ := List.mem_map.mp hl
  exact htLine_len rd t x i
theorem written_ok {rd : Dic} {w : Nat} {t : List Row} {x : Row} {v : Int} (p0 : RdOk rd w) (p1 : TpOk t w) (h : opAt rd t x t.length x.length = some v) :
    wShow rd w t x (tpL rd t x) (heightsL rd t x) = true ∧ TpOk (tpL rd t x) w ∧ overB t (tpL rd t x) = true ∧ textOf rd (tpL rd t x) = x ∧ holesOf (tpL rd t x) - holesOf t = v ∧ htAt rd t x t.length x.length = v := by
  have f := tpFact p0 p1 t.length (Nat.le_refl _) x.length v (Nat.le_refl _) h
  have hv := opHt x p0 p1 t.length (Nat.le_refl _) x.length
  rw [h] at hv
  have hv : htAt rd t x t.length x.length = v ∧ _ := hv
  have e1 := f.ov
  have e2 := f.tx
  have e3 := f.cost
  have e4 := f.len
  have htl := p1.len
  rw [List.take_length] at e1 e2 e3
  have hov : overB t (tpL rd t x) = true := by
    unfold overB
    rw [Bool.and_eq_true]
    exact ⟨decide_eq_true (by rw [show (tpL rd t x).length = t.length from e4]), e1⟩
  refine ⟨?_, ⟨by rw [show (tpL rd t x).length = t.length from e4]; exact htl, f.row⟩, hov, e2, ?_, hv.1⟩
  · have hall : ((tpL rd t x).all fun r => isRow r (w : Int)) = true := List.all_eq_true.mpr f.row
    unfold wShow wShow1
    rw [hall, wShow2_ht, hOk_ht p0 p1, hov, hAt_ht (Nat.le_refl _) (Nat.le_refl _), hv.1, show takenL t (tpL rd t x) = v from e3, show textOf rd (tpL rd t x) = x from e2]
    simp
  · rw [← taken_holes (show t.length = (tpL rd t x).length from e4.symm)]
    exact e3
def meansF (rd : Dic) (os : List Row) : Dic := os.foldl (fun acc o => setG acc (mean rd o) o) []
def meansL (rd : Dic) (r : Row) : Dic := meansF rd (belowL r)
theorem lookG_setG {r : Dic} {k j v : Row} : lookG (setG r k v) j = (lookG r j).or (if k = j then some v else none) := by
  unfold setG
  cases h : lookG r k with
  | some b =>
    show lookG r j = _
    by_cases e : k = j
    · subst e; rw [h]; rfl
    · rw [if_neg e]; cases lookG r j <;> rfl
  | none =>
    rw [if_neg (by simp), lookG_app, lookG_cons, lookG_nil]
theorem lookG_means (rd : Dic) (l : Row) : ∀ (os : List Row) (acc : Dic), lookG (os.foldl (fun acc o => setG acc (mean rd o) o) acc) l = (lookG acc l).or (os.find? fun o => decide (mean rd o = l))
  | [], acc => by simp
  | o :: os, acc => by
    rw [List.foldl_cons, lookG_means rd l os, lookG_setG, List.find?_cons]
    by_cases e : mean rd o = l
    · simp [e]
    · simp [e]
theorem means_look (rd : Dic) (r l : Row) : lookG (meansL rd r) l = (belowL r).find? fun o => decide (mean rd o = l) := by
  unfold meansL meansF
  rw [lookG_means, lookG_nil]
  rfl
theorem setG_len (r : Dic) (k v : Row) : (setG r k v).length ≤ r.length + 1 := by
  unfold setG
  split <;> simp
theorem meansF_len (rd : Dic) : ∀ (os : List Row) (acc : Dic), (os.foldl (fun acc o => setG acc (mean rd o) o) acc).length ≤ acc.length + os.length
  | [], acc => Nat.le_refl _
  | o :: os, acc => by
    rw [List.foldl_cons]
    have h1 := meansF_len rd os (setG acc (mean rd o) o)
    have h2 := setG_len acc (mean rd o) o
    rw [List.length_cons]
    omega
theorem scal_D {r : Dic} : Scal (uD r) (.ow .sh) := scal_map fun _ => scal_sc
def eB (rd : Dic) (r : Row) : Bool := (lookG (meansL rd r) []).isSome
def lB (rd : Dic) (r : Row) (c : Nat) : Bool := (lookG (meansL rd r) [c]).isSome
def fstB (rd : Dic) (r l : Row) : Row := (lookG (meansL rd r) l).getD []
def cUp (rd : Dic) (x r : Row) (c : List Int) (m : Nat) : Bool := (decide ((m : Int) ∈ c) && eB rd r) || (decide (0 < m) && (decide ((m : Int) - 1 ∈ c) && lB rd r (x.getD (m - 1) 0)))
def cntAt (rd : Dic) (t : List Row) (x : Row) : Nat → List Int
  | 0 => [0]
  | i + 1 => ((List.range (x.length + 1)).filter (cUp rd x (t.getD i []) (cntAt rd t x i))).map fun (m : Nat) => (m : Int)
def cntP (rd : Dic) (t : List Row) (x : Row) (i : Nat) : List (List Int) := (List.range (i + 1)).map (cntAt rd t x)
def countsL (rd : Dic) (t : List Row) (x : Row) : List (List Int) := cntP rd t x t.length
theorem cntP_len (rd : Dic) (t : List Row) (x : Row) (i : Nat) : (cntP rd t x i).length = i + 1 := by simp [cntP]
theorem cntP_at {rd : Dic} {t : List Row} {x : Row} {i j : Nat} (h : j ≤ i) : (cntP rd t x i).getD j [] = cntAt rd t x j := by
  unfold cntP
  rw [List.getD_eq_getElem?_getD, List.getElem?_map, List.getElem?_range (by omega)]
  rfl
theorem cntP_last (rd : Dic) (t : List Row) (x : Row) (i : Nat) : (cntP rd t x i).getLast? = some (cntAt rd t x i) := by
  unfold cntP
  rw [List.range_succ, List.map_append]
  simp
theorem cntP_succ (rd : Dic) (t : List Row) (x : Row) (i : Nat) : cntP rd t x (i + 1) = cntP rd t x i ++ [cntAt rd t x (i + 1)] := mapR
theorem cnt_mem {rd : Dic} {t : List Row} {x : Row} : ∀ {i : Nat} {k : Int}, k ∈ cntAt rd t x i → 0 ≤ k ∧ k ≤ x.length
  | 0, k, h => by
    rw [List.mem_singleton.mp h]
    omega
  | i + 1, k, h => by
    obtain ⟨m, hm, rfl⟩ := List.mem_map.mp h
    have := List.mem_range.mp (List.mem_filter.mp hm).1
    omega
theorem cnt_inc {rd : Dic} {t : List Row} {x : Row} : ∀ i, (cntAt rd t x i).Pairwise (· < ·)
  | 0 => by simp [cntAt]
  | i + 1 => by
    show (((List.range (x.length + 1)).filter _).map fun (m : Nat) => (m : Int)).Pairwise (· < ·)
    rw [List.pairwise_map]
    refine (List.pairwise_lt_range.filter _).imp fun h => ?_
    omega
theorem cnt_len {rd : Dic} {t : List Row} {x : Row} (i : Nat) : (cntAt rd t x i).length ≤ x.length + 1 := by
  cases i with
  | zero => simp [cntAt]
  | succ i =>
    unfold cntAt
    rw [List.length_map]
    refine Nat.le_trans (List.length_filter_le _ _) ?_
    rw [List.length_range]
    exact Nat.le_refl _
theorem cnt_up {rd : Dic} {t : List Row} {x : Row} {i m : Nat} : (m : Int) ∈ cntAt rd t x (i + 1) ↔ m ≤ x.length ∧ cUp rd x (t.getD i []) (cntAt rd t x i) m = true := by
  show (m : Int) ∈ (((List.range (x.length + 1)).filter (cUp rd x (t.getD i []) (cntAt rd t x i))).map fun (m : Nat) => (m : Int)) ↔ _
  rw [List.mem_map]
  constructor
  · rintro ⟨k, hk, e⟩
    have : k = m := by omega
    subst this
    have := List.mem_filter.mp hk
    exact ⟨by have := List.mem_range.mp this.1; omega, this.2⟩
  · rintro ⟨h1, h2⟩
    exact ⟨m, List.mem_filter.mpr ⟨List.mem_range.mpr (by omega), h2⟩, rfl⟩
def putIf (b : Bool) (r : List (Int × Bool)) (k : Int) : List (Int × Bool) := if b then putG r k true else r
def cD (rd : Dic) (x r : Row) (acc : List (Int × Bool)) (m : Int) : List (Int × Bool) := putIf (decide (m < (x.length : Int)) && lB rd r (x.getD m.toNat 0)) (putIf (eB rd r) acc m) (m + 1)
theorem putG_mem {r : List (Int × Bool)} {k j : Int} {b : Bool} : j ∈ (putG r k b).map (·.1) ↔ j ∈ r.map (·.1) ∨ j = k := by
  rw [putG_keys]
  cases h : lookG r k with
  | none => simp
  | some v =>
    have := List.mem_map_of_mem (f := (·.1)) (lookG_mem h)
    simp only [Option.isSome_some, if_true]
    constructor
    · exact .inl
    · rintro (h | rfl)
      · exact h
      · exact this
theorem putG_nodup {r : List (Int × Bool)} {k : Int} {b : Bool} (nd : (r.map (·.1)).Nodup) : ((putG r k b).map (·.1)).Nodup := by
  rw [putG_keys]
  cases h : lookG r k with
  | some v => exact nd
  | none =>
    simp only [Option.isSome_none, Bool.false_eq_true, if_false]
    rw [List.nodup_append]
    refine ⟨nd, by simp, fun a ha b hb => ?_⟩
    rw [List.mem_singleton.mp hb]
    rintro rfl
    obtain ⟨p, hp, rfl⟩ := List.mem_map.mp ha
    have := lookG_any (r := r) (k := p.1)
    rw [h] at this
    rw [Option.isSome_none, List.any_eq_false] at this
    exact this p hp (by simp)
theorem putIf_mem {c b : Bool} {r : List (Int × Bool)} {k j : Int} : j ∈ (putIf c r k).map (·.1) ↔ j ∈ r.map (·.1) ∨ (j = k ∧ c = true) := by
  unfold putIf
  cases c with
  | true => rw [if_pos rfl, putG_mem]; simp
  | false => simp
theorem putIf_nodup {c : Bool} {r : List (Int × Bool)} {k : Int} (nd : (r.map (·.1)).Nodup) : ((putIf c r k).map (·.1)).Nodup := by
  unfold putIf
  cases c with
  | true => exact putG_nodup nd
  | false => exact nd
theorem putIf_len (c : Bool) (r : List (Int × Bool)) (k : Int) : (putIf c r k).length ≤ r.length + 1 := by
  unfold putIf
  cases c with
  | true => exact putG_len r k true
  | false => simp
theorem cD_all (rd : Dic) (x r : Row) : ∀ (l : List Int) (acc : List (Int × Bool)), (acc.map (·.1)).Nodup → (((l.foldl (cD rd x r) acc).map (·.1)).Nodup ∧ (l.foldl (cD rd x r) acc).length ≤ acc.length + 2 * l.length ∧
    ∀ k, k ∈ (l.foldl (cD rd x r) acc).map (·.1) ↔ k ∈ acc.map (·.1) ∨ ∃ m ∈ l, (k = m ∧ eB rd r = true) ∨ (k = m + 1 ∧ (decide (m < (x.length : Int)) && lB rd r (x.getD m.toNat 0)) = true))
  | [], acc, nd => ⟨nd, by simp, fun k => by simp⟩
  | m :: l, acc, nd => by
    rw [List.foldl_cons]
    obtain ⟨h1, h2, h3⟩ := cD_all rd x r l (cD rd x r acc m) (putIf_nodup (putIf_nodup nd))
    refine ⟨h1, ?_, fun k => ?_⟩
    · have e1 := putIf_len (eB rd r) acc m
      have e2 := putIf_len (decide (m < (x.length : Int)) && lB rd r (x.getD m.toNat 0)) (putIf (eB rd r) acc m) (m + 1)
      have e3 : (cD rd x r acc m).length ≤ (putIf (eB rd r) acc m).length + 1 := e2
      rw [List.length_cons]
      omega
    · rw [h3]
      have : k ∈ (cD rd x r acc m).map (·.1) ↔ (k ∈ acc.map (·.1) ∨ (k = m ∧ eB rd r = true)) ∨ (k = m + 1 ∧ (decide (m < (x.length : Int)) && lB rd r (x.getD m.toNat 0)) = true) := by
        unfold cD
        rw [putIf_mem (b := true), putIf_mem (b := true)]
      rw [this]
      constructor
      · rintro (((h | h) | h) | ⟨m', hm, h⟩)
        · exact .inl h
        · exact .inr ⟨m, List.mem_cons_self, .inl h⟩
        · exact .inr ⟨m, List.mem_cons_self, .inr h⟩
        · exact .inr ⟨m', List.mem_cons_of_mem _ hm, h⟩
      · rintro (h | ⟨m', hm, h⟩)
        · exact .inl (.inl (.inl h))
        · rcases List.mem_cons.mp hm with rfl | hm
          · rcases h with h | h
            · exact .inl (.inl (.inr h))
            · exact .inl (.inr h)
          · exact .inr ⟨m', hm, h⟩
theorem cnt_perm {rd : Dic} {t : List Row} {x : Row} {i : Nat} : (cntAt rd t x (i + 1)).Perm (((cntAt rd t x i).foldl (cD rd x (t.getD i [])) []).map (·.1)) := by
  obtain ⟨h1, h2, h3⟩ := cD_all rd x (t.getD i []) (cntAt rd t x i) [] (by simp)
  rw [List.perm_ext_iff_of_nodup ((cnt_inc (i + 1)).imp fun h => by omega) h1]
  intro k
  rw [h3]
  constructor
  · intro h
    have hb := cnt_mem h
    obtain ⟨m, rfl⟩ : ∃ m : Nat, k = (m : Int) := ⟨k.toNat, by omega⟩
    obtain ⟨h4, h5⟩ := cnt_up.mp h
    right
    unfold cUp at h5
    simp only [Bool.or_eq_true, Bool.and_eq_true, decide_eq_true_eq] at h5
    rcases h5 with ⟨h5, h6⟩ | ⟨h5, h6, h7⟩
    · exact ⟨_, h5, .inl ⟨rfl, h6⟩⟩
    · refine ⟨_, h6, .inr ⟨by omega, ?_⟩⟩
      rw [show ((m : Int) - 1).toNat = m - 1 by omega, h7, decide_eq_true (by omega)]
      rfl
  · rintro (h | ⟨m, hm, h⟩)
    · cases h
    · have hb := cnt_mem hm
      obtain ⟨n, rfl⟩ : ∃ n : Nat, m = (n : Int) := ⟨m.toNat, by omega⟩
      rcases h with ⟨rfl, h⟩ | ⟨rfl, h⟩
      · refine cnt_up.mpr ⟨by omega, ?_⟩
        unfold cUp
        rw [decide_eq_true hm, h]
        rfl
      · rw [Bool.and_eq_true, decide_eq_true_eq] at h
        have : ((n : Int) + 1) = ((n + 1 : Nat) : Int) := by omega
        rw [this]
        refine cnt_up.mpr ⟨by omega, ?_⟩
        unfold cUp
        rw [show ((n + 1 : Nat) : Int) - 1 = (n : Int) by omega, decide_eq_true hm, Nat.add_sub_cancel, show x.getD n 0 = x.getD (n : Int).toNat 0 from rfl, h.2, decide_eq_true (show 0 < n + 1 by omega)]
        simp
def elAt (rd : Dic) (t : List Row) (x : Row) : Nat → Nat → List Row
  | 0, _ => []
  | i + 1, m => if eB rd (t.getD i []) && decide ((m : Int) ∈ cntAt rd t x i) then elAt rd t x i m ++ [fstB rd (t.getD i []) []] else elAt rd t x i (m - 1) ++ [fstB rd (t.getD i []) [x.getD (m - 1) 0]]
def elL (rd : Dic) (t : List Row) (x : Row) : List Row := elAt rd t x t.length x.length
theorem cnt_down {rd : Dic} {t : List Row} {x : Row} {i m : Nat} (h : (m : Int) ∈ cntAt rd t x (i + 1)) (hn : (eB rd (t.getD i []) && decide ((m : Int) ∈ cntAt rd t x i)) = false) : 0 < m ∧ ((m - 1 : Nat) : Int) ∈ cntAt rd t x i ∧ lB rd (t.getD i []) (x.getD (m - 1) 0) = true := by
  obtain ⟨h4, h5⟩ := cnt_up.mp h
  unfold cUp at h5
  rw [Bool.and_comm, hn, Bool.false_or] at h5
  simp only [Bool.and_eq_true, decide_eq_true_eq] at h5
  exact ⟨h5.1, by rw [show ((m - 1 : Nat) : Int) = (m : Int) - 1 by omega]; exact h5.2.1, h5.2.2⟩
abbrev uStood (mg : Str → Option Value) (tp : List Row) : Dt := .node (.i (cA mg "Stood") ["tape"]) [uL uS tp]
abbrev uNever (mg : Str → Option Value) (cs : List (List Int)) : Dt := .node (.i (cA mg "Never") ["counts"]) [uL (uL uI) cs]
abbrev pS : Pat := .fs [.ow .sh]
abbrev pN : Pat := .fs [.ow (.ow .sh)]
theorem scal_S {mg : Str → Option Value} {tp : List Row} : Scal (uStood mg tp) pS := by
  unfold Scal
  simp only [ScalF]
  exact ⟨scal_LS, trivial⟩
theorem scal_N {mg : Str → Option Value} {cs : List (List Int)} : Scal (uNever mg cs) pN := by
  unfold Scal
  simp only [ScalF]
  exact ⟨scal_LLI, trivial⟩
def mB (rd : Dic) (r l : Row) : Bool := decide (l ∈ (belowL r).map (mean rd))
theorem mB_look (rd : Dic) (r l : Row) : (lookG (meansL rd r) l).isSome = mB rd r l := by
  rw [means_look]
  unfold mB
  rw [Bool.eq_iff_iff, List.find?_isSome, decide_eq_true_eq, List.mem_map]
  simp
def stB (rd : Dic) (t : List Row) (x : Row) : Bool := decide ((x.length : Int) ∈ cntAt rd t x t.length)
def stD (mg : Str → Option Value) (rd : Dic) (t : List Row) (x : Row) : Dt := if stB rd t x then uStood mg (elL rd t x) else uNever mg (countsL rd t x)
def stP (rd : Dic) (t : List Row) (x : Row) : Pat := if stB rd t x then pS else pN
theorem scal_st {mg : Str → Option Value} {rd : Dic} {t : List Row} {x : Row} : Scal (stD mg rd t x) (stP rd t x) := by
  unfold stD stP
  cases stB rd t x
  · exact scal_N
  · exact scal_S
theorem mem_genL : ∀ (n : Nat) (q : Row), q.length = n → (∀ c ∈ q, c = 111 ∨ c = 46) → q ∈ genL n
  | 0, q, h, _ => by
    have : q = [] := List.length_eq_zero_iff.mp h
    rw [this]
    exact List.mem_singleton.mpr rfl
  | n + 1, q, h, hc => by
    have hn : q ≠ [] := by rintro rfl; cases h
    have e : q = q.dropLast ++ [q.getLast hn] := (List.dropLast_concat_getLast hn).symm
    have ih := mem_genL n q.dropLast (by rw [List.length_dropLast]; omega) fun c h => hc c ((List.dropLast_sublist _).subset h)
    unfold genL
    rcases hc _ (List.getLast_mem hn) with z | z
    · rw [z] at e
      rw [e]
      exact List.mem_append.mpr (.inr (List.mem_map.mpr ⟨_, ih, rfl⟩))
    · rw [z] at e
      rw [e]
      exact List.mem_append.mpr (.inl (List.mem_map.mpr ⟨_, ih, rfl⟩))
theorem mem_rowsL {q : Row} {w : Nat} (hw : w ≤ 4) (h : isRow q (w : Int) = true) : q ∈ rowsL (w : Int) :=
  (rows_perm w hw).symm.subset (mem_genL w q (isRow_len h) (isRow_mem h))
theorem overB_len {t o : List Row} (h : overB t o = true) : t.length = o.length := by
  unfold overB at h
  rw [Bool.and_eq_true] at h
  have := of_decide_eq_true h.1
  omega
theorem below_goes {r o : Row} (h : o ∈ belowL r) : goes o r = true := (List.mem_filter.mp h).2
structure ElFact (rd : Dic) (w : Nat) (t : List Row) (x : Row) (i m : Nat) (o : List Row) : Prop where
  len : o.length = i
  row : ∀ r ∈ o, isRow r (w : Int) = true
  ov : (o.zip (t.take i)).all (fun p => goes p.1 p.2) = true
  tx : textOf rd o = x.take m
theorem ElFact.add {rd : Dic} {w : Nat} {t : List Row} {x : Row} {i m m' : Nat} {o : List Row} {r q : Row} (f : ElFact rd w t x i m o) (hr : t[i]? = some r) (hrw : isRow r (w : Int) = true) (hq : q ∈ belowL r) (hm : x.take m ++ mean rd q = x.take m') : ElFact rd w t x (i + 1) m' (o ++ [q]) := by
  have hil := (List.getElem?_eq_some_iff.mp hr).1
  have ht : t.take (i + 1) = t.take i ++ [r] := by rw [List.take_succ, hr]; rfl
  have hz : (o ++ [q]).zip (t.take (i + 1)) = o.zip (t.take i) ++ [(q, r)] := by
    rw [ht, List.zip_append (by rw [List.length_take, f.len]; omega)]
    rfl
  refine ⟨by rw [List.length_append, f.len]; rfl, fun y hy => ?_, ?_, ?_⟩
  · rcases List.mem_append.mp hy with h | h
    · exact f.row y h
    · rw [List.mem_singleton.mp h]
      have := belowL_row hq
      rwa [isRow_len hrw] at this
  · rw [hz, List.all_append, f.ov]
    simp [below_goes hq]
  · show ((o ++ [q]).map (mean rd)).flatten = _
    rw [List.map_append, List.flatten_append, show (o.map (mean rd)).flatten = x.take m from f.tx, ← hm]
    simp
structure Bec (rd : Dic) (w : Nat) (t : List Row) (x : Row) (c : Int) (os : List Row) : Prop where
  row : ∀ r ∈ os, isRow r (w : Int) = true
  ov : overB t os = true
  tx : textOf rd os = x
  cost : holesOf os - holesOf t = c
def prc (rd : Dic) (t : List Row) (x : Row) : Option Int := opAt rd t x t.length x.length
theorem prc_get {rd : Dic} {w : Nat} {t : List Row} {x : Row} {v : Int} (p0 : RdOk rd w) (p1 : TpOk t w) (h : prc rd t x = some v) : Bec rd w t x v (tpL rd t x) := by
  obtain ⟨-, h2, h3, h4, h5, -⟩ := written_ok p0 p1 h
  exact ⟨h2.row, h3, h4, h5⟩
theorem wrB_prc {rd : Dic} {t : List Row} {x : Row} : wrB rd t x = (prc rd t x).isNone := wrB_iff
theorem goes_cons {a b : Nat} {r o : Row} : goes (a :: r) (b :: o) = (!(decide (a = 111) && decide (b = 46)) && goes r o) := by
  unfold goes
  rw [List.zip_cons_cons, List.any_cons, Bool.not_or]
  congr 2
  simp
abbrev uPunch (mg : Str → Option Value) (w : Nat) (rd : Dic) (rows : List Row) (made : Int) : Dt := .node (.i (cA mg "Punch") ["width", "reader", "rows", "made"]) [uI (w : Int), uD rd, uL uS rows, uI made]
abbrev pP : Pat := .fs [.sh, .ow .sh, .ow .sh, .sh]
abbrev uOL (o : Option (List Row)) : Dt := match o with
  | none => uN
  | some t => uL uS t
theorem scal_P {mg : Str → Option Value} {w : Nat} {rd : Dic} {rows : List Row} {made : Int} : Scal (uPunch mg w rd rows made) pP := by
  unfold Scal
  simp only [ScalF, scal_sc, scal_D, scal_LS, and_self]
/-- what a write leaves, what it took -/
def wrT (rd : Dic) (t : List Row) (x : Row) : List Row := if wrB rd t x then t else tpL rd t x
def wrC (rd : Dic) (t : List Row) (x : Row) : Option Int := if wrB rd t x then none else some (takenL t (tpL rd t x))
def strT (t : List Row) (p : Int) (r : Row) : List Row := (cutG t none (some p) ++ [r]) ++ cutG t (some (p + 1)) none
theorem all_o (w : Nat) (hw : w ≤ 4) : (List.replicate (w : Int).toNat [111]).flatten = List.replicate w 111 := by
  have : w = 0 ∨ w = 1 ∨ w = 2 ∨ w = 3 ∨ w = 4 := by omega
  rcases this with rfl | rfl | rfl | rfl | rfl <;> rfl
theorem goes_all_o : ∀ (r : Row), goes r (List.replicate r.length 111) = true
  | [] => rfl
  | a :: r => by
    rw [List.length_cons, List.replicate_succ, goes_cons, goes_all_o r]
    simp
theorem isRow_all_o {w : Nat} (hw : w ≤ 4) : isRow (List.replicate w 111) (w : Int) = true := by
  have : w = 0 ∨ w = 1 ∨ w = 2 ∨ w = 3 ∨ w = 4 := by omega
  rcases this with rfl | rfl | rfl | rfl | rfl <;> decide
theorem EvH.is {te : TE} {σ : L2.St} {H : Hp} {l m : List V} (h : EvH te σ H l) (e : l = m) : EvH te σ H m := e ▸ h
theorem can_step {rd : Dic} {t : List Row} {x : Row} {i : Nat} : srtI ((if mB rd (t.getD i []) [] then cntAt rd t x i else []) ++
    ((cntAt rd t x i).filter fun m => decide (m < (x.length : Int)) && mB rd (t.getD i []) [x.getD m.toNat 0]).map (· + 1)) = cntAt rd t x (i + 1) := by
  have hpos : ∀ {j : Nat} {k : Int}, k ∈ cntAt rd t x j → ∃ n : Nat, k = (n : Int) ∧ n ≤ x.length := fun {j k} h => by
    have := cnt_mem h
    exact ⟨k.toNat, by omega, by omega⟩
  refine sorted_perm ?_ (srtI_le _) ((cnt_inc (i + 1)).imp fun h => Int.le_of_lt h)
  rw [List.perm_ext_iff_of_nodup (srtI_nd _) ((cnt_inc (i + 1)).imp fun h => by omega)]
  intro y
  rw [srtI_mem, List.mem_append, List.mem_map]
  have hcu : ∀ n : Nat, cUp rd x (t.getD i []) (cntAt rd t x i) n = ((decide ((n : Int) ∈ cntAt rd t x i) && mB rd (t.getD i []) []) || (decide (0 < n) && (decide ((n : Int) - 1 ∈ cntAt rd t x i) && mB rd (t.getD i []) [x.getD (n - 1) 0]))) := fun n => by
    unfold cUp
    rw [show eB rd (t.getD i []) = mB rd (t.getD i []) [] from mB_look rd _ [], show lB rd (t.getD i []) (x.getD (n - 1) 0) = mB rd (t.getD i []) [x.getD (n - 1) 0] from mB_look rd _ _]
  constructor
  · rintro (h | ⟨m, h, rfl⟩)
    · by_cases hm : mB rd (t.getD i []) [] = true
      · rw [if_pos hm] at h
        obtain ⟨n, rfl, hn⟩ := hpos h
        rw [cnt_up]
        exact ⟨hn, by rw [hcu, hm]; simp [h]⟩
      · rw [if_neg hm] at h
        cases h
    · rw [List.mem_filter] at h
      obtain ⟨h1, h2⟩ := h
      obtain ⟨n, rfl, hn⟩ := hpos h1
      simp only [Bool.and_eq_true, decide_eq_true_eq] at h2
      rw [show (n : Int) + 1 = ((n + 1 : Nat) : Int) by omega, cnt_up]
      refine ⟨by omega, ?_⟩
      rw [hcu]
      have e1 : ((n + 1 : Nat) : Int) - 1 = (n : Int) := by omega
      have h3 := h2.2
      rw [show ((n : Int)).toNat = n from rfl] at h3
      rw [e1, show n + 1 - 1 = n by omega, h3]
      simp [h1]
  · intro h
    obtain ⟨n, rfl, hn⟩ := hpos h
    rw [cnt_up] at h
    obtain ⟨-, h⟩ := h
    rw [hcu, Bool.or_eq_true] at h
    rcases h with h | h
    · simp only [Bool.and_eq_true, decide_eq_true_eq] at h
      exact .inl (by rw [if_pos h.2]; exact h.1)
    · simp only [Bool.and_eq_true, decide_eq_true_eq] at h
      refine .inr ⟨(n : Int) - 1, ?_, by omega⟩
      rw [List.mem_filter]
      refine ⟨h.2.1, ?_⟩
      rw [show ((n : Int) - 1).toNat = n - 1 by omega, h.2.2]
      simp
      omega
theorem wr_none11 {rd : Dic} {t : List Row} {x : Row} (h : prc rd t x = none) : wrT rd t x = t ∧ wrC rd t x = none := by
  have hB : wrB rd t x = true := by rw [wrB_prc, h]; rfl
  unfold wrT wrC
  rw [hB]
  exact ⟨rfl, rfl⟩
theorem wr_some11 {rd : Dic} {w : Nat} {t : List Row} {x : Row} {v : Int} (p0 : RdOk rd w) (p1 : TpOk t w) (h : prc rd t x = some v) : wrT rd t x = tpL rd t x ∧ wrC rd t x = some v := by
  have hB : wrB rd t x = false := by rw [wrB_prc, h]; rfl
  have b := prc_get p0 p1 h
  unfold wrT wrC
  rw [hB]
  refine ⟨rfl, ?_⟩
  show some (takenL t (tpL rd t x)) = some v
  rw [taken_holes (overB_len b.ov), b.cost]
theorem wrC_prc {rd : Dic} {w : Nat} {t : List Row} {x : Row} (p0 : RdOk rd w) (p1 : TpOk t w) : wrC rd t x = prc rd t x := by
  cases h : prc rd t x with
  | none => exact (wr_none11 h).2
  | some v => exact (wr_some11 p0 p1 h).2
theorem wrT_tp {rd : Dic} {w : Nat} {t : List Row} {x : Row} (p0 : RdOk rd w) (p1 : TpOk t w) : TpOk (wrT rd t x) w ∧ (wrT rd t x).length = t.length := by
  cases h : prc rd t x with
  | none => rw [(wr_none11 h).1]; exact ⟨p1, rfl⟩
  | some v =>
    have b := prc_get p0 p1 h
    have hl := overB_len b.ov
    rw [(wr_some11 p0 p1 h).1]
    exact ⟨⟨by rw [← hl]; exact p1.len, b.row⟩, hl.symm⟩
theorem wrC_holes {rd : Dic} {w : Nat} {t : List Row} {x : Row} (p0 : RdOk rd w) (p1 : TpOk t w) : (wrC rd t x).getD 0 = holesOf (wrT rd t x) - holesOf t := by
  cases h : prc rd t x with
  | none =>
    obtain ⟨e1, e2⟩ := wr_none11 h
    rw [e1, e2]
    simp
  | some v =>
    obtain ⟨e1, e2⟩ := wr_some11 p0 p1 h
    rw [e1, e2]
    exact (prc_get p0 p1 h).cost.symm
theorem strT_is {t : List Row} {p : Int} {r : Row} (h0 : 0 ≤ p) : strT t p r = t.take p.toNat ++ [r] ++ t.drop (p + 1).toNat := by
  unfold strT
  rw [cutG_to _ h0, cutG_from _ (by omega)]
theorem strT_len {t : List Row} {p : Int} {r : Row} (h0 : 0 ≤ p) (h1 : p < t.length) : (strT t p r).length = t.length := by
  rw [strT_is h0]
  simp
  omega
theorem strT_tp {t : List Row} {w : Nat} {p : Int} {r : Row} (h : TpOk t w) (hr : isRow r (w : Int) = true) (h0 : 0 ≤ p) (h1 : p < t.length) : TpOk (strT t p r) w := by
  refine ⟨by rw [strT_len h0 h1]; exact h.len, fun q hq => ?_⟩
  rw [strT_is h0] at hq
  rcases List.mem_append.mp hq with hq | hq
  · rcases List.mem_append.mp hq with hq | hq
    · exact h.row q (List.mem_of_mem_take hq)
    · rw [List.mem_singleton.mp hq]; exact hr
  · exact h.row q (List.mem_of_mem_drop hq)
theorem isRow_dots {w : Nat} (hw : w ≤ 4) : isRow (List.replicate w 46) (w : Int) = true := by
  have : w = 0 ∨ w = 1 ∨ w = 2 ∨ w = 3 ∨ w = 4 := by omega
  rcases this with rfl | rfl | rfl | rfl | rfl <;> decide
def fedT (w : Nat) (t : List Row) (k : Nat) : List Row := t ++ List.replicate k (List.replicate w 46)
theorem fedT_holes {w : Nat} {t : List Row} {k : Nat} : holesOf (fedT w t k) = holesOf t := by
  unfold fedT holesOf
  rw [List.map_append, List.sum_append, List.map_replicate]
  have : (List.replicate w 46).count 111 = 0 := List.count_eq_zero.mpr fun h => by
    have := List.eq_of_mem_replicate h
    omega
  rw [this]
  have : (List.replicate k (((0 : Nat) : Int))).sum = 0 := by
    induction k with
    | zero => rfl
    | succ k ih => rw [List.replicate_succ, List.sum_cons, ih]; rfl
  rw [this]
  omega
theorem fedT_tp {w : Nat} {t : List Row} {k : Nat} (hw : w ≤ 4) (h : TpOk t w) (hk : t.length + k ≤ 30) : TpOk (fedT w t k) w := by
  refine ⟨by unfold fedT; rw [List.length_append, List.length_replicate]; exact hk, fun q hq => ?_⟩
  rcases List.mem_append.mp hq with hq | hq
  · exact h.row q hq
  · rw [List.eq_of_mem_replicate hq]; exact isRow_dots hw
def doneA (t : List Row) (n : Int) : Int := if (0 : Int) < t.length then n / 5 % t.length else 0
def doneRs (w : Nat) (t : List Row) (n : Int) : List Row := (rowsL (w : Int)).filter fun q => goes (t.getD (doneA t n).toNat []) q
def doneR (w : Nat) (t : List Row) (n : Int) : Row := (doneRs w t n).getD (n / 40 % (doneRs w t n).length).toNat []
def doneF (t : List Row) (n : Int) : Bool := (decide (n % 5 = 0) && decide ((t.length : Int) < 8)) || decide ((t.length : Int) = 0)
def doneT (rd : Dic) (w : Nat) (t : List Row) (n : Int) (x : Row) : List Row :=
  if doneF t n then fedT w t (1 + n / 5 % 3).toNat
  else if n % 5 < 3 then wrT rd t x
  else if n % 5 = 3 then strT t (doneA t n) (doneR w t n)
  else strT t (doneA t n) (List.replicate w 111)
theorem doneA_ok {t : List Row} {n : Int} (h : doneF t n = false) : 0 ≤ doneA t n ∧ doneA t n < t.length := by
  unfold doneF at h
  simp only [Bool.or_eq_false_iff, decide_eq_false_iff_not] at h
  have hl : (0 : Int) < t.length := by omega
  unfold doneA
  rw [if_pos hl]
  exact ⟨Int.emod_nonneg _ (by omega), Int.emod_lt_of_pos _ hl⟩
theorem getD_row {t : List Row} {w : Nat} {p : Int} (h : TpOk t w) (h0 : 0 ≤ p) (h1 : p < t.length) : isRow (t.getD p.toNat []) (w : Int) = true := by
  rw [List.getD_eq_getElem?_getD, List.getElem?_eq_getElem (by omega)]
  exact h.row _ (List.getElem_mem _)
theorem doneRs_pos {t : List Row} {w : Nat} {n : Int} (hw : w ≤ 4) (h : TpOk t w) (hf : doneF t n = false) : 0 < (doneRs w t n).length := by
  obtain ⟨h0, h1⟩ := doneA_ok hf
  have hr := getD_row h h0 h1
  have hm : List.replicate w 111 ∈ doneRs w t n := by
    unfold doneRs
    rw [List.mem_filter]
    refine ⟨mem_rowsL hw (isRow_all_o hw), ?_⟩
    have := goes_all_o (t.getD (doneA t n).toNat [])
    rwa [isRow_len hr] at this
  exact List.length_pos_of_mem hm
theorem doneR_ok {t : List Row} {w : Nat} {n : Int} (hw : w ≤ 4) (h : TpOk t w) (hf : doneF t n = false) : isRow (doneR w t n) (w : Int) = true ∧ goes (t.getD (doneA t n).toNat []) (doneR w t n) = true := by
  have hp := doneRs_pos hw h hf
  have h0 := Int.emod_nonneg (n / 40) (show ((doneRs w t n).length : Int) ≠ 0 by omega)
  have h1 := Int.emod_lt_of_pos (n / 40) (show (0 : Int) < (doneRs w t n).length by omega)
  have hm : doneR w t n ∈ doneRs w t n := by
    unfold doneR
    rw [List.getD_eq_getElem?_getD, List.getElem?_eq_getElem (show (n / 40 % (doneRs w t n).length).toNat < (doneRs w t n).length by omega)]
    exact List.getElem_mem _
  have hm2 := hm
  unfold doneRs at hm2
  rw [List.mem_filter] at hm2
  exact ⟨rowsL_row _ _ hm2.1, hm2.2⟩
theorem doneT_ok {rd : Dic} {w : Nat} {t : List Row} {n : Int} {x : Row} (p0 : RdOk rd w) (p1 : TpOk t w) (h10 : t.length ≤ 10) : TpOk (doneT rd w t n x) w ∧ (doneT rd w t n x).length ≤ 10 := by
  have hw := p0.w4
  cases hf : doneF t n with
  | true =>
    unfold doneT
    rw [hf, if_pos rfl]
    have hk := Int.emod_nonneg (n / 5) (show (3 : Int) ≠ 0 by decide)
    have hk2 := Int.emod_lt_of_pos (n / 5) (show (0 : Int) < 3 by decide)
    have hl : t.length ≤ 7 := by
      unfold doneF at hf
      simp only [Bool.or_eq_true, Bool.and_eq_true, decide_eq_true_eq] at hf
      omega
    refine ⟨fedT_tp hw p1 (by omega), ?_⟩
    unfold fedT
    rw [List.length_append, List.length_replicate]
    omega
  | false =>
    obtain ⟨h0, h1⟩ := doneA_ok hf
    unfold doneT
    rw [hf, if_neg (by decide)]
    split
    · obtain ⟨q1, q2⟩ := wrT_tp (x := x) p0 p1
      exact ⟨q1, by omega⟩
    · split
      · exact ⟨strT_tp p1 (doneR_ok hw p1 hf).1 h0 h1, by rw [strT_len h0 h1]; exact h10⟩
      · exact ⟨strT_tp p1 (isRow_all_o hw) h0 h1, by rw [strT_len h0 h1]; exact h10⟩
theorem str_taken {t : List Row} {p : Int} {r : Row} (h0 : 0 ≤ p) (h1 : p < t.length) : takenL t (strT t p r) = holesOf (strT t p r) - holesOf t := taken_holes (strT_len h0 h1).symm
section
variable {F : Addr → Prop} {Z : Hp → (Addr → Prop) → Prop} {ρ ρ' : List Sl} {σ : L2.St} {H : Hp} {M : Addr → Prop} {d : Dt} {t : TT} {ta tb : TE} {b : Bool}
theorem xv_if (ok : Ok F Z ρ σ H M) (h : EvT t σ H b) (h1 : b = true → ∀ M' H', Ok F Z ρ σ H' M' → XV ta F Z ρ' σ H' d) (h2 : b = false → ∀ M' H', Ok F Z ρ σ H' M' → XV tb F Z ρ' σ H' d) : XV (tIf t ta tb) F Z ρ' σ H d := fun Q q => h H (Ex.refl _) _ fun H1 e => by
  cases b with
  | true => exact (if_pos rfl).mpr (h1 rfl _ _ (ok.ex e) Q q)
  | false => exact (if_neg (by decide)).mpr (h2 rfl _ _ (ok.ex e) Q q)
theorem xv_ifY (h : XT t F Z ρ σ H b) (h1 : b = true → ∀ M' H', Ok F Z ρ σ H' M' → EvR M' ta σ H' d) (h2 : b = false → ∀ M' H', Ok F Z ρ σ H' M' → EvR M' tb σ H' d) : XV (tIf t ta tb) F Z ρ σ H d := fun Q q => h _ fun H1 M1 ok => by
  cases b with
  | true => exact (if_pos rfl).mpr (h1 rfl _ _ ok H1 (Ex.refl _) Q fun v H2 e r => q v H2 M1 (ok.ex e) r)
  | false => exact (if_neg (by decide)).mpr (h2 rfl _ _ ok H1 (Ex.refl _) Q fun v H2 e r => q v H2 M1 (ok.ex e) r)
end
theorem cutG_len {α : Type} (t : List α) (lo hi : Option Int) : (cutG t lo hi).length ≤ t.length := by
  unfold cutG
  rw [List.length_take, List.length_drop]
  omega
theorem goes_dots : ∀ (r : Row), goes r (List.replicate r.length 46) = !decide (111 ∈ r)
  | [] => rfl
  | a :: r => by
    rw [List.length_cons, List.replicate_succ, goes_cons, goes_dots r]
    by_cases h : a = 111
    · subst h; simp
    · have h2 : ¬ 111 = a := fun e => h e.symm
      simp [h, h2]
theorem eq_dots {r : Row} {w : Nat} (h : isRow r (w : Int) = true) (hn : 111 ∉ r) : r = List.replicate w 46 := by
  rw [List.eq_replicate_iff]
  refine ⟨isRow_len h, fun b hb => ?_⟩
  unfold isRow at h
  rw [Bool.and_eq_true, List.all_eq_true] at h
  have := h.2 b hb
  simp at this
  rcases this with rfl | rfl
  · exact absurd hb hn
  · rfl
theorem last_facts {t : List Row} (h : 0 < t.length) : ∃ r, t.getLast? = some r ∧ t.getD ((t.length : Int) - 1).toNat [] = r ∧ strT t ((t.length : Int) - 1) r = t ∧ r ∈ t := by
  rcases List.eq_nil_or_concat t with rfl | ⟨u, r, rfl⟩
  · exact absurd h (by simp)
  · rw [List.concat_eq_append]
    refine ⟨r, by simp, ?_, ?_, by simp⟩
    · rw [show (((u ++ [r]).length : Int) - 1).toNat = u.length by rw [List.length_append, List.length_singleton]; omega]
      simp
    · unfold strT
      rw [List.length_append, List.length_singleton, show (((u.length + 1 : Nat) : Int) - 1) = (u.length : Int) by omega, cutG_to _ (by omega), cutG_from _ (by omega), show ((u.length : Int) + 1).toNat = u.length + 1 by omega]
      simp
theorem ev_inTI {K : PySem.W.Frag} {σ : L2.St} {H : Hp} {ta tb : TE} {i : Int} {l : List Int} (ha : Ev ta σ H (.int i)) (hb : EvU tb σ H (l.map V.int)) : Ev (tOp (rIn K false) ta tb) σ H (.bl (decide (i ∈ l))) := (inV_VI i l) ▸ ev_inU ha hb rfl (flat_Ints l)
theorem taken_self (t : List Row) : takenL t t = 0 := by
  rw [taken_holes rfl]; omega
theorem all_dots {w : Nat} : (List.replicate (w : Int).toNat [46]).flatten = List.replicate w 46 := by simp
theorem ev_isNoN {M : Addr → Prop} {σ : L2.St} {H : Hp} {ta tb : TE} {s : Sh} {ds : List Dt} (h : EvN M ta σ H s ds) (hb : Ev tb σ H .non) : Ev (tOp (rIsNo false) ta tb) σ H (.bl false) := fun H1 e Q q =>
  h H1 e _ fun v H2 e2 ⟨a, vs, hv, _⟩ => hb H2 (e.trans e2) _ fun H3 e3 => by
    subst hv
    exact ⟨rfl, q H3 (e2.trans e3)⟩
theorem tx_cut1 {x : Row} (h : TxOk x) : TxOk (cutG x (some 1) none) := by rw [cutG_from _ (by decide)]; exact h.drop _
theorem tx_cut0 {x : Row} (h : TxOk x) : TxOk (cutG x none (some 1)) := by rw [cutG_to _ (by decide)]; exact h.take _
theorem tp_nil {w : Nat} : TpOk [] w := ⟨by decide, fun r h => nomatch h⟩
end Ho
namespace Ho
open PySem PySem.Spec PyProof.Rows L2 Evl
local macro_rules | `(tactic| walk_at "sel") => `(tactic| first | exact ⟨rfl, rfl⟩ | exact Or.inl ⟨rfl, rfl⟩ | exact Or.inr ⟨rfl, rfl⟩ | exact Or.inr (Or.inl ⟨rfl, rfl⟩) | exact Or.inr (Or.inr ⟨rfl, rfl⟩) | exact Or.inr (Or.inr (Or.inl ⟨rfl, rfl⟩)) | exact Or.inr (Or.inr (Or.inr ⟨rfl, rfl⟩)))
local macro_rules | `(tactic| walk_at "exs") => `(tactic| first | assumption | exact Ex.refl _ | (refine' Ex.trans ?exa ?exb; (case' exb => assumption); walk_at "exs"))
local macro_rules | `(tactic| walk_at "fact") => `(tactic| first | assumption | exact slof (by assumption) | exact stof (by assumption) | (refine' exl ?fe ?fh; (case' fh => first | assumption | exact slof (by assumption)); walk_at "exs") | (refine' ext ?fe ?fh; (case' fh => first | assumption | exact stof (by assumption)); walk_at "exs") | (refine' exl ?fe ?fh; (case' fh => first | solve_by_elim | exact slof (by solve_by_elim)); walk_at "exs"))
local macro_rules | `(tactic| walk_at "facth") => `(tactic| first | assumption | (refine' exh ?fe ?fh; (case' fh => assumption); walk_at "exs") | (refine' exh ?fe ?fh; (case' fh => solve_by_elim); walk_at "exs"))
local macro_rules | `(tactic| walk_at "facta") => `(tactic| first | assumption | (refine' AG.ex ?fm ?fe ?fh; (case' fh => assumption); (case' fm => first | exact mkL | exact mkT); walk_at "exs"))
local macro_rules | `(tactic| walk_at "adm") => `(tactic| first | exact nin0 | exact nin1 (by first | assumption | exact Ne.symm (by assumption)) | exact nin2 (by first | assumption | exact Ne.symm (by assumption)) (by first | assumption | exact Ne.symm (by assumption)))
local macro_rules | `(tactic| walk_at "side") => `(tactic| first | assumption | omega | decide | (simp only [List.length_append, List.length_cons, List.length_nil, List.length_map, List.length_drop, List.length_take, List.length_range, List.mem_range, decide_eq_true_eq, Bool.and_eq_true] at *; omega) | trivial | solve_by_elim | (simp only [Bool.not_eq_true', Bool.not_eq_false', decide_eq_false_iff_not, decide_eq_true_eq, Bool.and_eq_true, Bool.or_eq_false_iff, Decidable.not_not, List.length_append, List.length_cons, List.length_nil, List.length_map, List.length_drop, List.length_take, List.length_range] at *; omega))
local macro_rules | `(tactic| walk_at "len") => `(tactic| first | assumption | omega | (simp only [List.length_zip, List.length_map, List.length_range, List.length_zipIdx, List.length_append, List.length_cons, List.length_nil, List.length_drop, List.length_take]; omega) | solve_by_elim)
local macro_rules | `(tactic| walk_at "rng") => `(tactic| first | omega | (constructor <;> omega) | assumption)
local macro_rules | `(tactic| walk_at "cmul") => `(tactic| first | exact .inr ⟨by decide, by decide⟩ | exact .inl ⟨by decide, by decide⟩ | exact .inl ⟨by omega, by omega⟩ | exact .inr ⟨by omega, by omega⟩)
local macro_rules | `(tactic| walk_at "cdiv") => `(tactic| first | exact ⟨by decide, by decide⟩ | exact ⟨by omega, by omega⟩)
local macro_rules | `(tactic| walk_at "cpow") => `(tactic| first | exact ⟨by decide, by decide, by decide⟩ | exact ⟨by omega, by omega, by decide⟩)
variable {P : PySem.Program} {wW : World} {K : PySem.W.Frag} {mg : Str → Option Value} {base : Heap}
def R__law_draw (K : PySem.W.Frag) : List V → Hp → V → Prop := fun vs H z => ∃ (c m i : Int), AllP [isV (.int c), isV (.int m), isV (.int i)] vs H ∧ ((0 < i) ∧ True) ∧ z = .int (draw c m i)
def sp__law_draw (K : PySem.W.Frag) : Sp := spV  3 (R__law_draw K)
theorem ev__law_draw {K : PySem.W.Frag} {σ : L2.St} {H : Hp} {tr : TA} {E : XK} {c m i : Int} (h : EvAG tr σ H [isV (.int c), isV (.int m), isV (.int i)]) (p0 : 0 < i) : Ev (tCallO (sp__law_draw K) E tr) σ H (.int (draw c m i)) := ev_callG h rfl fun vs H1 e hp => ⟨c, m, i, hp, ⟨p0, trivial⟩, rfl⟩
theorem ok__law_draw (T : Txt K mg) : OkF P wW K mg base CX0 "_law_draw" 1 (sp__law_draw K) := by
  refine OkF.of T.d__law_draw sc__law_draw (fun vs H Q E h => h.1) (fun f cdv A outer s H vs Q E hr h => ?_)
  obtain ⟨-, z, H0, e0, ⟨c, m, i, ⟨v0, r0, rfl, rfl, ⟨v1, r1, rfl, rfl, ⟨v2, r2, rfl, rfl, rfl⟩⟩⟩, ⟨p0, -⟩, rfl⟩, k⟩ := h
  clear e0 H0
  have hu := hu_of hr
  refine ⟨_, (pss_cons (ps_set (i := 3) sc__law_draw.nd rfl (.inl rfl) (pe_tup (pa_cons pe_int (pa_cons pe_int (pa_cons pe_int (pa_cons pe_int (pa_cons pe_int (pa_cons pe_int (pa_cons pe_int (pa_cons pe_int (pa_cons pe_int (pa_cons pe_int (pa_cons pe_int (pa_cons pe_int (pa_cons pe_int (pa_cons pe_int (pa_cons pe_int (pa_cons pe_int pa_nil))))))))))))))))))
 (pss_one (ps_ret (pe_op op_mod (pe_op op_mod (pe_op op_add (pe_op op_mul (pv 0) pe_int) (pe_op op_mul (pv 1) pe_int)) (pe_ix (kix_tup (K := K)) (pv 3) (pe_op op_mod (pv 1) pe_int) (fun _ _ => rfl))) (pv 2))))), ?_⟩
  refine q_asgU (eu_tup (ea_cons ev_c (ea_cons ev_c (ea_cons ev_c (ea_cons ev_c (ea_cons ev_c (ea_cons ev_c (ea_cons ev_c (ea_cons ev_c (ea_cons ev_c (ea_cons ev_c (ea_cons ev_c (ea_cons ev_c (ea_cons ev_c (ea_cons ev_c (ea_cons ev_c (ea_cons ev_c ea_nil)))))))))))))))) (by simp)) fun p H1 hp e1 hP => ?_
  have hT : ST K H1 p (Ints primes) := stof hP
  have h16 : 0 ≤ m % 16 ∧ m % 16 < 16 := ⟨Int.emod_nonneg _ (by decide), Int.emod_lt_of_pos _ (by decide)⟩
  have hpos : 0 < primes.getD (m % 16).toNat 0 := primes_pos _ (by omega)
  have h16a := h16.1
  have h16b : m % 16 < (primes.length : Int) := h16.2
  exact s_ret2 (Ev.is (ev_mod (ev_mod (ev_add (ev_mul (ev_var rfl) ev_c (by walk_at "cmul")) (ev_mul (ev_var rfl) ev_c (by walk_at "cmul"))) (ev_ixT (0 : Int) (ev_var rfl) (by walk_at "fact") (ev_mod (ev_var rfl) ev_c (by walk_at "side")) (by walk_at "side") (by walk_at "side")) (by walk_at "side")) (ev_var rfl) (by walk_at "side")) rfl) (RetV.ex k e1)
def R__law_cell_at (K : PySem.W.Frag) : List V → Hp → V → Prop := fun vs H z => ∃ (ns : List Int) (m : Int), AllP [isL K (Ints ns), isV (.int m)] vs H ∧ ((0 ≤ m) ∧ True) ∧ z = .int (cellAt ns m)
def sp__law_cell_at (K : PySem.W.Frag) : Sp := spV  2 (R__law_cell_at K)
theorem ev__law_cell_at {K : PySem.W.Frag} {σ : L2.St} {H : Hp} {tr : TA} {E : XK} {ns : List Int} {m : Int} (h : EvAG tr σ H [isL K (Ints ns), isV (.int m)]) (p0 : 0 ≤ m) : Ev (tCallO (sp__law_cell_at K) E tr) σ H (.int (cellAt ns m)) := ev_callG h rfl fun vs H1 e hp => ⟨ns, m, hp, ⟨p0, trivial⟩, rfl⟩
theorem ok__law_cell_at (T : Txt K mg) : OkF P wW K mg base CX0 "_law_cell_at" 2 (sp__law_cell_at K) := by
  have O__law_draw : OkF P wW K mg base CX0 "_law_draw" 1 (sp__law_draw K) := ok__law_draw T
  refine OkF.of T.d__law_cell_at sc__law_cell_at (fun vs H Q E h => h.1) (fun f cdv A outer s H vs Q E hr h => ?_)
  obtain ⟨-, z, H0, e0, ⟨ns, m, ⟨v0, r0, rfl, ⟨a0, rfl, q0⟩, ⟨v1, r1, rfl, rfl, rfl⟩⟩, ⟨p0, -⟩, rfl⟩, k⟩ := h
  have h0 := exl e0 q0
  clear q0
  clear e0 H0
  have hu := hu_of hr
  refine ⟨_, (pss_cons (ps_if (pt_cmpR op_lt (pv 1) (pe_callB (kcb_lenQ (K := K)) (by rfl) T.z_len (by decide +kernel) (pa_cons (pv 0) pa_nil)) (nomark _))
  (pss_one (ps_ret (pe_callB cb_abs (by rfl) T.z_abs (by decide +kernel) (pa_cons (pe_ix (kix_list (K := K)) (pv 0) (pv 1) (fun _ _ => rfl)) pa_nil))))
  pss_nil)
 (pss_one (ps_ret (pe_callO O__law_draw hr (by rfl) pass0 (pa_cons (pe_op op_add (pe_callB cb_abs (by rfl) T.z_abs (by decide +kernel) (pa_cons (pe_callB (kcr_sum (K := K) rfl) (by rfl) T.z_sum (by decide +kernel) (pa_cons (pv 0) pa_nil)) pa_nil)) (pe_op op_mul pe_int (pv 1))) (pa_cons (pv 1) (pa_cons pe_int pa_nil))))))), ?_⟩
  refine q_when (et_test (ev_lt (ev_var rfl) (ev_lenQ (q_old (ev_var rfl) (by walk_at "fact"))))) (fun hb H1 e1 => ?_) (fun hb H1 e1 => ?_)
  · have hm : m < (ns.length : Int) := of_decide_eq_true hb
    refine s_ret2 (Ev.is (ev_abs (ev_ixQ (0 : Int) (q_old (ev_var rfl) (by walk_at "fact")) (ev_var rfl) (by walk_at "side") (by walk_at "side"))) ?_) (RetV.ex k e1)
    unfold cellAt
    rw [hb]
    rfl
  · refine s_ret2 (Ev.is (ev__law_draw (ag_V (ev_add (ev_abs (ev_sumV (q_old (ev_var rfl) (by walk_at "fact")))) (ev_mul ev_c (ev_var rfl) (by walk_at "cmul"))) (ag_V (ev_var rfl) (ag_V ev_c ag_nil))) (by walk_at "side")) ?_) (RetV.ex k e1)
    unfold cellAt
    rw [hb]
    rfl
def R__law_digits (K : PySem.W.Frag) : List V → Hp → List V → Prop := fun vs H z => ∃ (ns : List Int) (m n b : Int), AllP [isL K (Ints ns), isV (.int m), isV (.int n), isV (.int b)] vs H ∧ ((0 ≤ m) ∧ (0 ≤ n) ∧ (n ≤ 1000) ∧ (0 < b) ∧ (b < 1073741824) ∧ True) ∧ z = Ints (digits ns m n b)
def sp__law_digits (K : PySem.W.Frag) : Sp := spL  4 (R__law_digits K)
theorem ev__law_digits {K : PySem.W.Frag} {σ : L2.St} {H : Hp} {tr : TA} {E : XK} {ns : List Int} {m n b : Int} (h : EvAG tr σ H [isL K (Ints ns), isV (.int m), isV (.int n), isV (.int b)]) (p0 : 0 ≤ m) (p1 : 0 ≤ n) (p2 : n ≤ 1000) (p3 : 0 < b) (p4 : b < 1073741824) : EvL (tCallO (sp__law_digits K) E tr) σ H (Ints (digits ns m n b)) := el_callG h rfl fun vs H1 e hp => ⟨ns, m, n, b, hp, ⟨p0, p1, p2, p3, p4, trivial⟩, rfl⟩
theorem ok__law_digits (T : Txt K mg) : OkF P wW K mg base CX0 "_law_digits" 3 (sp__law_digits K) := by
  have O__law_cell_at : OkF P wW K mg base CX0 "_law_cell_at" 2 (sp__law_cell_at K) := ok__law_cell_at T
  have O__law_draw : OkF P wW K mg base CX0 "_law_draw" 1 (sp__law_draw K) := ok__law_draw T
  refine OkF.of T.d__law_digits sc__law_digits (fun vs H Q E h => h.1) (fun f cdv A outer s H vs Q E hr h => ?_)
  obtain ⟨-, z, H0, e0, ⟨ns, m, n, b, ⟨v0, r0, rfl, ⟨a0, rfl, q0⟩, ⟨v1, r1, rfl, rfl, ⟨v2, r2, rfl, rfl, ⟨v3, r3, rfl, rfl, rfl⟩⟩⟩⟩, ⟨p0, p1, p2, p3, p4, -⟩, rfl⟩, k⟩ := h
  have h0 := exl e0 q0
  clear q0
  clear e0 H0
  have hu := hu_of hr
  refine ⟨_, (pss_cons (ps_par (i := 5) (j := 6) rfl sc__law_digits.nd rfl rfl (by decide) rfl rfl (pa_cons (pe_callO O__law_cell_at hr (by rfl) pass0 (pa_cons (pv 0) (pa_cons (pv 1) pa_nil))) (pa_cons (pe_lst pa_nil) pa_nil)) (by rfl))
 (pss_cons (ps_set (i := 7) sc__law_digits.nd rfl (.inl rfl) (pe_op op_sub (pv 5) (pe_op op_pow pe_int pe_int)))
 (pss_cons (ps_for PassesOwn.never rfl (pi_range1 rfl T.z_range (pa_cons (pv 2) pa_nil)) (pg_name (i := 9) sc__law_digits.nd rfl (.inl rfl))
  (pss_one (ps_if (pt_cmpR op_ge (pv 5) (pe_op op_pow pe_int pe_int) (nomark _))
  (pss_cons (ps_expr (pe_bm PySem.F.plainAttrs_list PySem.F.slot_list_append PySem.F.type_list_append mt_append (pv 6) (pa_cons (pe_op op_mod (pv 7) (pv 3)) pa_nil)))
 (pss_one (ps_set (i := 7) sc__law_digits.nd rfl (.inl rfl) (pe_op op_fdiv (pv 7) (pv 3)))))
  (pss_cons (ps_set (i := 4) sc__law_digits.nd rfl (.inl rfl) (pe_callO O__law_draw hr (by rfl) pass0 (pa_cons (pe_op op_mul (pe_op op_add (pv 5) (pe_op op_mul pe_int (pv 9))) (pe_op op_add (pe_op op_add (pv 5) (pe_op op_mul pe_int (pv 9))) pe_int)) (pa_cons (pe_op op_add (pe_op op_mod (pv 9) pe_int) pe_int) (pa_cons pe_int pa_nil)))))
 (pss_cons (ps_set (i := 8) sc__law_digits.nd rfl (.inl rfl) (pe_callO O__law_draw hr (by rfl) pass0 (pa_cons (pe_op op_add (pe_op op_mul (pe_op op_add (pv 5) (pe_op op_mul pe_int (pv 9))) (pe_op op_add (pv 5) pe_int)) (pe_op op_mul pe_int (pv 9))) (pa_cons (pe_op op_add (pe_op op_mod (pv 9) pe_int) pe_int) (pa_cons pe_int pa_nil)))))
 (pss_one (ps_expr (pe_bm PySem.F.plainAttrs_list PySem.F.slot_list_append PySem.F.type_list_append mt_append (pv 6) (pa_cons (pe_op op_mod (pe_op op_add (pe_op op_mul (pv 4) pe_int) (pv 8)) (pv 3)) pa_nil)))))))))
 (pss_one (ps_ret (pv 6)))))), ?_⟩
  have hc0 := cellAt_nn ns m
  have hten : (10 : Int) ^ (18 : Int).toNat = 1000000000000000000 := by decide
  refine q_par (ag_V (ev__law_cell_at (ag_L (q_old (ev_var rfl) (by walk_at "fact")) (ag_V (ev_var rfl) ag_nil)) (by walk_at "side")) (ag_NL el_nil ag_nil)) fun v1 v2 H1 e1 h1 h2 => ?_
  obtain rfl := h1
  obtain ⟨p, rfl, hp0, hp⟩ := h2
  refine q_asg (Ev.is (ev_sub (ev_var rfl) (ev_pow ev_c ev_c (by walk_at "cpow"))) (by rw [hten])) fun H2 e2 => ?_
  refine q_for (s := [p]) (i_rng1 (ea_cons (ev_var rfl) ea_nil) (by walk_at "rng")) (by intro a ha; rw [List.mem_singleton.mp ha, e2 _ _ hp]; simp) fun H3 e3 => ⟨fun i σ' H' => ∃ x y z L, σ' = [some (.ref a0), some (.int m), some (.int n), some (.int b), x, some (.int (cellAt ns m)), some (.ref p), some (.int L), y, z] ∧
      (1000000000000000000 ≤ cellAt ns m → L = leftAt (cellAt ns m - 1000000000000000000) b i) ∧ Xb [p] H3 H' ∧ H' p = some (.lst (Ints ((List.range i).map (digit (cellAt ns m) b)))),
    ⟨none, none, none, _, rfl, fun _ => rfl, Xb.refl _ _, e3 _ _ (e2 _ _ hp)⟩, fun i σ' H' ⟨_, _, _, _, _, _, x, _⟩ => x, ?_, ?_⟩
  · rintro i t σ' H4 H5 hi ⟨x, y, z, L, rfl, hL, hx, hq⟩ e5
    have hit : t = i ∧ i < n.toNat := by
      obtain ⟨h1, h2⟩ := List.getElem?_eq_some_iff.mp hi
      rw [List.length_range] at h1
      rw [List.getElem_range] at h2
      exact ⟨h2.symm, h1⟩
    obtain ⟨rfl, hlt⟩ := hit
    have hq5 := e5 _ _ hq
    have hx5 := hx.ex e5
    have step : (List.range (t + 1)).map (digit (cellAt ns m) b) = (List.range t).map (digit (cellAt ns m) b) ++ [digit (cellAt ns m) b t] := by
      rw [List.range_succ, List.map_append]
      rfl
    have hsz : (Ints ((List.range t).map (digit (cellAt ns m) b))).length < 100000 := by
      rw [List.length_map, List.length_map, List.length_range]
      omega
    refine s_if (EvT.is (et_test (ev_ge (ev_var rfl) (ev_pow ev_c ev_c (by walk_at "cpow")))) (by rw [hten])) (fun hb H6 e6 => ?_) (fun hb H6 e6 => ?_)
    · have hbig : 1000000000000000000 ≤ cellAt ns m := of_decide_eq_true hb
      refine q_app (e6 _ _ hq5) (ev_var rfl) (ev_mod (ev_var rfl) (ev_var rfl) (by walk_at "side")) hsz fun H7 e7 => ?_
      refine s_asg (ev_fdiv (ev_var rfl) (ev_var rfl) (by walk_at "cdiv")) fun H8 e8 => ⟨_, _, _, _, rfl, fun _ => by rw [hL hbig]; rfl, ((hx5.ex (e6.trans e7)).upd (by simp)).ex e8, ?_⟩
      rw [step]
      refine e8 _ _ ?_
      rw [upd_same]
      unfold Ints
      rw [List.map_append]
      congr 3
      unfold digit
      rw [if_pos hbig, hL hbig]
      rfl
    · have hsm : ¬ 1000000000000000000 ≤ cellAt ns m := of_decide_eq_false hb
      have hsm' : cellAt ns m < 1000000000000000000 := by omega
      have ht1 : (t : Int) < 1000 := by omega
      refine q_asg (ev__law_draw (ag_V (ev_mul (ev_add (ev_var rfl) (ev_mul ev_c (ev_var rfl) (by walk_at "cmul"))) (ev_add (ev_add (ev_var rfl) (ev_mul ev_c (ev_var rfl) (by walk_at "cmul"))) ev_c) (by walk_at "cmul")) (ag_V (ev_add (ev_mod (ev_var rfl) ev_c (by walk_at "side")) ev_c) (ag_V ev_c ag_nil))) (by walk_at "side")) fun H7 e7 => ?_
      refine q_asg (ev__law_draw (ag_V (ev_add (ev_mul (ev_add (ev_var rfl) (ev_mul ev_c (ev_var rfl) (by walk_at "cmul"))) (ev_add (ev_var rfl) ev_c) (by walk_at "cmul")) (ev_mul ev_c (ev_var rfl) (by walk_at "cmul"))) (ag_V (ev_add (ev_mod (ev_var rfl) ev_c (by walk_at "side")) ev_c) (ag_V ev_c ag_nil))) (by walk_at "side")) fun H8 e8 => ?_
      refine s_app (e8 _ _ (e7 _ _ (e6 _ _ hq5))) (ev_var rfl) (ev_mod (ev_add (ev_mul (ev_var rfl) ev_c (by walk_at "cmul")) (ev_var rfl)) (ev_var rfl) (by walk_at "side")) hsz fun H9 e9 => ⟨_, _, _, _, rfl, fun h => absurd h hsm, (hx5.ex (((e6.trans e7).trans e8).trans e9)).upd (by simp), ?_⟩
      rw [step, upd_same]
      unfold Ints
      rw [List.map_append]
      congr 3
      unfold digit
      rw [if_neg hsm]
      rfl
  · rintro σ' H4 ⟨x, y, z, L, rfl, hL, hx, hq⟩
    have eH : Ex H H4 := Ex.xb0 ((e1.trans e2).trans e3) hx (fun a ha => by rw [List.mem_singleton.mp ha]; exact hp0)
    rw [List.length_range] at hq
    exact s_ret (ev_var rfl) fun H5 e5 => k p H5 hp0 (eH.trans e5) (e5 _ _ hq)
def R__law_pool (K : PySem.W.Frag) : List V → Hp → List V → Prop := fun vs H z => ∃ (ns : List Int) (m : Int), AllP [isL K (Ints ns), isV (.int m)] vs H ∧ ((0 ≤ m) ∧ True) ∧ z = Txts (pool ns m)
def sp__law_pool (K : PySem.W.Frag) : Sp := spL  2 (R__law_pool K)
theorem ev__law_pool {K : PySem.W.Frag} {σ : L2.St} {H : Hp} {tr : TA} {E : XK} {ns : List Int} {m : Int} (h : EvAG tr σ H [isL K (Ints ns), isV (.int m)]) (p0 : 0 ≤ m) : EvL (tCallO (sp__law_pool K) E tr) σ H (Txts (pool ns m)) := el_callG h rfl fun vs H1 e hp => ⟨ns, m, hp, ⟨p0, trivial⟩, rfl⟩
theorem ok__law_pool (T : Txt K mg) : OkF P wW K mg base CX0 "_law_pool" 4 (sp__law_pool K) := by
  have O__law_digits : OkF P wW K mg base CX0 "_law_digits" 3 (sp__law_digits K) := ok__law_digits T
  refine OkF.of T.d__law_pool sc__law_pool (fun vs H Q E h => h.1) (fun f cdv A outer s H vs Q E hr h => ?_)
  obtain ⟨-, z, H0, e0, ⟨ns, m, ⟨v0, r0, rfl, ⟨a0, rfl, q0⟩, ⟨v1, r1, rfl, rfl, rfl⟩⟩, ⟨p0, -⟩, rfl⟩, k⟩ := h
  have h0 := exl e0 q0
  clear q0
  clear e0 H0
  have hu := hu_of hr
  refine ⟨_, (pss_one (ps_ret (pe_lc (own := [("_law_one", 2)]) (g := gName 2) rfl sc__law_pool.nd (kpi_list (K := K) (pe_callO O__law_digits hr (by rfl) pass0 (pa_cons (pv 0) (pa_cons (pv 1) (pa_cons pe_int (pa_cons pe_int pa_nil)))))) (blkOk_by (N := N__law_pool) (sc := defScope s__law_pool) (by decide +kernel)) (fun _ _ _ _ _ => (pg_name (i := 2) sc__law_pool.nd rfl (.inl rfl))) (fun _ _ _ _ _ => pts_nil) (fun _ _ _ _ _ => (pe_ix ix_str pe_str (pv 2) (fun _ _ => rfl)))))), ?_⟩
  have hd := digits_mem (ns := ns) (k := m) (m := 3) (b := 26) (by decide)
  have hd0 : ∀ d ∈ digits ns m 3 26, 0 ≤ d := fun d h => (hd d h).1
  have hd1 : ∀ d ∈ digits ns m 3 26, d < (([97, 98, 99, 100, 101, 102, 103, 104, 105, 106, 107, 108, 109, 110, 111, 112, 113, 114, 115, 116, 117, 118, 119, 120, 121, 122] : Row).length : Int) := fun d h => (hd d h).2
  have hl : (digits ns m 3 26).length ≤ 40000 := by rw [digits_len]; decide
  refine s_retL2 (EvL.is (el_lc1 (i_list (qa_new (ev__law_digits (ag_L (q_old (ev_var rfl) (by walk_at "fact")) (ag_V (ev_var rfl) (ag_V ev_c (ag_V ev_c ag_nil)))) (by walk_at "side") (by walk_at "side") (by walk_at "side") (by walk_at "side") (by walk_at "side")))) (by walk_at "len") (fun _ => wipe_one _ _ _) (fun x1 hx1 H101 e101 => (ev_ixS (ev_cS (l := [97, 98, 99, 100, 101, 102, 103, 104, 105, 106, 107, 108, 109, 110, 111, 112, 113, 114, 115, 116, 117, 118, 119, 120, 121, 122]) (by decide +kernel)) (ev_var rfl) (by walk_at "side") (by walk_at "side") (by walk_at "side")))) ?_) k
  unfold pool Txts
  rw [List.map_map]
  rfl
def R__law_rows (K : PySem.W.Frag) : List V → Hp → List V → Prop := fun vs H z => ∃ (w : Int), AllP [isV (.int w)] vs H ∧ ((0 ≤ w) ∧ (w ≤ 4) ∧ True) ∧ z = Txts (rowsL w)
def sp__law_rows (K : PySem.W.Frag) : Sp := spL  1 (R__law_rows K)
theorem ev__law_rows {K : PySem.W.Frag} {σ : L2.St} {H : Hp} {tr : TA} {E : XK} {w : Int} (h : EvAG tr σ H [isV (.int w)]) (p0 : 0 ≤ w) (p1 : w ≤ 4) : EvL (tCallO (sp__law_rows K) E tr) σ H (Txts (rowsL w)) := el_callG h rfl fun vs H1 e hp => ⟨w, hp, ⟨p0, p1, trivial⟩, rfl⟩
theorem ok__law_rows (T : Txt K mg) : OkF P wW K mg base CX0 "_law_rows" 1 (sp__law_rows K) := by
  refine OkF.of T.d__law_rows sc__law_rows (fun vs H Q E h => h.1) (fun f cdv A outer s H vs Q E hr h => ?_)
  obtain ⟨-, z, H0, e0, ⟨w, ⟨v0, r0, rfl, rfl, rfl⟩, ⟨p0, p1, -⟩, rfl⟩, k⟩ := h
  clear e0 H0
  have hu := hu_of hr
  refine ⟨_, (pss_cons (ps_set (i := 1) sc__law_rows.nd rfl (.inl rfl) (pe_lst pa_nil))
 (pss_cons (ps_for PassesOwn.never rfl (pi_range1 rfl T.z_range (pa_cons (pe_op op_shl pe_int (pv 0)) pa_nil)) (pg_name (i := 2) sc__law_rows.nd rfl (.inr rfl))
  (pss_one (ps_expr (pe_bm PySem.F.plainAttrs_list PySem.F.slot_list_append PySem.F.type_list_append mt_append (pv 1) (pa_cons (kpe_joinQ (K := K) pe_str (pe_lc (own := [("_law_at", 3)]) (g := gName 3) rfl sc__law_rows.nd (pi_range1 rfl T.z_range (pa_cons (pv 0) pa_nil)) (blkOk_by (N := N__law_rows) (sc := defScope s__law_rows) (by decide +kernel)) (fun _ _ _ _ _ => (pg_name (i := 3) sc__law_rows.nd rfl (.inl rfl))) (fun _ _ _ _ _ => pts_nil) (fun _ _ _ _ _ => (pe_ifExp (pt_cmpR op_eq (pe_op op_and (pe_op op_shr (pv 2) (pe_op op_sub (pe_op op_sub (pv 0) pe_int) (pv 3))) pe_int) pe_int (nomark _)) pe_str pe_str)))) pa_nil)))))
 (pss_one (ps_ret (pv 1))))), ?_⟩
  have h2 : (2 : Int) ^ w.toNat ≤ 16 := by
    have : w = 0 ∨ w = 1 ∨ w = 2 ∨ w = 3 ∨ w = 4 := by omega
    rcases this with rfl | rfl | rfl | rfl | rfl <;> decide
  have h2' : (0 : Int) ≤ 2 ^ w.toNat := two_pow_nn _
  have hfl : ∀ n : Nat, (((List.range w.toNat).map (bitC n w)).flatten).length ≤ 100000 := fun n => by
    have := rowN_len w n
    unfold rowN at this
    omega
  refine q_asgL el_nil fun p H1 hp0 e1 hp => ?_
  refine q_for (s := [p]) (i_rng1 (ea_cons (ev_shl ev_c (ev_var rfl) (by walk_at "cpow")) ea_nil) (by walk_at "rng")) (by intro a ha; rw [List.mem_singleton.mp ha, hp]; simp) fun H2 e2 => ⟨fun i σ' H' => ∃ x y, σ' = [some (.int w), some (.ref p), x, y] ∧ Xb [p] H2 H' ∧ H' p = some (.lst (Txts ((List.range i).map (rowN w)))),
    ⟨none, none, rfl, Xb.refl _ _, e2 _ _ hp⟩, fun i σ' H' ⟨_, _, _, x, _⟩ => x, ?_, ?_⟩
  · rintro i t σ' H3 H4 hi ⟨x, y, rfl, hx, hq⟩ e4
    have hit : t = i ∧ i < (1 * 2 ^ w.toNat : Int).toNat := by
      obtain ⟨h1, h2⟩ := List.getElem?_eq_some_iff.mp hi
      rw [List.length_range] at h1
      rw [List.getElem_range] at h2
      exact ⟨h2.symm, h1⟩
    obtain ⟨rfl, hlt⟩ := hit
    have hfl' := hfl t
    refine s_app (e4 _ _ hq) (ev_var rfl) (Ev.is (ev_joinQ (ev_cS lit_nil) (q_new (el_lc1 (i_rng1 (ea_cons (ev_var rfl) ea_nil) (by walk_at "rng")) (by walk_at "len") (fun _ => wipe_one _ _ _) (fun x2 hx2 H102 e102 => (ev_ifS (et_test (ev_eqI (ev_and (ev_shr (ev_var rfl) (ev_sub (ev_sub (ev_var rfl) ev_c) (ev_var rfl)) (by walk_at "side")) ev_c) ev_c)) (fun hb3 => (ev_cS lit_o)) (fun hb3 => (ev_cS lit_dot)))))) (by walk_at "len")) rfl) (by simp only [List.length_map, List.length_range]; omega) fun H5 e5 => ⟨_, _, rfl, ((hx.ex e4).ex e5).upd (by simp), ?_⟩
    rw [upd_same, List.range_succ, List.map_append]
    unfold Txts
    rw [List.map_append]
    rfl
  · rintro σ' H3 ⟨x, y, rfl, hx, hq⟩
    have eH : Ex H H3 := Ex.xb0 (e1.trans e2) hx (fun a ha => by rw [List.mem_singleton.mp ha]; exact hp0)
    rw [List.length_range] at hq
    exact s_ret (ev_var rfl) fun H5 e5 => k p H5 hp0 (eH.trans e5) (e5 _ _ hq)
def R__law_reader (K : PySem.W.Frag) : List V → Hp → List (Key × V) → Prop := fun vs H z => ∃ (ns : List Int) (m : Int) (pl : List Row) (least : Int), AllP [isL K (Ints ns), isV (.int m), isL K (Txts pl), isV (.int least)] vs H ∧ ((0 ≤ m) ∧ (pl.length = 3) ∧ (1 ≤ least) ∧ (least ≤ 4) ∧ True) ∧ z = DS (reader ns m pl least)
def sp__law_reader (K : PySem.W.Frag) : Sp := spD  4 (R__law_reader K)
theorem ev__law_reader {K : PySem.W.Frag} {σ : L2.St} {H : Hp} {tr : TA} {E : XK} {ns : List Int} {m : Int} {pl : List Row} {least : Int} (h : EvAG tr σ H [isL K (Ints ns), isV (.int m), isL K (Txts pl), isV (.int least)]) (p0 : 0 ≤ m) (p1 : pl.length = 3) (p2 : 1 ≤ least) (p3 : least ≤ 4) : EvD (tCallO (sp__law_reader K) E tr) σ H (DS (reader ns m pl least)) := ed_callG h rfl fun vs H1 e hp => ⟨ns, m, pl, least, hp, ⟨p0, p1, p2, p3, trivial⟩, rfl⟩
theorem ok__law_reader (T : Txt K mg) : OkF P wW K mg base CX0 "_law_reader" 4 (sp__law_reader K) := by
  have O__law_digits : OkF P wW K mg base CX0 "_law_digits" 3 (sp__law_digits K) := ok__law_digits T
  have O__law_rows : OkF P wW K mg base CX0 "_law_rows" 1 (sp__law_rows K) := ok__law_rows T
  refine OkF.of T.d__law_reader sc__law_reader (fun vs H Q E h => h.1) (fun f cdv A outer s H vs Q E hr h => ?_)
  obtain ⟨-, z, H0, e0, ⟨ns, m, pl, least, ⟨v0, r0, rfl, ⟨a0, rfl, q0⟩, ⟨v1, r1, rfl, rfl, ⟨v2, r2, rfl, ⟨a2, rfl, q2⟩, ⟨v3, r3, rfl, rfl, rfl⟩⟩⟩⟩, ⟨p0, p1, p2, p3, -⟩, rfl⟩, k⟩ := h
  have h0 := exl e0 q0
  clear q0
  have h2 := exl e0 q2
  clear q2
  clear e0 H0
  have hu := hu_of hr
  refine ⟨_, (pss_cons (ps_par (i := 5) (j := 6) rfl sc__law_reader.nd rfl rfl (by decide) rfl rfl (pa_cons (pe_callO O__law_digits hr (by rfl) pass0 (pa_cons (pv 0) (pa_cons (pv 1) (pa_cons pe_int (pa_cons pe_int pa_nil))))) (pa_cons pe_dnewK pa_nil)) (by rfl))
 (pss_cons (ps_set (i := 10) sc__law_reader.nd rfl (.inl rfl) (pe_op op_add (pv 3) (pe_op op_mod (pe_ix (kix_list (K := K)) (pv 5) pe_int (fun _ _ => rfl)) (pe_op op_sub pe_int (pv 3)))))
 (pss_cons (ps_set (i := 9) sc__law_reader.nd rfl (.inl rfl) (pe_slice (ksl_list (K := K)) (pe_callO O__law_rows hr (by rfl) pass0 (pa_cons (pv 10) pa_nil)) po_none (po_some (pe_un un_neg pe_int))))
 (pss_cons (ps_set (i := 4) sc__law_reader.nd rfl (.inl rfl) (pe_op op_mod (pe_op op_fdiv (pe_ix (kix_list (K := K)) (pv 5) pe_int (fun _ _ => rfl)) pe_int) (pe_callB (kcb_lenQ (K := K)) (by rfl) T.z_len (by decide +kernel) (pa_cons (pv 9) pa_nil))))
 (pss_cons (ps_for PassesOwn.never rfl (kpi_zip (K := K) (by rfl) T.z_zip (pa_cons (pe_slice (ksl_list (K := K)) (pv 5) (po_some pe_int) po_none) (pa_cons (pe_op op_cat (pe_slice (ksl_list (K := K)) (pv 9) (po_some (pv 4)) po_none) (pe_slice (ksl_list (K := K)) (pv 9) po_none (po_some (pv 4)))) pa_nil))) (pg_tup rfl (pgs_cons (pg_name (i := 7) sc__law_reader.nd rfl (.inl rfl)) (pgs_cons (pg_name (i := 8) sc__law_reader.nd rfl (.inl rfl)) pgs_nil)))
  (pss_one (ps_if (pt_cmpR op_lt (pe_op op_mod (pv 7) pe_int) (pe_op op_add pe_int (pe_op op_mod (pe_op op_fdiv (pe_ix (kix_list (K := K)) (pv 5) pe_int (fun _ _ => rfl)) pe_int) pe_int)) (nomark _))
  (pss_one (ps_dput hu (pv 6) (pv 8) (pe_ix (kix_list (K := K)) (pv 2) (pe_op op_mod (pe_op op_fdiv (pv 7) pe_int) pe_int) (fun _ _ => rfl)) rfl))
  pss_nil)))
 (pss_cons (ps_if (pt_cmpR (op_eq_dict hr.units0) (pv 6) pe_dnewK (nomark _))
  (pss_one (ps_dput hu (pv 6) (pe_ix (kix_list (K := K)) (pv 9) (pv 4) (fun _ _ => rfl)) (pe_ix (kix_list (K := K)) (pv 2) pe_int (fun _ _ => rfl)) rfl))
  pss_nil)
 (pss_one (ps_ret (pv 6))))))))), ?_⟩
  refine q_par (ag_NL (ev__law_digits (ag_L (q_old (ev_var rfl) (by walk_at "fact")) (ag_V (ev_var rfl) (ag_V ev_c (ag_V ev_c ag_nil)))) (by walk_at "side") (by walk_at "side") (by walk_at "side") (by walk_at "side") (by walk_at "side")) (ag_ND ed_new ag_nil)) fun v1 v2 H1 e1 g1 g2 => ?_
  obtain ⟨p, rfl, hp0, hp⟩ := g1
  obtain ⟨d, rfl, hd0, hd⟩ := g2
  unfold reader at k
  have hlen : (digits ns m 17 1000).length = 17 := digits_len _ _ _ _
  generalize digits ns m 17 1000 = ds at *
  have hw := rdW_range (ds := ds) p2 p3
  have hw0 : 0 ≤ rdW ds least := by omega
  have hw4 := hw.2
  have hr := rdRows_len (ds := ds) p2 p3
  have hb := rdBegin_range (ds := ds) p2 p3
  have hb0 := hb.1
  have hb1 := hb.2
  have hpd : p ≠ d := ne_of hp hd (by intro z; cases z)
  refine q_asg (Ev.is (ev_add (ev_var rfl) (ev_mod (ev_ixQ (0 : Int) (q_old (ev_var rfl) (by walk_at "fact")) ev_c (by walk_at "side") (by walk_at "side")) (ev_sub ev_c (ev_var rfl)) (by walk_at "side"))) (show _ = V.int (rdW ds least) from rfl)) fun H2 e2 => ?_
  refine q_asgL (EvL.is (el_slQ (q_new (ev__law_rows (ag_V (ev_var rfl) ag_nil) (by walk_at "side") (by walk_at "side"))) eo_none (eo_some (ev_neg ev_c))) (show _ = Txts (rdRows ds least) from rfl)) fun rr H3 hr0 e3 hrr => ?_
  have hrd : rr ≠ d := ne_new (fresh_back e2 hr0) hd
  have hpos : 0 < ((rdRows ds least).length : Int) := by omega
  refine q_asg (Ev.is (ev_mod (ev_fdiv (ev_ixQ (0 : Int) (q_old (ev_var rfl) (by walk_at "fact")) ev_c (by walk_at "side") (by walk_at "side")) ev_c (by walk_at "cdiv")) (ev_lenQ (q_old (ev_var rfl) (by walk_at "fact"))) (by walk_at "side")) (show _ = V.int (rdBegin ds least) from rfl)) fun H4 e4 => ?_
  have hsum : (cutG (rdRows ds least) (some (rdBegin ds least)) none).length + (cutG (rdRows ds least) none (some (rdBegin ds least))).length ≤ 100000 := by
    rw [cutG_from _ hb0, cutG_to _ hb0, List.length_drop, List.length_take]
    omega
  have hd4 : H4 d = some (.dK []) := e4 _ _ (e3 _ _ (e2 _ _ hd))
  refine q_for (s := [d]) (i_zip (qa_new (el_slQ (q_old (ev_var rfl) (by walk_at "fact")) (eo_some ev_c) eo_none)) (qa_new (el_catH (h_new (el_slQ (q_old (ev_var rfl) (by walk_at "fact")) (eo_some (ev_var rfl)) eo_none)) (h_new (el_slQ (q_old (ev_var rfl) (by walk_at "fact")) eo_none (eo_some (ev_var rfl)))) (by walk_at "side")))) (by intro a ha; rw [List.mem_singleton.mp ha, hd4]; simp) fun H5 e5 => ⟨fun i σ' H' => ∃ x y, σ' = [some (.ref a0), some (.int m), some (.ref a2), some (.int least), some (.int (rdBegin ds least)), some (.ref p), some (.ref d), x, y, some (.ref rr), some (.int (rdW ds least))] ∧
      Xb [d] H5 H' ∧ H' d = some (.dK (DS (((rdZip ds least).take i).foldl (rdStep ds pl) []))) ∧ (((rdZip ds least).take i).foldl (rdStep ds pl) []).length ≤ i,
    ⟨none, none, rfl, Xb.refl _ _, e5 _ _ hd4, Nat.le_refl _⟩, fun i σ' H' ⟨_, _, _, x, _⟩ => x, ?_, ?_⟩
  · rintro i ⟨num, row⟩ σ' H6 H7 hi ⟨x, y, rfl, hx, hq, hl⟩ e7
    have hi : (rdZip ds least)[i]? = some (num, row) := hi
    have hmem := List.mem_of_getElem? hi
    have hilt := (List.getElem?_eq_some_iff.mp hi).1
    have hz17 : (rdZip ds least).length ≤ 17 := by
      have := List.length_zip (l₁ := cutG ds (some 1) none) (l₂ := cutG (rdRows ds least) (some (rdBegin ds least)) none ++ cutG (rdRows ds least) none (some (rdBegin ds least)))
      unfold rdZip
      rw [this, cutG_from _ (by decide), List.length_drop]
      omega
    have stp : ((rdZip ds least).take (i + 1)).foldl (rdStep ds pl) [] = rdStep ds pl (((rdZip ds least).take i).foldl (rdStep ds pl) []) (num, row) := by
      rw [List.take_succ, hi, List.foldl_append]
      rfl
    have a2d : a2 ≠ d := h2.ne hd0
    have hx7 := hx.ex e7
    have hpl7 : SL K H7 a2 (Txts pl) := hx7.l (nin1 a2d) (by walk_at "fact")
    have hds7 : SL K H7 p (Ints ds) := hx7.l (nin1 hpd) (by walk_at "fact")
    refine s_when (et_test (ev_lt (ev_mod (ev_var rfl) ev_c (by walk_at "side")) (ev_add ev_c (ev_mod (ev_fdiv (ev_ixQ (0 : Int) (q_old (ev_var rfl) (by walk_at "fact")) ev_c (by walk_at "side") (by walk_at "side")) ev_c (by walk_at "cdiv")) ev_c (by walk_at "side"))))) (fun hb H8 e8 => ?_) (fun hb H8 e8 => ?_)
    · have h3 := Int.emod_nonneg (num / 5) (show (3 : Int) ≠ 0 by decide)
      have h4 := Int.emod_lt_of_pos (num / 5) (show (0 : Int) < 3 by decide)
      refine s_dput (e8 _ _ (e7 _ _ hq)) (ev_ixQ ([] : Row) (q_old (ev_var rfl) (by walk_at "fact")) (ev_mod (ev_fdiv (ev_var rfl) ev_c (by walk_at "cdiv")) ev_c (by walk_at "side")) (by walk_at "side") (by walk_at "side")) (ev_var rfl) (ev_var rfl) (by omega) fun H9 e9 => ⟨_, _, rfl, ((hx7.ex e8).ex e9).upd (by simp), ?_, ?_⟩
      · rw [upd_same, stp, rdStep_T hb]
      · rw [stp, rdStep_T hb]
        exact Nat.le_trans (put_len _ _ _) (by omega)
    · refine ⟨_, _, rfl, hx7.ex e8, ?_, ?_⟩
      · rw [stp, rdStep_F hb]
        exact e8 _ _ (e7 _ _ hq)
      · rw [stp, rdStep_F hb]
        omega
  · rintro σ' H6 ⟨x, y, rfl, hx, hq, hl⟩
    have hq : H6 d = some (.dK (DS (((rdZip ds least).take (rdZip ds least).length).foldl (rdStep ds pl) []))) := hq
    rw [List.take_length] at hq
    have hl : (((rdZip ds least).take (rdZip ds least).length).foldl (rdStep ds pl) []).length ≤ (rdZip ds least).length := hl
    rw [List.take_length] at hl
    have hz17 : (rdZip ds least).length ≤ 17 := by
      have := List.length_zip (l₁ := cutG ds (some 1) none) (l₂ := cutG (rdRows ds least) (some (rdBegin ds least)) none ++ cutG (rdRows ds least) none (some (rdBegin ds least)))
      unfold rdZip
      rw [this, cutG_from _ (by decide), List.length_drop]
      omega
    have a2d : a2 ≠ d := h2.ne hd0
    have hx' : Xb [d] H1 H6 := Xb.ex0 (((e2.trans e3).trans e4).trans e5) hx
    have hpl6 : SL K H6 a2 (Txts pl) := hx'.l (nin1 a2d) (by walk_at "fact")
    have hrr6 : SL K H6 rr (Txts (rdRows ds least)) := (Xb.ex0 (e4.trans e5) hx).l (nin1 hrd) (slof hrr)
    have eH : Ex H H6 := Ex.xb0 e1 hx' (fun a ha => by rw [List.mem_singleton.mp ha]; exact hd0)
    refine q_when (et_test (ev_eqD (g_Dold (ev_var rfl) (by walk_at "facth")) (g_D ed_newS))) (fun hb H7 e7 => ?_) (fun hb H7 e7 => ?_)
    · refine q_dput (e7 _ _ hq) (ev_ixQ ([] : Row) (q_old (ev_var rfl) (by walk_at "fact")) ev_c (by walk_at "side") (by walk_at "side")) (ev_var rfl) (ev_ixQ ([] : Row) (q_old (ev_var rfl) (by walk_at "fact")) (ev_var rfl) (by walk_at "side") (by walk_at "side")) (by omega) fun H8 e8 => ?_
      refine s_ret (ev_var rfl) fun H9 e9 => k d H9 hd0 (Ex.xb0 eH ((Xb.upd (s := [d]) (p := d) (Ex.xb (e7.trans e8)) (by simp)).ex e9) (fun a ha => by rw [List.mem_singleton.mp ha]; exact hd0)) (e9 _ _ ?_)
      have hb : dEq (rdLoop ds pl least) [] = true := hb
      rw [upd_same]
      unfold rdr
      rw [if_pos hb]
      rfl
    · refine s_ret (ev_var rfl) fun H8 e8 => k d H8 hd0 ((eH.trans e7).trans e8) (e8 _ _ (e7 _ _ ?_))
      rw [hq]
      unfold rdr
      rw [if_neg (by rw [show dEq (rdLoop ds pl least) [] = false from hb]; decide)]
      rfl
def R__law_width (K : PySem.W.Frag) : List V → Hp → V → Prop := fun vs H z => ∃ (rd : Dic) (w : Nat), AllP [isD (DS rd)] vs H ∧ ((RdOk rd w) ∧ True) ∧ z = .int (w : Int)
def sp__law_width (K : PySem.W.Frag) : Sp := spV  1 (R__law_width K)
theorem ev__law_width {K : PySem.W.Frag} {σ : L2.St} {H : Hp} {tr : TA} {E : XK} {rd : Dic} {w : Nat} (h : EvAG tr σ H [isD (DS rd)]) (p0 : RdOk rd w) : Ev (tCallO (sp__law_width K) E tr) σ H (.int (w : Int)) := ev_callG h rfl fun vs H1 e hp => ⟨rd, w, hp, ⟨p0, trivial⟩, rfl⟩
theorem ok__law_width (T : Txt K mg) : OkF P wW K mg base CX0 "_law_width" 1 (sp__law_width K) := by
  refine OkF.of T.d__law_width sc__law_width (fun vs H Q E h => h.1) (fun f cdv A outer s H vs Q E hr h => ?_)
  obtain ⟨-, z, H0, e0, ⟨rd, w, ⟨v0, r0, rfl, ⟨a0, rfl, q0⟩, rfl⟩, ⟨p0, -⟩, rfl⟩, k⟩ := h
  have h0 := exh e0 q0
  clear q0
  clear e0 H0
  have hu := hu_of hr
  refine ⟨_, (pss_one (ps_ret (pe_callB cb_lenS (by rfl) T.z_len (by decide +kernel) (pa_cons (pe_ix (kix_list (K := K)) (pe_callTy (call_list_dK rfl) (by rfl) T.z_list (by decide +kernel) (pa_cons (pv 0) pa_nil)) pe_int (fun _ _ => rfl)) pa_nil)))), ?_⟩
  obtain ⟨p, rs, erd⟩ : ∃ p rs, rd = p :: rs := by
    cases rd with
    | nil => exact absurd rfl p0.ne
    | cons p rs => exact ⟨p, rs, rfl⟩
  have hp1 : p.1.length = w := rd_len p0 (by rw [erd]; exact List.mem_cons_self)
  have hw4 := p0.w4
  have h1 : ((rd.map (·.1)).getD (0 : Int).toNat []).length = w := by rw [erd]; exact hp1
  have h2 : ((rd.map (·.1)).getD (0 : Int).toNat []).length ≤ 100000 := by omega
  have h3 : (0 : Int) < ((rd.map (·.1)).length : Int) := by rw [List.length_map, erd, List.length_cons]; omega
  exact s_ret2 (Ev.is (ev_lenS (ev_ixQ ([] : Row) (q_new (el_keys (g_Dold (ev_var rfl) (by walk_at "facth")))) ev_c (by walk_at "side") (by walk_at "side")) (by walk_at "side")) (by rw [h1])) k
def R__law_tape (K : PySem.W.Frag) : List V → Hp → List V → Prop := fun vs H z => ∃ (ns : List Int) (m : Int) (w n : Int), AllP [isL K (Ints ns), isV (.int m), isV (.int w), isV (.int n)] vs H ∧ ((0 ≤ m) ∧ (0 ≤ w) ∧ (w ≤ 4) ∧ (0 ≤ n) ∧ (n ≤ 100) ∧ True) ∧ z = Txts (tapeL ns m w n)
def sp__law_tape (K : PySem.W.Frag) : Sp := spL  4 (R__law_tape K)
theorem ev__law_tape {K : PySem.W.Frag} {σ : L2.St} {H : Hp} {tr : TA} {E : XK} {ns : List Int} {m : Int} {w n : Int} (h : EvAG tr σ H [isL K (Ints ns), isV (.int m), isV (.int w), isV (.int n)]) (p0 : 0 ≤ m) (p1 : 0 ≤ w) (p2 : w ≤ 4) (p3 : 0 ≤ n) (p4 : n ≤ 100) : EvL (tCallO (sp__law_tape K) E tr) σ H (Txts (tapeL ns m w n)) := el_callG h rfl fun vs H1 e hp => ⟨ns, m, w, n, hp, ⟨p0, p1, p2, p3, p4, trivial⟩, rfl⟩
theorem ok__law_tape (T : Txt K mg) : OkF P wW K mg base CX0 "_law_tape" 4 (sp__law_tape K) := by
  have O__law_digits : OkF P wW K mg base CX0 "_law_digits" 3 (sp__law_digits K) := ok__law_digits T
  have O__law_rows : OkF P wW K mg base CX0 "_law_rows" 1 (sp__law_rows K) := ok__law_rows T
  refine OkF.of T.d__law_tape sc__law_tape (fun vs H Q E h => h.1) (fun f cdv A outer s H vs Q E hr h => ?_)
  obtain ⟨-, z, H0, e0, ⟨ns, m, w, n, ⟨v0, r0, rfl, ⟨a0, rfl, q0⟩, ⟨v1, r1, rfl, rfl, ⟨v2, r2, rfl, rfl, ⟨v3, r3, rfl, rfl, rfl⟩⟩⟩⟩, ⟨p0, p1, p2, p3, p4, -⟩, rfl⟩, k⟩ := h
  have h0 := exl e0 q0
  clear q0
  clear e0 H0
  have hu := hu_of hr
  refine ⟨_, (pss_cons (ps_par (i := 7) (j := 6) rfl sc__law_tape.nd rfl rfl (by decide) rfl rfl (pa_cons (pe_callO O__law_rows hr (by rfl) pass0 (pa_cons (pv 2) pa_nil)) (pa_cons (pe_lst pa_nil) pa_nil)) (by rfl))
 (pss_cons (ps_for PassesOwn.never rfl (kpi_list (K := K) (pe_callO O__law_digits hr (by rfl) pass0 (pa_cons (pv 0) (pa_cons (pv 1) (pa_cons (pv 3) (pa_cons pe_int pa_nil)))))) (pg_name (i := 4) sc__law_tape.nd rfl (.inl rfl))
  (pss_cons (ps_set (i := 5) sc__law_tape.nd rfl (.inl rfl) (pe_op op_or (pe_op op_mod (pe_op op_fdiv (pv 4) pe_int) pe_int) (pe_op op_mul (pe_op op_mod (pe_op op_fdiv (pv 4) pe_int) pe_int) pe_int)))
 (pss_one (ps_expr (pe_bm PySem.F.plainAttrs_list PySem.F.slot_list_append PySem.F.type_list_append mt_append (pv 6) (pa_cons (pe_ix (kix_list (K := K)) (pv 7) (pe_op op_mod (pe_op op_and (pe_op op_mod (pv 4) pe_int) (pv 5)) (pe_callB (kcb_lenQ (K := K)) (by rfl) T.z_len (by decide +kernel) (pa_cons (pv 7) pa_nil))) (fun _ _ => rfl)) pa_nil))))))
 (pss_one (ps_ret (pv 6))))), ?_⟩
  have hpos := rowsL_pos w
  refine q_par (ag_NL (ev__law_rows (ag_V (ev_var rfl) ag_nil) (by walk_at "side") (by walk_at "side")) (ag_NL el_nil ag_nil)) fun v1 v2 H1 e1 g1 g2 => ?_
  obtain ⟨rr, rfl, hr0, hrr⟩ := g1
  obtain ⟨p, rfl, hp0, hp⟩ := g2
  have hrp : rr ≠ p := ne_of hrr hp (by
    intro z
    have z := congrArg List.length (HO.lst.inj z)
    have z : (Txts (rowsL w)).length = 0 := z
    unfold Txts at z
    rw [List.length_map] at z
    omega)
  refine q_for (s := [p]) (i_list (qa_new (ev__law_digits (ag_L (q_old (ev_var rfl) (by walk_at "fact")) (ag_V (ev_var rfl) (ag_V (ev_var rfl) (ag_V ev_c ag_nil)))) (by walk_at "side") (by walk_at "side") (by walk_at "side") (by walk_at "side") (by walk_at "side")))) (by intro a ha; rw [List.mem_singleton.mp ha, hp]; simp) fun H2 e2 => ⟨fun i σ' H' => ∃ x y, σ' = [some (.ref a0), some (.int m), some (.int w), some (.int n), x, y, some (.ref p), some (.ref rr)] ∧
      Xb [p] H2 H' ∧ H' p = some (.lst (Txts (((digits ns m n 4096).take i).map (tapeRow w)))),
    ⟨none, none, rfl, Xb.refl _ _, e2 _ _ hp⟩, fun i σ' H' ⟨_, _, _, x, _⟩ => x, ?_, ?_⟩
  · rintro i d σ' H3 H4 hi ⟨x, y, rfl, hx, hq⟩ e4
    have hx4 := hx.ex e4
    have hil := (List.getElem?_eq_some_iff.mp hi).1
    rw [digits_len] at hil
    have hrr4 : SL K H4 rr (Txts (rowsL w)) := hx4.l (nin1 hrp) (by walk_at "fact")
    refine q_asg (ev_or (ev_mod (ev_fdiv (ev_var rfl) ev_c (by walk_at "cdiv")) ev_c (by walk_at "side")) (ev_mul (ev_mod (ev_fdiv (ev_var rfl) ev_c (by walk_at "cdiv")) ev_c (by walk_at "side")) ev_c (by walk_at "cmul"))) fun H5 e5 => ?_
    have hix := Int.emod_nonneg (Builtin.bitAnd (d % 16) (Builtin.bitOr (d / 16 % 16) (d / 256 % 2 * 15))) (show ((rowsL w).length : Int) ≠ 0 by omega)
    have hix2 := Int.emod_lt_of_pos (Builtin.bitAnd (d % 16) (Builtin.bitOr (d / 16 % 16) (d / 256 % 2 * 15))) hpos
    refine s_app (e5 _ _ (e4 _ _ hq)) (ev_var rfl) (ev_ixQ ([] : Row) (q_old (ev_var rfl) (by walk_at "fact")) (ev_mod (ev_and (ev_mod (ev_var rfl) ev_c (by walk_at "side")) (ev_var rfl)) (ev_lenQ (q_old (ev_var rfl) (by walk_at "fact"))) (by walk_at "side")) (by walk_at "side") (by walk_at "side")) (by unfold Txts; simp only [List.length_map, List.length_take, digits_len]; omega) fun H6 e6 => ⟨_, _, rfl, ((hx4.ex e5).ex e6).upd (by simp), ?_⟩
    rw [upd_same, List.take_succ, hi, List.map_append]
    unfold Txts
    rw [List.map_append]
    rfl
  · rintro σ' H3 ⟨x, y, rfl, hx, hq⟩
    have eH : Ex H H3 := Ex.xb0 (e1.trans e2) hx (fun a ha => by rw [List.mem_singleton.mp ha]; exact hp0)
    have hq : H3 p = some (.lst (Txts (((digits ns m n 4096).take (digits ns m n 4096).length).map (tapeRow w)))) := hq
    rw [List.take_length] at hq
    exact s_ret (ev_var rfl) fun H5 e5 => k p H5 hp0 (eH.trans e5) (e5 _ _ hq)
def R_is_row (K : PySem.W.Frag) : List V → Hp → V → Prop := fun vs H z => ∃ (r : Row) (w : Int), AllP [isV (VS r), isV (.int w)] vs H ∧ ((r.length ≤ 40000) ∧ True) ∧ z = .bl (isRow r w)
def sp_is_row (K : PySem.W.Frag) : Sp := spV  2 (R_is_row K)
theorem ev_is_row {K : PySem.W.Frag} {σ : L2.St} {H : Hp} {tr : TA} {E : XK} {r : Row} {w : Int} (h : EvAG tr σ H [isV (VS r), isV (.int w)]) (p0 : r.length ≤ 40000) : Ev (tCallO (sp_is_row K) E tr) σ H (.bl (isRow r w)) := ev_callG h rfl fun vs H1 e hp => ⟨r, w, hp, ⟨p0, trivial⟩, rfl⟩
theorem ok_is_row (T : Txt K mg) : OkF P wW K mg base CX0 "is_row" 1 (sp_is_row K) := by
  refine OkF.of T.d_is_row sc_is_row (fun vs H Q E h => h.1) (fun f cdv A outer s H vs Q E hr h => ?_)
  obtain ⟨-, z, H0, e0, ⟨r, w, ⟨v0, r0, rfl, rfl, ⟨v1, r1, rfl, rfl, rfl⟩⟩, ⟨p0, -⟩, rfl⟩, k⟩ := h
  clear e0 H0
  have hu := hu_of hr
  refine ⟨_, (pss_one (ps_ret (pe_and (pe_callB (kcall_isi (K := K)) (by rfl) T.z_isinstance (by decide +kernel) (pa_cons (pv 0) (pa_cons (pe_bltn (v := .ty "str") (by rfl) T.z_str (by decide +kernel) rfl) pa_nil))) (pe_and (pe_cmpR op_eq (pe_callB cb_lenS (by rfl) T.z_len (by decide +kernel) (pa_cons (pv 0) pa_nil)) (pv 1) (nomark _)) (pe_one (pe_callB (kcr_all (K := K) rfl) (by rfl) T.z_all (by decide +kernel) (pa_cons (pe_lc (own := [("sign", 2)]) (g := gName 2) rfl sc_is_row.nd (pi_str (pv 0)) (blkOk_by (N := N_is_row) (sc := defScope s_is_row) (by decide +kernel)) (fun _ _ _ _ _ => (pg_name (i := 2) sc_is_row.nd rfl (.inl rfl))) (fun _ _ _ _ _ => pts_nil) (fun _ _ _ _ _ => (pe_cmpR (kop_in (K := K)) (pv 2) (pe_tup (pa_cons (pe_gs (by rfl) T.c_HOLE) (pa_cons (pe_gs (by rfl) T.c_BLANK) pa_nil))) rfl))) pa_nil))))))), ?_⟩
  exact s_ret2 (Ev.is (ev_andV (ev_isiS (b := true) (ev_var rfl) ev_c (by decide +kernel)) (fun hb8 => (ev_andV (ev_eqI (ev_lenS (ev_var rfl) (by walk_at "side")) (ev_var rfl)) (fun hb7 => (ev_allQ (q_new (el_lc1 (i_str (ev_var rfl)) (by walk_at "len") (fun _ => wipe_one _ _ _) (fun x6 hx6 H106 e106 => (ev_inTS (l := [[111], [46]]) (ev_var rfl) (eu_tup (ea_cons ev_c (ea_cons ev_c ea_nil)) (by simp))))))))))) rfl) k
def R_is_letter (K : PySem.W.Frag) : List V → Hp → V → Prop := fun vs H z => ∃ (c : Nat), AllP [isV (VS [c])] vs H ∧ (True) ∧ z = .bl (isLet [c])
def sp_is_letter (K : PySem.W.Frag) : Sp := spV  1 (R_is_letter K)
theorem ev_is_letter {K : PySem.W.Frag} {σ : L2.St} {H : Hp} {tr : TA} {E : XK} {c : Nat} (h : EvAG tr σ H [isV (VS [c])])  : Ev (tCallO (sp_is_letter K) E tr) σ H (.bl (isLet [c])) := ev_callG h rfl fun vs H1 e hp => ⟨c, hp, trivial, rfl⟩
theorem ok_is_letter (T : Txt K mg) : OkF P wW K mg base CX0 "is_letter" 1 (sp_is_letter K) := by
  refine OkF.of T.d_is_letter sc_is_letter (fun vs H Q E h => h.1) (fun f cdv A outer s H vs Q E hr h => ?_)
  obtain ⟨-, z, H0, e0, ⟨c, ⟨v0, r0, rfl, rfl, rfl⟩, -, rfl⟩, k⟩ := h
  clear e0 H0
  have hu := hu_of hr
  refine ⟨_, (pss_one (ps_ret (pe_and (pe_callB (kcall_isi (K := K)) (by rfl) T.z_isinstance (by decide +kernel) (pa_cons (pv 0) (pa_cons (pe_bltn (v := .ty "str") (by rfl) T.z_str (by decide +kernel) rfl) pa_nil))) (pe_and (pe_cmpR op_eq (pe_callB cb_lenS (by rfl) T.z_len (by decide +kernel) (pa_cons (pv 0) pa_nil)) pe_int (nomark _)) (pe_one (pe_cmpR op_inC (pv 0) (pe_gs (by rfl) T.c_LETTERS) rfl)))))), ?_⟩
  exact s_ret2 (Ev.is (ev_andV (ev_isiS (b := true) (ev_var rfl) ev_c (by decide +kernel)) (fun hb10 => (ev_andV (ev_eqI (ev_lenS (ev_var rfl) (by walk_at "side")) ev_c) (fun hb9 => (ev_inC (ev_var rfl) ev_c))))) rfl) k
def R_width_of (K : PySem.W.Frag) : List V → Hp → V → Prop := fun vs H z => ∃ (rd : Dic) (w : Nat), AllP [isD (DS rd)] vs H ∧ ((RdOk rd w) ∧ True) ∧ z = .int (w : Int)
def sp_width_of (K : PySem.W.Frag) : Sp := spV  1 (R_width_of K)
theorem ev_width_of {K : PySem.W.Frag} {σ : L2.St} {H : Hp} {tr : TA} {E : XK} {rd : Dic} {w : Nat} (h : EvAG tr σ H [isD (DS rd)]) (p0 : RdOk rd w) : Ev (tCallO (sp_width_of K) E tr) σ H (.int (w : Int)) := ev_callG h rfl fun vs H1 e hp => ⟨rd, w, hp, ⟨p0, trivial⟩, rfl⟩
theorem ok_width_of (T : Txt K mg) : OkF P wW K mg base CX0 "width_of" 2 (sp_width_of K) := by
  have O_is_row : OkF P wW K mg base CX0 "is_row" 1 (sp_is_row K) := ok_is_row T
  have O_is_letter : OkF P wW K mg base CX0 "is_letter" 1 (sp_is_letter K) := ok_is_letter T
  refine OkF.of T.d_width_of sc_width_of (fun vs H Q E h => h.1) (fun f cdv A outer s H vs Q E hr h => ?_)
  obtain ⟨-, z, H0, e0, ⟨rd, w, ⟨v0, r0, rfl, ⟨a0, rfl, q0⟩, rfl⟩, ⟨p0, -⟩, rfl⟩, k⟩ := h
  have h0 := exh e0 q0
  clear q0
  clear e0 H0
  have hu := hu_of hr
  refine ⟨_, (pss_cons (ps_if (PW.pt (pw_or (pt_not (pt_val (pe_callB (kcall_isi (K := K)) (by rfl) T.z_isinstance (by decide +kernel) (pa_cons (pv 0) (pa_cons (pe_bltn (v := .ty "dict") (by rfl) T.z_dict (by decide +kernel) rfl) pa_nil))))) (pw_or1 (pt_cmpR (op_eq_dict hr.units0) (pv 0) pe_dnewK (nomark _)))))
  (pss_one ps_never)
  pss_nil)
 (pss_cons (ps_set (i := 1) sc_width_of.nd rfl (.inl rfl) (pe_ix (kix_list (K := K)) (pe_callTy (call_list_dK rfl) (by rfl) T.z_list (by decide +kernel) (pa_cons (pv 0) pa_nil)) pe_int (fun _ _ => rfl)))
 (pss_cons (ps_set (i := 4) sc_width_of.nd rfl (.inl rfl) (pe_ifExp (pt_val (pe_callB (kcall_isi (K := K)) (by rfl) T.z_isinstance (by decide +kernel) (pa_cons (pv 1) (pa_cons (pe_bltn (v := .ty "str") (by rfl) T.z_str (by decide +kernel) rfl) pa_nil)))) (pe_callB cb_lenS (by rfl) T.z_len (by decide +kernel) (pa_cons (pv 1) pa_nil)) pe_int))
 (pss_cons (ps_lock (ps_for PassesOwn.never rfl (pi_items (pv 0)) (pg_tup rfl (pgs_cons (pg_name (i := 3) sc_width_of.nd rfl (.inl rfl)) (pgs_cons (pg_name (i := 2) sc_width_of.nd rfl (.inl rfl)) pgs_nil)))
  (pss_one (ps_if (PW.pt (pw_or (pt_not (pt_chain op_le op_le pe_int (pv 4) (pe_gi (by rfl) T.c_WIDEST))) (pw_or (pt_not (pt_val (pe_callO O_is_row hr (by rfl) pass0 (pa_cons (pv 3) (pa_cons (pv 4) pa_nil))))) (pw_or (pt_cmpR op_ninC (pe_gs (by rfl) T.c_BLANK) (pv 3) rfl) (pw_or1 (pt_not (pt_val (pe_callO O_is_letter hr (by rfl) pass0 (pa_cons (pv 2) pa_nil)))))))))
  (pss_one ps_never)
  pss_nil))))
 (pss_one (ps_ret (pv 4))))))), ?_⟩
  have hl : 0 < rd.length := List.length_pos_iff.mpr p0.ne
  have hne : rd.map (·.1) ≠ [] := by simpa using p0.ne
  obtain ⟨p, rs, erd⟩ : ∃ p rs, rd = p :: rs := by
    cases rd with
    | nil => exact absurd rfl p0.ne
    | cons p rs => exact ⟨p, rs, rfl⟩
  have hp1 : p.1.length = w := rd_len p0 (by rw [erd]; exact List.mem_cons_self)
  have hw4 := p0.w4
  have h1 : ((rd.map (·.1)).getD (0 : Int).toNat []).length = w := by rw [erd]; exact hp1
  have h2 : ((rd.map (·.1)).getD (0 : Int).toNat []).length ≤ 100000 := by omega
  have h3 : (0 : Int) < ((rd.map (·.1)).length : Int) := by rw [List.length_map]; omega
  have hd0 : dEq rd [] = false := by rw [erd]; rfl
  refine q_skip (EvT.is (et_or (et_not (et_B (ev_isiD (b := true) (g_Dold (ev_var rfl) (by walk_at "facth")) ev_c (by decide +kernel)))) (fun hb11 => (et_test (ev_eqD (g_Dold (ev_var rfl) (by walk_at "facth")) (g_D ed_newS))))) (by rw [hd0]; rfl)) fun H1 e1 => ?_
  refine q_asg (ev_ixQ ([] : Row) (q_new (el_keys (g_Dold (ev_var rfl) (by walk_at "facth")))) ev_c (by walk_at "side") (by walk_at "side")) fun H2 e2 => ?_
  refine q_asg (Ev.is (ev_ifI (et_B (ev_isiS (b := true) (ev_var rfl) ev_c (by decide +kernel))) (fun hb12 => (ev_lenS (ev_var rfl) (by walk_at "side"))) (fun hb12 => ev_c)) (by rw [if_pos rfl, h1])) fun H3 e3 => ?_
  refine q_items (r := rd) (d := a0) (Pv := fun i σ' => ∃ x y, σ' = [some (.ref a0), some (VS ((rd.map (·.1)).getD (0 : Int).toNat [])), x, y, some (.int (w : Int))]) (by walk_at "facth") (fun od => ev_var rfl) ⟨none, none, rfl⟩ ?_ fun σ' H' e4 hp => ?_
  · rintro od i ⟨row, letter⟩ σ' H' hi ⟨x, y, rfl⟩ hx
    have hm := List.mem_of_getElem? hi
    obtain ⟨c, ec, hc1, hc2⟩ := isLet_one (p0.lt _ hm)
    have ec : letter = [c] := ec
    subst ec
    have hr := p0.row _ hm
    have hb : 46 ∈ row := p0.bl _ hm
    have hrl : row.length ≤ 40000 := by have := rd_len p0 hm; simp only at this; omega
    refine s_skip (EvT.is (et_or (et_not (et_test (ev_chain ev_c (ev_var rfl) ev_c))) (fun hb15 => (et_or (et_not (et_B (ev_is_row (ag_V (ev_var rfl) (ag_V (ev_var rfl) ag_nil)) (by walk_at "side")))) (fun hb14 => (et_or (et_test (ev_ninC ev_c (ev_var rfl))) (fun hb13 => (et_not (et_B (ev_is_letter (ag_V (ev_var rfl) ag_nil)))))))))) ?_) fun H4 e4 => ⟨hx.trans e4, some (VS [c]), some (VS row), rfl⟩
    have hw1 := p0.w1
    have hlt := p0.lt _ hm
    simp only at hr hlt
    simp only [hr, hlt, hb, decide_eq_true (show (1 : Int) ≤ (w : Int) by omega), decide_eq_true (show (w : Int) ≤ 4 by omega)]
    rfl
  · obtain ⟨x, y, rfl⟩ := hp
    exact s_ret2 (ev_var rfl) (RetV.ex k (by walk_at "exs"))
def R_check_tape (K : PySem.W.Frag) : List V → Hp → V → Prop := fun vs H z => ∃ (w : Nat) (t : List Row), AllP [isV (.int (w : Int)), isL K (Txts t)] vs H ∧ ((TpOk t w) ∧ (w ≤ 4) ∧ True) ∧ z = .non
def sp_check_tape (K : PySem.W.Frag) : Sp := spV  2 (R_check_tape K)
theorem ev_check_tape {K : PySem.W.Frag} {σ : L2.St} {H : Hp} {tr : TA} {E : XK} {w : Nat} {t : List Row} (h : EvAG tr σ H [isV (.int (w : Int)), isL K (Txts t)]) (p0 : TpOk t w) (p1 : w ≤ 4) : Ev (tCallO (sp_check_tape K) E tr) σ H (.non) := ev_callG h rfl fun vs H1 e hp => ⟨w, t, hp, ⟨p0, p1, trivial⟩, rfl⟩
theorem ok_check_tape (T : Txt K mg) : OkF P wW K mg base CX0 "check_tape" 2 (sp_check_tape K) := by
  have O_is_row : OkF P wW K mg base CX0 "is_row" 1 (sp_is_row K) := ok_is_row T
  refine OkF.of T.d_check_tape sc_check_tape (fun vs H Q E h => h.1) (fun f cdv A outer s H vs Q E hr h => ?_)
  obtain ⟨-, z, H0, e0, ⟨w, t, ⟨v0, r0, rfl, rfl, ⟨v1, r1, rfl, ⟨a1, rfl, q1⟩, rfl⟩⟩, ⟨p0, p1, -⟩, rfl⟩, k⟩ := h
  have h1 := exl e0 q1
  clear q1
  clear e0 H0
  have hu := hu_of hr
  refine ⟨_, (pss_cons (ps_if (pt_not (pt_val (pe_callB (kcall_isi (K := K)) (by rfl) T.z_isinstance (by decide +kernel) (pa_cons (pv 1) (pa_cons (pe_bltn (v := .ty "list") (by rfl) T.z_list (by decide +kernel) rfl) pa_nil)))))
  (pss_one ps_never)
  pss_nil)
 (pss_one (ps_for PassesOwn.never rfl (kpi_enum (K := K) (by rfl) T.z_enumerate (pa_cons (pv 1) pa_nil)) (pg_tup rfl (pgs_cons (pg_name (i := 2) sc_check_tape.nd rfl (.inl rfl)) (pgs_cons (pg_name (i := 3) sc_check_tape.nd rfl (.inl rfl)) pgs_nil)))
  (pss_one (ps_if (PW.pt (pw_or (pt_cmpR op_eq (pv 2) (pe_gi (by rfl) T.c_MOST) (nomark _)) (pw_or1 (pt_not (pt_val (pe_callO O_is_row hr (by rfl) pass0 (pa_cons (pv 3) (pa_cons (pv 0) pa_nil))))))))
  (pss_one ps_never)
  pss_nil))))), ?_⟩
  refine q_skip (EvT.is (et_not (et_B (ev_isiL (b := true) (q_old (ev_var rfl) (by walk_at "fact")) ev_c (by decide +kernel)))) rfl) fun H1 e1 => ?_
  refine s_for (s := []) (i_enum (qa_old (ev_var rfl) (by walk_at "fact") (by walk_at "adm"))) (by simp) fun H2 e2 => ⟨fun i σ' H' => Ex H2 H' ∧ ∃ x y, σ' = [some (.int (w : Int)), some (.ref a1), x, y], ⟨Ex.refl _, none, none, rfl⟩, fun i σ' H' p => Ex.xb p.1, ?_, fun σ' H' p => k H' ((e1.trans e2).trans p.1)⟩
  rintro i ⟨row, n⟩ σ' H' H3 hi ⟨hx, x, y, rfl⟩ e3
  obtain ⟨rfl, hi⟩ := zipIdx_at hi
  have hn := (List.getElem?_eq_some_iff.mp hi).1
  have hlen := p0.len
  have hr := p0.row row (List.mem_of_getElem? hi)
  have hrl : row.length ≤ 40000 := by have := isRow_len hr; omega
  refine s_skip (EvT.is (et_or (et_test (ev_eqI (ev_var rfl) ev_c)) (fun hb16 => (et_not (et_B (ev_is_row (ag_V (ev_var rfl) (ag_V (ev_var rfl) ag_nil)) (by walk_at "side")))))) ?_) fun H4 e4 => ⟨(hx.trans e3).trans e4, _, _, rfl⟩
  simp only [hr, decide_eq_false (show ¬ ((n : Int) = 30) by omega)]
  rfl
def R_Punch___init__ (K : PySem.W.Frag) (mg : Str → Option Value) : (Addr → Prop) → List V → Hp → Addr → Dt → Pat → Prop := fun F vs H C d p => ∃ (rd : Dic) (w : Nat) (o : Option (List Row)), AllP [isR F (uD rd), isR F (uOL o)] vs H ∧ C = cA mg "Punch" ∧ ((RdOk rd w) ∧ (∀ t, o = some t → TpOk t w) ∧ True) ∧ d = (uPunch mg w rd (o.getD []) 0) ∧ p = (pP)
def sp_Punch___init__ (K : PySem.W.Frag) (mg : Str → Option Value) : Sp := spI 2 (R_Punch___init__ K mg)
theorem ev_new_Punch {K : PySem.W.Frag} {mg : Str → Option Value} {σ : L2.St} {H : Hp} {tr : TA} {E : XK} {M : Addr → Prop} {rd : Dic} {w : Nat} {o : Option (List Row)} (al : Al M H) (h : EvAG tr σ H [isR M (uD rd), isR M (uOL o)]) (p0 : RdOk rd w) (p1 : ∀ t, o = some t → TpOk t w) : EvP M (tMakeO (cA mg "Punch") (sp_Punch___init__ K mg) E tr) σ H (uPunch mg w rd (o.getD []) 0) (pP) := p_makeR (ds := [uD rd, uOL o]) al h rfl fun M vs H1 hp => ⟨rd, w, o, hp, rfl, ⟨p0, p1, trivial⟩, rfl, rfl⟩
theorem eo_new_Punch {K : PySem.W.Frag} {mg : Str → Option Value} {σ : L2.St} {H : Hp} {tr : TA} {E : XK} {M : Addr → Prop} {rd : Dic} {w : Nat} {o : Option (List Row)} (h : EvAG tr σ H [isR Mo (uD rd), isR Mo (uOL o)]) (p0 : RdOk rd w) (p1 : ∀ t, o = some t → TpOk t w) : EvP M (tMakeO (cA mg "Punch") (sp_Punch___init__ K mg) E tr) σ H (uPunch mg w rd (o.getD []) 0) (pP) := p_scal (ev_new_Punch (Mo_al H) h p0 p1) (scal_P)
theorem ok_Punch___init__ (T : Txt K mg) : OkID P wW K mg base CX0 (cA mg "Punch") 3 (sp_Punch___init__ K mg) [.non] := by
  have O_width_of : OkF P wW K mg base CX0 "width_of" 2 (sp_width_of K) := ok_width_of T
  have O_check_tape : OkF P wW K mg base CX0 "check_tape" 2 (sp_check_tape K) := ok_check_tape T
  refine OkID.of T.i_Punch sc_Punch___init__ (fun vs H Q E h => h.1) (fun f cdv A outer s Hb vs Q E hr h => ?_)
  obtain ⟨-, F, x_, dx_, C, r_, d0, p0_, rfl, hx, al, nf, ⟨rd, w, o, ⟨v0, r0, rfl, q0, ⟨v1, r1, rfl, q1, rfl⟩⟩, rfl, ⟨p0, p1, -⟩, rfl, rfl⟩, k⟩ := h
  have ok : Ok F (fun H' O' => Lt Hb (· = x_) H' O') [.own (.node (.i (cA mg "Punch") []) []) (.fs []), st (uD rd), st (uOL o)] _ Hb (Mb F [x_]) := Ok.startI al nf (by rw [hx]; simp) ⟨_, _, [x_], [], rfl, rfl, ow_new hx, ⟨_, _, [], [], rfl, rfl, ow_sh.mpr ⟨rfl, q0⟩, ⟨_, _, [], [], rfl, rfl, ow_sh.mpr ⟨rfl, q1⟩, ⟨rfl, rfl⟩⟩⟩⟩
  have zz : ∀ (H' : Hp) (O' : Addr → Prop), Lt Hb (· = x_) H' O' → Lt Hb (· = x_) H' O' := fun _ _ z => z
  have hu := hu_of hr
  refine ⟨_, (pss_cons (ps_fld (pv 0) (pe_callO O_width_of hr (by rfl) pass0 (pa_cons (pv 1) pa_nil)) rfl)
 (pss_cons (ps_fld (pv 0) (pe_callTy ct_dict (by rfl) T.z_dict (by decide +kernel) (pa_cons (pv 1) pa_nil)) rfl)
 (pss_cons (ps_fld (pv 0) (pe_lst pa_nil) rfl)
 (pss_cons (ps_fld (pv 0) pe_int rfl)
 (pss_one (ps_if (pt_cmpR op_isntNo (pv 2) pe_non (nomark _))
  (pss_cons (ps_expr (pe_callO O_check_tape hr (by rfl) pass0 (pa_cons (pe_fld (pv 0) rfl) (pa_cons (pv 2) pa_nil))))
 (pss_one (ps_fld (pv 0) (pe_callTy (kct_list (K := K)) (by rfl) T.z_list (by decide +kernel) (pa_cons (pv 2) pa_nil)) rfl)))
  pss_nil)))))), ?_⟩
  refine b_fld ok rfl (p_ev (ev_width_of (ag_D (ok.dd rfl) ag_nil) (by walk_at "side"))) T.k_Punch.cl T.f_Punch_width (by decide +kernel) (by decide) fun M H ok => ?_
  refine b_fld ok rfl (p_D (ed_dict (ok.dd rfl))) T.k_Punch.cl T.f_Punch_reader (by decide +kernel) (by decide) fun M H ok => ?_
  refine b_fld (d := uL uS []) (p := .ow .sh) ok rfl (p_lst (ds := []) rs_nil (by simp)) T.k_Punch.cl T.f_Punch_rows (by decide +kernel) (by decide) fun M H ok => ?_
  refine b_fld ok rfl (p_ev ev_c) T.k_Punch.cl T.f_Punch_made (by decide +kernel) (by decide) fun M H ok => ?_
  cases o with
  | none => exact c_skipE ok (EvT.is (et_test (ev_isntNo (ok.ev rfl) ev_c)) rfl) fun M H ok => c_endI (i := 0) (x := x_) ok rfl rfl k zz
  | some t =>
    have pt := p1 t rfl
    refine c_whenE (b := true) ok (et_test (ev_isntNoN (ok.nn rfl) ev_c)) (fun _ M H ok => ?_) (fun e => nomatch e)
    refine b_dropS ok (p_ev (ev_check_tape (ag_V (ev_r (EvR.is (r_fld (ns := ["width", "reader", "rows", "made"]) uN (ok.nn rfl) T.k_Punch.cl T.f_Punch_width 0 rfl (by decide +kernel) rfl) (by rfl))) (ag_L (ok.q rfl) ag_nil)) pt p0.w4)) fun M H ok => ?_
    exact c_fldAt 2 ok rfl (d := uL uS t) (p := .ow .sh) (p_list (ok.nx rfl rfl)) T.k_Punch.cl T.f_Punch_rows rfl (by decide +kernel) rfl (by decide) fun M H ok => c_endI (i := 0) (x := x_) ok rfl rfl k zz
def R__law_text (K : PySem.W.Frag) : List V → Hp → V → Prop := fun vs H z => ∃ (ns : List Int) (m : Int) (pl : List Row) (n : Int), AllP [isL K (Ints ns), isV (.int m), isL K (Txts pl), isV (.int n)] vs H ∧ ((0 ≤ m) ∧ (0 ≤ n) ∧ (n ≤ 30) ∧ (pl.length = 3) ∧ (∀ i, i < 3 → isLet (pl.getD i []) = true) ∧ True) ∧ z = VS (lawTx ns m pl n)
def sp__law_text (K : PySem.W.Frag) : Sp := spV  4 (R__law_text K)
theorem ev__law_text {K : PySem.W.Frag} {σ : L2.St} {H : Hp} {tr : TA} {E : XK} {ns : List Int} {m : Int} {pl : List Row} {n : Int} (h : EvAG tr σ H [isL K (Ints ns), isV (.int m), isL K (Txts pl), isV (.int n)]) (p0 : 0 ≤ m) (p1 : 0 ≤ n) (p2 : n ≤ 30) (p3 : pl.length = 3) (p4 : ∀ i, i < 3 → isLet (pl.getD i []) = true) : Ev (tCallO (sp__law_text K) E tr) σ H (VS (lawTx ns m pl n)) := ev_callG h rfl fun vs H1 e hp => ⟨ns, m, pl, n, hp, ⟨p0, p1, p2, p3, p4, trivial⟩, rfl⟩
theorem ok__law_text (T : Txt K mg) : OkF P wW K mg base CX0 "_law_text" 4 (sp__law_text K) := by
  have O__law_digits : OkF P wW K mg base CX0 "_law_digits" 3 (sp__law_digits K) := ok__law_digits T
  refine OkF.of T.d__law_text sc__law_text (fun vs H Q E h => h.1) (fun f cdv A outer s H vs Q E hr h => ?_)
  obtain ⟨-, z, H0, e0, ⟨ns, m, pl, n, ⟨v0, r0, rfl, ⟨a0, rfl, q0⟩, ⟨v1, r1, rfl, rfl, ⟨v2, r2, rfl, ⟨a2, rfl, q2⟩, ⟨v3, r3, rfl, rfl, rfl⟩⟩⟩⟩, ⟨p0, p1, p2, p3, p4, -⟩, rfl⟩, k⟩ := h
  have h0 := exl e0 q0
  clear q0
  have h2 := exl e0 q2
  clear q2
  clear e0 H0
  have hu := hu_of hr
  refine ⟨_, (pss_cons (ps_set (i := 4) sc__law_text.nd rfl (.inl rfl) (pe_callO O__law_digits hr (by rfl) pass0 (pa_cons (pv 0) (pa_cons (pv 1) (pa_cons (pv 3) (pa_cons (pe_op op_mul pe_int pe_int) pa_nil))))))
 (pss_cons (ps_set (i := 5) sc__law_text.nd rfl (.inr rfl) pe_str)
 (pss_one (ps_ret (kpe_joinQ (K := K) pe_str (pe_lc (own := [("_law_draw_here", 6)]) (g := gName 6) rfl sc__law_text.nd (kpi_list (K := K) (pv 4)) (blkOk_by (N := N__law_text) (sc := defScope s__law_text) (by decide +kernel)) (fun _ _ _ _ _ => (pg_name (i := 6) sc__law_text.nd rfl (.inl rfl))) (fun _ _ _ _ _ => pts_nil) (fun _ _ _ _ _ => (pe_ifExp (pt_cmpR op_lt (pe_op op_fdiv (pv 6) pe_int) pe_int (nomark _)) (pe_ix (kix_list (K := K)) (pv 2) (pe_op op_mod (pe_op op_fdiv (pv 6) pe_int) pe_int) (fun _ _ => rfl)) (pe_ix ix_str (pv 5) (pe_op op_mod (pv 6) pe_int) (fun _ _ => rfl)))))))))), ?_⟩
  refine q_asgL (ev__law_digits (ag_L (q_old (ev_var rfl) (by walk_at "fact")) (ag_V (ev_var rfl) (ag_V (ev_var rfl) (ag_V (ev_mul ev_c ev_c (by walk_at "cmul")) ag_nil)))) (by walk_at "side") (by walk_at "side") (by walk_at "side") (by walk_at "side") (by walk_at "side")) fun p H1 hp0 e1 hp => ?_
  have hp : SL K H1 p (Ints (digits ns m n 624)) := slof hp
  have hlen : (digits ns m n 624).length ≤ 30 := by rw [digits_len]; omega
  have hz : (lawText (digits ns m n 624) pl).length ≤ 100000 := by rw [lawText_len p4]; omega
  unfold lawText at hz
  have hrng := digits_mem (ns := ns) (k := m) (m := n) (b := 624) (by decide)
  refine q_asg (ev_cS (l := [97, 98, 99, 100, 101, 102, 103, 104, 105, 106, 107, 108, 109, 110, 111, 112, 113, 114, 115, 116, 117, 118, 119, 120, 121, 122]) (by decide +kernel)) fun H2 e2 => ?_
  have hi1 : ∀ d : Int, 0 ≤ d / 26 % 3 := fun d => Int.emod_nonneg _ (by decide)
  have hi2 : ∀ d : Int, d / 26 % 3 < 3 := fun d => Int.emod_lt_of_pos _ (by decide)
  have hi3 : ∀ d : Int, 0 ≤ d % 26 := fun d => Int.emod_nonneg _ (by decide)
  have hi4 : ∀ d : Int, d % 26 < 26 := fun d => Int.emod_lt_of_pos _ (by decide)
  have hi5 : ∀ d : Int, d / 26 % 3 < (pl.length : Int) := fun d => by have := hi2 d; omega
  have hi6 : ∀ d : Int, d % 26 < (([97, 98, 99, 100, 101, 102, 103, 104, 105, 106, 107, 108, 109, 110, 111, 112, 113, 114, 115, 116, 117, 118, 119, 120, 121, 122] : Row).length : Int) := fun d => hi4 d
  exact s_ret2 (Ev.is (ev_joinQ (ev_cS lit_nil) (q_new (el_lc1 (i_list (qa_old (ev_var rfl) (by walk_at "fact") trivial)) (by walk_at "len") (fun _ => wipe_one _ _ _) (fun x17 hx17 H117 e117 => (ev_ifS (et_test (ev_lt (ev_fdiv (ev_var rfl) ev_c (by walk_at "cdiv")) ev_c)) (fun hb18 => (ev_ixQ ([] : Row) (q_old (ev_var rfl) (by walk_at "fact")) (ev_mod (ev_fdiv (ev_var rfl) ev_c (by walk_at "cdiv")) ev_c (by walk_at "side")) (by walk_at "side") (by walk_at "side"))) (fun hb18 => (ev_ixS (ev_var rfl) (ev_mod (ev_var rfl) ev_c (by walk_at "side")) (by walk_at "side") (by walk_at "side") (by walk_at "side"))))))) (by walk_at "len")) rfl) (RetV.ex k (e1.trans e2))
def R_Punch_standing (K : PySem.W.Frag) (mg : Str → Option Value) : (Addr → Prop) → List V → Hp → Dt → Pat → Prop := fun F vs H d p => ∃ (rd : Dic) (w : Nat) (t : List Row) (n : Int), AllP [isR F (uPunch mg w rd t n)] vs H ∧ (True) ∧ d = (uL uS t) ∧ p = (.ow .sh)
def sp_Punch_standing (K : PySem.W.Frag) (mg : Str → Option Value) : Sp := spR 1 (R_Punch_standing K mg)
theorem ev_Punch_standing {K : PySem.W.Frag} {mg : Str → Option Value} {σ : L2.St} {H : Hp} {tr : TA} {E : XK} {M : Addr → Prop} {rd : Dic} {w : Nat} {t : List Row} {n : Int} {sel : Addr → Sp → Prop} (hsel_ : sel (cA mg "Punch") (sp_Punch_standing K mg)) {ta : TE} (al : Al M H) (h0 : EvR M ta σ H (uPunch mg w rd t n)) (h : EvAG tr σ H [])  : EvP M (tMethU sel "standing" E ta tr) σ H (uL uS t) (.ow .sh) := p_methR al h0 h hsel_ (by decide +kernel) rfl fun vs H1 hp => ⟨rd, w, t, n, hp, trivial, rfl, rfl⟩
theorem eo_Punch_standing {K : PySem.W.Frag} {mg : Str → Option Value} {σ : L2.St} {H : Hp} {tr : TA} {E : XK} {M : Addr → Prop} {rd : Dic} {w : Nat} {t : List Row} {n : Int} {sel : Addr → Sp → Prop} (hsel_ : sel (cA mg "Punch") (sp_Punch_standing K mg)) {ta : TE} (h0 : EvR Mo ta σ H (uPunch mg w rd t n)) (h : EvAG tr σ H [])  : EvP M (tMethU sel "standing" E ta tr) σ H (uL uS t) (.ow .sh) := p_scal (ev_Punch_standing hsel_ (Mo_al H) h0 h ) (scal_LS)
theorem ok_Punch_standing (T : Txt K mg) : OkM P wW K mg base CX0 (cA mg "Punch") "standing" 1 (sp_Punch_standing K mg) := by
  refine OkM.of T.m_Punch_standing sc_Punch_standing (fun vs H Q E h => h.1) (fun f cdv A outer s Hb vs Q E hr h => ?_)
  obtain ⟨-, F, d0, p0_, al, ⟨rd, w, t, n, ⟨v0, r0, rfl, q0, rfl⟩, -, rfl, rfl⟩, k⟩ := h
  have ok : Ok F (fun H' O' => Lt Hb Mo H' O') [st (uPunch mg w rd t n)] _ Hb F := Ok.start al ⟨_, _, [], [], rfl, rfl, ow_sh.mpr ⟨rfl, q0⟩, ⟨rfl, rfl⟩⟩
  have zz : ∀ (H' : Hp) (O' : Addr → Prop), Lt Hb Mo H' O' → Lt Hb Mo H' O' := fun _ _ z => z
  have hu := hu_of hr
  refine ⟨_, (pss_one (ps_ret (pe_callTy (kct_list (K := K)) (by rfl) T.z_list (by decide +kernel) (pa_cons (pe_fld (pv 0) rfl) pa_nil)))), ?_⟩
  exact c_ret ok (p_list (r_n (EvR.is (r_fld (ns := ["width", "reader", "rows", "made"]) uN (ok.nx rfl rfl) T.k_Punch.cl T.f_Punch_rows 2 rfl (by decide +kernel) rfl) (by rfl)))) k zz
def sel_standing (K : PySem.W.Frag) (mg : Str → Option Value) : Addr → Sp → Prop := fun C sp => (C = cA mg "Punch" ∧ sp = sp_Punch_standing K mg)
theorem hsel_standing (T : Txt K mg) : ∀ C sp, sel_standing K mg C sp → Cls K C ∧ OkM P wW K mg base CX0 C "standing" 1 sp := by
  intro C sp h
  obtain ⟨rfl, rfl⟩ := h
  · exact ⟨T.k_Punch.cl, (ok_Punch_standing T).mono (by decide)⟩
def R__law_over (K : PySem.W.Frag) : List V → Hp → V → Prop := fun vs H z => ∃ (r o : Row) (w : Nat), AllP [isV (VS r), isV (VS o)] vs H ∧ ((isRow r (w : Int) = true) ∧ (isRow o (w : Int) = true) ∧ (w ≤ 4) ∧ True) ∧ z = .bl (goes r o)
def sp__law_over (K : PySem.W.Frag) : Sp := spV  2 (R__law_over K)
theorem ev__law_over {K : PySem.W.Frag} {σ : L2.St} {H : Hp} {tr : TA} {E : XK} {r o : Row} {w : Nat} (h : EvAG tr σ H [isV (VS r), isV (VS o)]) (p0 : isRow r (w : Int) = true) (p1 : isRow o (w : Int) = true) (p2 : w ≤ 4) : Ev (tCallO (sp__law_over K) E tr) σ H (.bl (goes r o)) := ev_callG h rfl fun vs H1 e hp => ⟨r, o, w, hp, ⟨p0, p1, p2, trivial⟩, rfl⟩
theorem ok__law_over (T : Txt K mg) : OkF P wW K mg base CX0 "_law_over" 1 (sp__law_over K) := by
  refine OkF.of T.d__law_over sc__law_over (fun vs H Q E h => h.1) (fun f cdv A outer s H vs Q E hr h => ?_)
  obtain ⟨-, z, H0, e0, ⟨r, o, w, ⟨v0, r0, rfl, rfl, ⟨v1, r1, rfl, rfl, rfl⟩⟩, ⟨p0, p1, p2, -⟩, rfl⟩, k⟩ := h
  clear e0 H0
  have hu := hu_of hr
  refine ⟨_, (pss_one (ps_ret (pe_and (pe_cmpR op_eq (pe_callB cb_lenS (by rfl) T.z_len (by decide +kernel) (pa_cons (pv 0) pa_nil)) (pe_callB cb_lenS (by rfl) T.z_len (by decide +kernel) (pa_cons (pv 1) pa_nil)) (nomark _)) (pe_one (pe_callB (kcr_all (K := K) rfl) (by rfl) T.z_all (by decide +kernel) (pa_cons (pe_lc (own := [("_law_one", 2), ("_law_new", 3)]) (g := gTup K 2 (gCons (gName 2) (gCons (gName 3) gNil))) rfl sc__law_over.nd (pi_zipSS (by rfl) T.z_zip (pa_cons (pv 0) (pa_cons (pv 1) pa_nil))) (blkOk_by (N := N__law_over) (sc := defScope s__law_over) (by decide +kernel)) (fun _ _ _ _ _ => (pg_tup rfl (pgs_cons (pg_name (i := 2) sc__law_over.nd rfl (.inl rfl)) (pgs_cons (pg_name (i := 3) sc__law_over.nd rfl (.inl rfl)) pgs_nil)))) (fun _ _ _ _ _ => pts_nil) (fun _ _ _ _ _ => (pe_or (pe_cmpR op_eq (pv 2) pe_str (nomark _)) (pe_one (pe_cmpR op_eq (pv 3) pe_str (nomark _)))))) pa_nil)))))), ?_⟩
  have h1 := isRow_len p0
  have h2 := isRow_len p1
  exact s_ret2 (Ev.is (ev_andV (ev_eqI (ev_lenS (ev_var rfl) (by walk_at "side")) (ev_lenS (ev_var rfl) (by walk_at "side"))) (fun hb21 => (ev_allQ (q_new (el_lc1 (i_zipSS (ev_var rfl) (ev_var rfl)) (by walk_at "len") (fun _ => wipe_two _ (by decide) _ _) (fun x19 hx19 H119 e119 => (ev_orV (ev_eqS (ev_var rfl) (ev_cS lit_dot)) (fun hb20 => (ev_eqS (ev_var rfl) (ev_cS lit_o)))))))))) (by rw [← goes_alt p0 p1])) k
def R__law_means (K : PySem.W.Frag) : List V → Hp → V → Prop := fun vs H z => ∃ (rd : Dic) (r : Row), AllP [isD (DS rd), isV (VS r)] vs H ∧ (True) ∧ z = VS (mean rd r)
def sp__law_means (K : PySem.W.Frag) : Sp := spV  2 (R__law_means K)
theorem ev__law_means {K : PySem.W.Frag} {σ : L2.St} {H : Hp} {tr : TA} {E : XK} {rd : Dic} {r : Row} (h : EvAG tr σ H [isD (DS rd), isV (VS r)])  : Ev (tCallO (sp__law_means K) E tr) σ H (VS (mean rd r)) := ev_callG h rfl fun vs H1 e hp => ⟨rd, r, hp, trivial, rfl⟩
theorem ok__law_means (T : Txt K mg) : OkF P wW K mg base CX0 "_law_means" 1 (sp__law_means K) := by
  refine OkF.of T.d__law_means sc__law_means (fun vs H Q E h => h.1) (fun f cdv A outer s H vs Q E hr h => ?_)
  obtain ⟨-, z, H0, e0, ⟨rd, r, ⟨v0, r0, rfl, ⟨a0, rfl, q0⟩, ⟨v1, r1, rfl, rfl, rfl⟩⟩, -, rfl⟩, k⟩ := h
  have h0 := exh e0 q0
  clear q0
  clear e0 H0
  have hu := hu_of hr
  refine ⟨_, (pss_one (ps_ret (pe_ifExp (pt_cmp (pc_din hu (pv 1) (pv 0))) (pe_dget hu (pv 0) (pv 1) (fun _ _ => rfl)) pe_str))), ?_⟩
  refine s_ret2 (Ev.is (ev_ifS (et_B (ev_din (ev_var rfl) (ev_var rfl) (by walk_at "facth"))) (fun hb22 => (ev_dget (ev_var rfl) (by walk_at "facth") (ev_var rfl) (by walk_at "side"))) (fun hb22 => (ev_cS lit_nil))) ?_) k
  unfold mean
  cases look rd r <;> rfl
def R__law_holes (K : PySem.W.Frag) : List V → Hp → V → Prop := fun vs H z => ∃ (t : List Row) (w : Nat), AllP [isL K (Txts t)] vs H ∧ ((TpOk t w) ∧ (w ≤ 4) ∧ True) ∧ z = .int (holesOf t)
def sp__law_holes (K : PySem.W.Frag) : Sp := spV  1 (R__law_holes K)
theorem ev__law_holes {K : PySem.W.Frag} {σ : L2.St} {H : Hp} {tr : TA} {E : XK} {t : List Row} {w : Nat} (h : EvAG tr σ H [isL K (Txts t)]) (p0 : TpOk t w) (p1 : w ≤ 4) : Ev (tCallO (sp__law_holes K) E tr) σ H (.int (holesOf t)) := ev_callG h rfl fun vs H1 e hp => ⟨t, w, hp, ⟨p0, p1, trivial⟩, rfl⟩
theorem ok__law_holes (T : Txt K mg) : OkF P wW K mg base CX0 "_law_holes" 1 (sp__law_holes K) := by
  refine OkF.of T.d__law_holes sc__law_holes (fun vs H Q E h => h.1) (fun f cdv A outer s H vs Q E hr h => ?_)
  obtain ⟨-, z, H0, e0, ⟨t, w, ⟨v0, r0, rfl, ⟨a0, rfl, q0⟩, rfl⟩, ⟨p0, p1, -⟩, rfl⟩, k⟩ := h
  have h0 := exl e0 q0
  clear q0
  clear e0 H0
  have hu := hu_of hr
  refine ⟨_, (pss_one (ps_ret (pe_callB (kcr_sum (K := K) rfl) (by rfl) T.z_sum (by decide +kernel) (pa_cons (pe_lc (own := [("_law_row", 1)]) (g := gName 1) rfl sc__law_holes.nd (kpi_list (K := K) (pv 0)) (blkOk_by (N := N__law_holes) (sc := defScope s__law_holes) (by decide +kernel)) (fun _ _ _ _ _ => (pg_name (i := 1) sc__law_holes.nd rfl (.inl rfl))) (fun _ _ _ _ _ => pts_nil) (fun _ _ _ _ _ => (pe_callB (kcb_lenQ (K := K)) (by rfl) T.z_len (by decide +kernel) (pa_cons (pe_lc (own := [("_law_sign", 2)]) (g := gName 2) rfl sc__law_holes.nd (pi_str (pv 1)) (blkOk_by (N := N__law_holes) rfl) (fun _ _ _ _ _ => (pg_name (i := 2) sc__law_holes.nd rfl (.inl rfl))) (fun _ _ _ _ _ => (pts_one (pt_cmpR op_eq (pv 2) pe_str (nomark _)))) (fun _ _ _ _ _ => (pv 2))) pa_nil)))) pa_nil)))), ?_⟩
  have hl : t.length ≤ 30 := p0.len
  have hr : ∀ r ∈ t, r.length ≤ 40000 := fun r h => by have := isRow_len (p0.row r h); omega
  refine s_ret2 (Ev.is (ev_sumQ (q_new (el_lc1 (i_list (qa_old (ev_var rfl) (by walk_at "fact") trivial)) (by walk_at "len") (fun _ => wipe_one _ _ _) (fun x23 hx23 H123 e123 => (ev_lenQ (q_new (el_lc (i_str (ev_var rfl)) (by walk_at "len") (fun _ => wipe_one _ _ _) (fun x24 hx24 H124 e124 => (et_test (ev_eqS (ev_var rfl) (ev_cS lit_o)))) (fun x24 hx24 hy24 H124 e124 => (ev_var rfl))))))))) ?_) k
  unfold holesOf
  refine congrArg V.int (congrArg List.sum (List.map_congr_left fun r _ => ?_))
  rw [List.count_eq_countP, List.countP_eq_length_filter]
  refine congrArg (fun l : List Nat => (l.length : Int)) (List.filter_congr fun c _ => ?_)
  by_cases h : c = 111 <;> simp [h]
def R__law_cost (K : PySem.W.Frag) (mg : Str → Option Value) : (Addr → Prop) → List V → Hp → Dt → Pat → Prop := fun F vs H d p => ∃ (rd : Dic) (r l : Row) (w : Nat), AllP [isR F (uD rd), isR F (uS r), isR F (uS l)] vs H ∧ ((isRow r (w : Int) = true) ∧ (w ≤ 4) ∧ True) ∧ d = (Dt.sc (vO (chp rd r l))) ∧ p = .sh
def sp__law_cost (K : PySem.W.Frag) (mg : Str → Option Value) : Sp := spR 3 (R__law_cost K mg)
theorem ev__law_cost {K : PySem.W.Frag} {mg : Str → Option Value} {σ : L2.St} {H : Hp} {tr : TA} {E : XK} {rd : Dic} {r l : Row} {w : Nat} (h : EvAG tr σ H [isR Mo (uD rd), isR Mo (uS r), isR Mo (uS l)]) (p0 : isRow r (w : Int) = true) (p1 : w ≤ 4) : Ev (tCallO (sp__law_cost K mg) E tr) σ H (vO (chp rd r l)) := ev_p (M := Mo) (p := .sh) (p_callR (Mo_al H) h rfl fun vs H1 hp => ⟨rd, r, l, w, hp, ⟨p0, p1, trivial⟩, rfl, rfl⟩)
theorem ok__law_cost (T : Txt K mg) : OkF P wW K mg base CX0 "_law_cost" 2 (sp__law_cost K mg) := by
  have O__law_rows : OkF P wW K mg base CX0 "_law_rows" 1 (sp__law_rows K) := ok__law_rows T
  have O__law_over : OkF P wW K mg base CX0 "_law_over" 1 (sp__law_over K) := ok__law_over T
  have O__law_means : OkF P wW K mg base CX0 "_law_means" 1 (sp__law_means K) := ok__law_means T
  have O__law_holes : OkF P wW K mg base CX0 "_law_holes" 1 (sp__law_holes K) := ok__law_holes T
  refine OkF.of T.d__law_cost sc__law_cost (fun vs H Q E h => h.1) (fun f cdv A outer s Hb vs Q E hr h => ?_)
  obtain ⟨-, F, d0, p0_, al, ⟨rd, r, l, w, ⟨v0, r0, rfl, q0, ⟨v1, r1, rfl, q1, ⟨v2, r2, rfl, q2, rfl⟩⟩⟩, ⟨p0, p1, -⟩, rfl, rfl⟩, k⟩ := h
  have ok : Ok F (fun H' O' => Lt Hb Mo H' O') [st (uD rd), st (uS r), st (uS l), .una, .una] _ Hb F := Ok.start al ⟨_, _, [], [], rfl, rfl, ow_sh.mpr ⟨rfl, q0⟩, ⟨_, _, [], [], rfl, rfl, ow_sh.mpr ⟨rfl, q1⟩, ⟨_, _, [], [], rfl, rfl, ow_sh.mpr ⟨rfl, q2⟩, ⟨_, rfl, ⟨_, rfl, ⟨rfl, rfl⟩⟩⟩⟩⟩⟩
  have zz : ∀ (H' : Hp) (O' : Addr → Prop), Lt Hb Mo H' O' → Lt Hb Mo H' O' := fun _ _ z => z
  have hu := hu_of hr
  refine ⟨_, (pss_cons (ps_set (i := 3) sc__law_cost.nd rfl (.inl rfl) (pe_lst pa_nil))
 (pss_cons (ps_for PassesOwn.never rfl (kpi_list (K := K) (pe_callO O__law_rows hr (by rfl) pass0 (pa_cons (pe_callB cb_lenS (by rfl) T.z_len (by decide +kernel) (pa_cons (pv 1) pa_nil)) pa_nil))) (pg_name (i := 4) sc__law_cost.nd rfl (.inl rfl))
  (pss_one (ps_if (PW.pt (pw_and (pt_val (pe_callO O__law_over hr (by rfl) pass0 (pa_cons (pv 1) (pa_cons (pv 4) pa_nil)))) (pw_and1 (pt_cmpR op_eq (pe_callO O__law_means hr (by rfl) pass0 (pa_cons (pv 0) (pa_cons (pv 4) pa_nil))) (pv 2) (nomark _)))))
  (pss_one (ps_expr (pe_bm PySem.F.plainAttrs_list PySem.F.slot_list_append PySem.F.type_list_append mt_append (pv 3) (pa_cons (pe_op op_sub (pe_callO O__law_holes hr (by rfl) pass0 (pa_cons (pe_lst (pa_cons (pv 4) pa_nil)) pa_nil)) (pe_callO O__law_holes hr (by rfl) pass0 (pa_cons (pe_lst (pa_cons (pv 1) pa_nil)) pa_nil))) pa_nil))))
  pss_nil)))
 (pss_one (ps_ret (pe_ifExp (pt_cmpR (kop_neD (K := K) hr.units) (pv 3) (pe_lst pa_nil) (nomark _)) (pe_callB (kcr_minL (K := K) rfl hr.units) (by rfl) T.z_min (by decide +kernel) (pa_cons (pv 3) pa_nil)) pe_non))))), ?_⟩
  have hrl := isRow_len p0
  have hr4 : r.length ≤ 4 := by omega
  have hrow : ∀ o ∈ rowsL (r.length : Int), isRow o (w : Int) = true := fun o ho => by rw [← hrl]; exact rowsL_row _ _ ho
  have hle := rowsL_le (w := (r.length : Int)) (by omega)
  have tp1 : ∀ o, isRow o (w : Int) = true → TpOk [o] w := fun o ho => ⟨by simp, fun r hr => by rw [List.mem_singleton.mp hr]; exact ho⟩
  have hh : ∀ o, holesOf [o] = (o.count 111 : Int) := fun o => by unfold holesOf; simp
  refine b_asg (d := uL uI []) ok (p_lst (ds := []) rs_nil (by simp)) fun M σ H ok => ?_
  refine b_for (fun i ρ => ∃ a, ρ = [st (uD rd), st (uS r), st (uS l), mu (uL uI ((((rowsL (r.length : Int)).take i).filter fun o => goes r o && decide (mean rd o = l)).map (costOf r))), a]) ok (j_listR (r_p ok.al (p_L (ev__law_rows (ag_V (ev_lenS (ok.ev rfl) (by walk_at "side")) ag_nil) (by walk_at "side") (by walk_at "side"))))) ⟨_, rfl⟩ ?_ ?_
  · rintro Z1 z1 i o ρ M σ H hi ⟨a, rfl⟩ ok
    have hi0 : (rowsL (r.length : Int))[i]? = some o := hi
    have hil := (List.getElem?_eq_some_iff.mp hi0).1
    have ho := hrow o (List.mem_of_getElem? hi0)
    have hlen : ∀ i, ((((rowsL (r.length : Int)).take i).filter fun o => goes r o && decide (mean rd o = l)).map (costOf r)).length ≤ 16 := fun i => by
      rw [List.length_map]
      refine Nat.le_trans (List.length_filter_le _ _) ?_
      rw [List.length_take]
      omega
    refine c_when (b := goes r o && decide (mean rd o = l)) ok (EvT.is (et_and (et_B (ev__law_over (ag_V (ok.ev rfl) (ag_V (ok.ev rfl) ag_nil)) p0 ho p1)) (fun hb1 => (et_test (ev_eqS (ev__law_means (ag_D (ok.dd rfl) (ag_V (ok.ev rfl) ag_nil))) (ok.ev rfl))))) rfl) (fun hb M σ H ok => ?_) (fun hb M σ H ok => ⟨_, _, ok, _, by rw [List.take_succ, hi0, List.filter_append, show (List.filter (fun o => goes r o && decide (mean rd o = l)) (some o).toList) = [] by simp [hb], List.append_nil]; rfl⟩)
    refine c_app (x := costOf r o) ok rfl (EvR.is (r_ev (ev_sub (ev__law_holes (ag_L (q_new (el_lst (emS_cons (ok.ev rfl) emS_nil) (by simp))) ag_nil) (tp1 o ho) p1) (ev__law_holes (ag_L (q_new (el_lst (emS_cons (ok.ev rfl) emS_nil) (by simp))) ag_nil) (tp1 r p0) p1))) (by rw [hh, hh]; rfl)) (by have := hlen i; omega) fun M σ H ok => ⟨_, _, ok, _, by rw [show (((rowsL (r.length : Int)).take (i + 1)).filter fun o => goes r o && decide (mean rd o = l)).map (costOf r) = ((((rowsL (r.length : Int)).take i).filter fun o => goes r o && decide (mean rd o = l)).map (costOf r)) ++ [costOf r o] by rw [List.take_succ, hi0, List.filter_append, show (List.filter (fun o => goes r o && decide (mean rd o = l)) (some o).toList) = [o] by simp [hb], List.map_append]; rfl]; rfl⟩
  · rintro ρ M σ H ⟨a, rfl⟩ ok
    have ok : Ok F _ [st (uD rd), st (uS r), st (uS l), mu (uL uI ((((rowsL (r.length : Int)).take (rowsL (r.length : Int)).length).filter fun o => goes r o && decide (mean rd o = l)).map (costOf r))), a] σ H M := ok
    have hchp : chp rd r l = lMin (((rowsL (r.length : Int)).filter fun o => goes r o && decide (mean rd o = l)).map (costOf r)) := by
      unfold chp aboveL
      rw [List.filter_filter]
      congr 2
      exact List.filter_congr fun o _ => Bool.and_comm _ _
    rw [List.take_length] at ok
    refine c_ret ok (EvP.is (p_ev (ev_ifV (et_test (ev_neLI (ok.q rfl) (q_new el_nilM))) (fun hb2 => (ev_minQ (ok.q rfl) (by simpa using hb2))) (fun hb2 => ev_c))) ?_) k zz
    rw [hchp]
    generalize ((rowsL (r.length : Int)).filter fun o => goes r o && decide (mean rd o = l)).map (costOf r) = L
    cases L <;> rfl
def R__law_fewest (K : PySem.W.Frag) (mg : Str → Option Value) : (Addr → Prop) → List V → Hp → Dt → Pat → Prop := fun F vs H d p => ∃ (rd : Dic) (w : Nat) (t : List Row) (x : Row), AllP [isR F (uD rd), isR F (uL uS t), isR F (uS x)] vs H ∧ ((RdOk rd w) ∧ (TpOk t w) ∧ (x.length ≤ 30) ∧ True) ∧ d = (Dt.sc (vO (opAt rd t x t.length x.length))) ∧ p = .sh
def sp__law_fewest (K : PySem.W.Frag) (mg : Str → Option Value) : Sp := spR 3 (R__law_fewest K mg)
theorem ev__law_fewest {K : PySem.W.Frag} {mg : Str → Option Value} {σ : L2.St} {H : Hp} {tr : TA} {E : XK} {rd : Dic} {w : Nat} {t : List Row} {x : Row} (h : EvAG tr σ H [isR Mo (uD rd), isR Mo (uL uS t), isR Mo (uS x)]) (p0 : RdOk rd w) (p1 : TpOk t w) (p2 : x.length ≤ 30) : Ev (tCallO (sp__law_fewest K mg) E tr) σ H (vO (opAt rd t x t.length x.length)) := ev_p (M := Mo) (p := .sh) (p_callR (Mo_al H) h rfl fun vs H1 hp => ⟨rd, w, t, x, hp, ⟨p0, p1, p2, trivial⟩, rfl, rfl⟩)
theorem ok__law_fewest (T : Txt K mg) : OkF P wW K mg base CX0 "_law_fewest" 3 (sp__law_fewest K mg) := by
  have O__law_cost : OkF P wW K mg base CX0 "_law_cost" 2 (sp__law_cost K mg) := ok__law_cost T
  refine OkF.of T.d__law_fewest sc__law_fewest (fun vs H Q E h => h.1) (fun f cdv A outer s Hb vs Q E hr h => ?_)
  obtain ⟨-, F, d0, p0_, al, ⟨rd, w, t, x, ⟨v0, r0, rfl, q0, ⟨v1, r1, rfl, q1, ⟨v2, r2, rfl, q2, rfl⟩⟩⟩, ⟨p0, p1, p2, -⟩, rfl, rfl⟩, k⟩ := h
  have ok : Ok F (fun H' O' => Lt Hb Mo H' O') [st (uD rd), st (uL uS t), st (uS x), .una, .una, .una, .una, .una, .una] _ Hb F := Ok.start al ⟨_, _, [], [], rfl, rfl, ow_sh.mpr ⟨rfl, q0⟩, ⟨_, _, [], [], rfl, rfl, ow_sh.mpr ⟨rfl, q1⟩, ⟨_, _, [], [], rfl, rfl, ow_sh.mpr ⟨rfl, q2⟩, ⟨_, rfl, ⟨_, rfl, ⟨_, rfl, ⟨_, rfl, ⟨_, rfl, ⟨_, rfl, ⟨rfl, rfl⟩⟩⟩⟩⟩⟩⟩⟩⟩⟩
  have zz : ∀ (H' : Hp) (O' : Addr → Prop), Lt Hb Mo H' O' → Lt Hb Mo H' O' := fun _ _ z => z
  have hu := hu_of hr
  refine ⟨_, (pss_cons (ps_set (i := 4) sc__law_fewest.nd rfl (.inl rfl) (pe_op op_cat (pe_lst (pa_cons pe_int pa_nil)) (pe_op op_rep (pe_lst (pa_cons pe_non pa_nil)) (pe_callB cb_lenS (by rfl) T.z_len (by decide +kernel) (pa_cons (pv 2) pa_nil)))))
 (pss_cons (ps_for PassesOwn.never rfl (kpi_list (K := K) (pv 1)) (pg_name (i := 7) sc__law_fewest.nd rfl (.inl rfl))
  (pss_cons (ps_par3 (i := 3) (j := 4) (l := 8) rfl sc__law_fewest.nd rfl rfl rfl (by decide) (by decide) (by decide) rfl rfl rfl (pa_cons (pv 4) (pa_cons (pe_lst pa_nil) (pa_cons (pe_callO O__law_cost hr (by rfl) pass0 (pa_cons (pv 0) (pa_cons (pv 7) (pa_cons pe_str pa_nil)))) pa_nil))) (by rfl))
 (pss_one (ps_for PassesOwn.never rfl (pi_range1 rfl T.z_range (pa_cons (pe_op op_add (pe_callB cb_lenS (by rfl) T.z_len (by decide +kernel) (pa_cons (pv 2) pa_nil)) pe_int) pa_nil)) (pg_name (i := 5) sc__law_fewest.nd rfl (.inl rfl))
  (pss_cons (ps_set (i := 6) sc__law_fewest.nd rfl (.inl rfl) (pe_ifExp (pt_cmpR op_isntNo (pe_ix (kix_list (K := K)) (pv 3) (pv 5) (fun _ _ => rfl)) pe_non (nomark _)) (pe_lst (pa_cons (pe_op op_add (pe_ix (kix_list (K := K)) (pv 3) (pv 5) (fun _ _ => rfl)) (pv 8)) pa_nil)) (pe_lst pa_nil)))
 (pss_cons (ps_if (PW.pt (pw_and (pt_cmpR op_gt (pv 5) pe_int (nomark _)) (pw_and (pt_cmpR op_isntNo (pe_ix (kix_list (K := K)) (pv 3) (pe_op op_sub (pv 5) pe_int) (fun _ _ => rfl)) pe_non (nomark _)) (pw_and1 (pt_cmpR op_isntNo (pe_callO O__law_cost hr (by rfl) pass0 (pa_cons (pv 0) (pa_cons (pv 7) (pa_cons (pe_ix ix_str (pv 2) (pe_op op_sub (pv 5) pe_int) (fun _ _ => rfl)) pa_nil)))) pe_non (nomark _))))))
  (pss_one (ps_expr (pe_bm PySem.F.plainAttrs_list PySem.F.slot_list_append PySem.F.type_list_append mt_append (pv 6) (pa_cons (pe_op op_add (pe_ix (kix_list (K := K)) (pv 3) (pe_op op_sub (pv 5) pe_int) (fun _ _ => rfl)) (pe_callO O__law_cost hr (by rfl) pass0 (pa_cons (pv 0) (pa_cons (pv 7) (pa_cons (pe_ix ix_str (pv 2) (pe_op op_sub (pv 5) pe_int) (fun _ _ => rfl)) pa_nil))))) pa_nil))))
  pss_nil)
 (pss_one (ps_expr (pe_bm PySem.F.plainAttrs_list PySem.F.slot_list_append PySem.F.type_list_append mt_append (pv 4) (pa_cons (pe_ifExp (pt_cmpR (kop_neD (K := K) hr.units) (pv 6) (pe_lst pa_nil) (nomark _)) (pe_callB (kcr_minL (K := K) rfl hr.units) (by rfl) T.z_min (by decide +kernel) (pa_cons (pv 6) pa_nil)) pe_non) pa_nil))))))))))
 (pss_one (ps_ret (pe_ix (kix_list (K := K)) (pv 4) (pe_callB cb_lenS (by rfl) T.z_len (by decide +kernel) (pa_cons (pv 2) pa_nil)) (fun _ _ => rfl)))))), ?_⟩
  have hw := p0.w4
  have htl := p1.len
  refine b_asg (d := uL uO (opLine rd t x 0)) (p := .ow .sh) ok (EvP.is (p_cat (f := uO) (xs := [some 0]) (ys := List.replicate x.length none) (n_p ok.al (p_lst (rs_cons (r_ev ev_c) rs_nil) (by simp))) (n_is (n_p ok.al (p_rep (f := uO) (xs := [none]) (n_p ok.al (p_lst (rs_cons (r_ev ev_c) rs_nil) (by simp))) (ev_lenS (ok.ev rfl) (by omega)) (by omega) (by omega) (by simp; omega))) (by simp)) (by simp; omega)) (by rw [opLine_zero]; rfl)) fun M σ H ok => ?_
  refine b_for (fun i ρ => ∃ a b c d e, ρ = [st (uD rd), st (uL uS t), st (uS x), a, mu (uL uO (opLine rd t x i)), b, c, d, e]) ok (j_listR (ok.r rfl)) ⟨_, _, _, _, _, rfl⟩ ?_ ?_
  · rintro Z1 z1 i r ρ M σ H hi ⟨a, b, c, d, e, rfl⟩ ok
    have hil := (List.getElem?_eq_some_iff.mp hi).1
    have hg : t.getD i [] = r := by rw [List.getD_eq_getElem?_getD, hi]; rfl
    have hrw := p1.row r (List.mem_of_getElem? hi)
    obtain ⟨rc, hrc, hrc0, hrc4⟩ := chp_rub p0 hrw
    have hrub : rubC rd r = rc := by unfold rubC; rw [hrc]; rfl
    have hll := opLine_len rd t x i
    obtain ⟨M, ok⟩ := ok.share 4 rfl
    refine b_par3 (d2 := uL uO []) (p2 := .ow .sh) ok (p_r (ok.r rfl)) (fun M σ H ok => (p_lst (ds := []) rs_nil (by simp))) (fun M σ H ok => (p_ev (ev__law_cost (ag_R (ok.ro rfl) (ag_R (r_ev (ok.ev rfl)) (ag_R (r_ev (ev_cS lit_nil)) ag_nil))) (by walk_at "side") (by walk_at "side")))) fun M σ H ok => ?_
    rw [hrc] at ok
    refine c_for (fun j ρ => ∃ a b, ρ = [st (uD rd), st (uL uS t), st (uS x), st (uL uO (opLine rd t x i)), mu (uL uO ((List.range j).map (opAt rd t x (i + 1)))), a, b, st (uS r), st (uI rc)]) ok (j_rng1 (ea_cons (ev_add (ev_lenS (ok.ev rfl) (by walk_at "side")) ev_c) ea_nil) (by walk_at "rng")) ⟨_, _, rfl⟩ ?_ ?_
    · rintro Z2 z2 j m ρ M σ H hj ⟨a, b, rfl⟩ ok
      obtain ⟨hj1, hj2⟩ := List.getElem?_eq_some_iff.mp hj
      rw [List.length_range] at hj1
      rw [List.getElem_range] at hj2
      subst hj2
      have hjx : j ≤ x.length := by omega
      have hm0 : (j : Int).toNat = j := rfl
      have hm1 : ((j : Int) - 1).toNat = j - 1 := by omega
      have ha := opLine_at (rd := rd) (t := t) (x := x) (i := i) hjx
      have hb' := opLine_at (rd := rd) (t := t) (x := x) (i := i) (m := j - 1) (by omega)
      have ok : Ok F Z2 [st (uD rd), st (uL uS t), st (uS x), st (uL uO (opLine rd t x i)), mu (uL uO ((List.range j).map (opAt rd t x (i + 1)))), st (uI (j : Nat)), b, st (uS r), st (uO (some rc))] σ H M := ok
      refine b_asg (d := uL uI (opA rd r (opAt rd t x i) j)) (p := .ow .sh) ok (EvP.is (p_if (et_test (ev_isntNoO (ev_ixQ (none : Option Int) (ok.q rfl) (ok.ev rfl) (by walk_at "side") (by walk_at "side")) ev_c)) (fun hb27 => (p_L (el_lst (emI_cons (ev_add (ev_getO (ev_ixQ (none : Option Int) (ok.q rfl) (ok.ev rfl) (by walk_at "side") (by walk_at "side")) (by walk_at "side")) (ev_getO (ok.ev rfl) (by walk_at "side"))) emI_nil) (by simp)))) (fun hb27 => (p_lst (ds := []) rs_nil (by simp)))) ?_) fun M σ H ok => ?_
      · rw [hm0, ha]
        unfold opA
        cases opAt rd t x i j with
        | none => rfl
        | some v => rw [hrub]; rfl
      have hal : (opA rd r (opAt rd t x i) j).length ≤ 1 := by
        unfold opA
        cases opAt rd t x i j <;> simp
      have ok : Ok F Z2 [st (uD rd), st (uL uS t), st (uS x), st (uL uO (opLine rd t x i)), mu (uL uO ((List.range j).map (opAt rd t x (i + 1)))), st (uI (j : Nat)), mu (uL uI (opA rd r (opAt rd t x i) j)), st (uS r), st (uI rc)] σ H M := ok
      have hop : opAt rd t x (i + 1) j = lMin (opA rd r (opAt rd t x i) j ++ opB rd x r (opAt rd t x i) j) := by
        show opUp rd x (t.getD i []) (opAt rd t x i) j = _
        rw [hg]
        rfl
      refine b_whenJ (fun ρ => ρ = [st (uD rd), st (uL uS t), st (uS x), st (uL uO (opLine rd t x i)), mu (uL uO ((List.range j).map (opAt rd t x (i + 1)))), st (uI (j : Nat)), mu (uL uI (opA rd r (opAt rd t x i) j ++ opB rd x r (opAt rd t x i) j)), st (uS r), st (uI rc)]) (b := decide (0 < j) && ((opAt rd t x i (j - 1)).isSome && (chp rd r [x.getD (j - 1) 0]).isSome)) ok (EvT.is (et_and (et_test (ev_gt (ok.ev rfl) ev_c)) (fun hb3 => (et_and (et_test (ev_isntNoO (ev_ixQ (none : Option Int) (ok.q rfl) (ev_sub (ok.ev rfl) ev_c) (by have := of_decide_eq_true hb3; omega) (by have := of_decide_eq_true hb3; omega)) ev_c)) (fun hb2 => (et_test (ev_isntNoO (ev__law_cost (ag_R (ok.ro rfl) (ag_R (r_ev (ok.ev rfl)) (ag_R (r_ev (ev_ixS (ok.ev rfl) (ev_sub (ok.ev rfl) ev_c) (by omega) (by have := of_decide_eq_true hb3; omega) (by have := of_decide_eq_true hb3; omega))) ag_nil))) hrw hw) ev_c)))))) ?_) (fun hb M σ H ok kk => ?_) (fun hb => ?_) ?_
      · rw [hm1, hb', show decide ((0 : Int) < (j : Int)) = decide (0 < j) from decide_eq_decide.mpr (by omega)]
      · simp only [Bool.and_eq_true, decide_eq_true_eq] at hb
        obtain ⟨h0, h1, h2⟩ := hb
        obtain ⟨v, hv⟩ := Option.isSome_iff_exists.mp h1
        obtain ⟨c, hc⟩ := Option.isSome_iff_exists.mp h2
        refine c_app (x := v + c) ok rfl (EvR.is (r_ev (ev_add (ev_getO (ev_ixQ (none : Option Int) (ok.q rfl) (ev_sub (ok.ev rfl) ev_c) (by omega) (by omega)) (by rw [hm1, hb', hv]; rfl)) (ev_getO (ev__law_cost (ag_R (ok.ro rfl) (ag_R (r_ev (ok.ev rfl)) (ag_R (r_ev (ev_ixS (ok.ev rfl) (ev_sub (ok.ev rfl) ev_c) (by omega) (by omega) (by omega))) ag_nil))) hrw hw) (by rw [hm1, hc]; rfl)))) (by rw [hm1, hb', hv, hc]; rfl)) (by omega) fun M σ H ok => kk _ _ _ _ (by
          rw [show opB rd x r (opAt rd t x i) j = [v + c] by unfold opB; rw [if_pos h0, hv, hc]]
          rfl) ok
      · rw [show opB rd x r (opAt rd t x i) j = [] by
          unfold opB
          by_cases h0 : 0 < j
          · rw [if_pos h0]
            rw [decide_eq_true h0] at hb
            cases hv : opAt rd t x i (j - 1) with
            | none => rfl
            | some v => cases hc : chp rd r [x.getD (j - 1) 0] with
              | none => rfl
              | some c => rw [hv, hc] at hb; cases hb
          · rw [if_neg h0], List.append_nil]
      · rintro ρ M σ H rfl ok
        refine c_app (x := opAt rd t x (i + 1) j) ok rfl (EvR.is (r_ev (ev_ifV (et_test (ev_neLI (ok.q rfl) (q_new el_nilM))) (fun hb4 => (ev_minQ (ok.q rfl) (fun e => by rw [e] at hb4; simp at hb4))) (fun hb4 => ev_c))) ?_) (by simp; omega) fun M σ H ok => ⟨_, _, ok, _, _, by rw [mapR]; rfl⟩
        rw [hop]
        generalize opA rd r (opAt rd t x i) j ++ opB rd x r (opAt rd t x i) j = L
        cases L <;> rfl
    · rintro ρ M σ H ⟨a, b, rfl⟩ ok
      exact ⟨_, _, ok, _, _, _, _, _, by rw [List.length_range, show ((x.length : Int) + 1).toNat = x.length + 1 by omega]; rfl⟩
  · rintro ρ M σ H ⟨a, b, c, d, e, rfl⟩ ok
    have hll := opLine_len rd t x t.length
    refine c_ret ok (EvP.is (p_ev (ev_ixQ (none : Option Int) (ok.q rfl) (ev_lenS (ok.ev rfl) (by omega)) (by omega) (by omega))) ?_) k zz
    rw [show (x.length : Int).toNat = x.length from rfl, opLine_at (Nat.le_refl _)]
def R_check_text (K : PySem.W.Frag) : List V → Hp → V → Prop := fun vs H z => ∃ (x : Row), AllP [isV (VS x)] vs H ∧ ((TxOk x) ∧ True) ∧ z = .non
def sp_check_text (K : PySem.W.Frag) : Sp := spV  1 (R_check_text K)
theorem ev_check_text {K : PySem.W.Frag} {σ : L2.St} {H : Hp} {tr : TA} {E : XK} {x : Row} (h : EvAG tr σ H [isV (VS x)]) (p0 : TxOk x) : Ev (tCallO (sp_check_text K) E tr) σ H (.non) := ev_callG h rfl fun vs H1 e hp => ⟨x, hp, ⟨p0, trivial⟩, rfl⟩
theorem ok_check_text (T : Txt K mg) : OkF P wW K mg base CX0 "check_text" 1 (sp_check_text K) := by
  refine OkF.of T.d_check_text sc_check_text (fun vs H Q E h => h.1) (fun f cdv A outer s H vs Q E hr h => ?_)
  obtain ⟨-, z, H0, e0, ⟨x, ⟨v0, r0, rfl, rfl, rfl⟩, ⟨p0, -⟩, rfl⟩, k⟩ := h
  clear e0 H0
  have hu := hu_of hr
  refine ⟨_, (pss_cons (ps_if (pt_not (pt_val (pe_callB (kcall_isi (K := K)) (by rfl) T.z_isinstance (by decide +kernel) (pa_cons (pv 0) (pa_cons (pe_bltn (v := .ty "str") (by rfl) T.z_str (by decide +kernel) rfl) pa_nil)))))
  (pss_one ps_never)
  pss_nil)
 (pss_one (ps_for PassesOwn.never rfl (pi_enumS (by rfl) T.z_enumerate (pa_cons (pv 0) pa_nil)) (pg_tup rfl (pgs_cons (pg_name (i := 1) sc_check_text.nd rfl (.inl rfl)) (pgs_cons (pg_name (i := 2) sc_check_text.nd rfl (.inl rfl)) pgs_nil)))
  (pss_one (ps_if (PW.pt (pw_or (pt_cmpR op_eq (pv 1) (pe_gi (by rfl) T.c_MOST) (nomark _)) (pw_or1 (pt_cmpR op_ninC (pv 2) (pe_gs (by rfl) T.c_LETTERS) rfl))))
  (pss_one ps_never)
  pss_nil))))), ?_⟩
  refine q_skip (EvT.is (et_not (et_B (ev_isiS (b := true) (ev_var rfl) ev_c (by decide +kernel)))) rfl) fun H1 e1 => ?_
  refine s_for (s := []) (i_enumS (ev_var rfl)) (by simp) fun H2 e2 => ⟨fun i σ' H' => Ex H2 H' ∧ ∃ y z, σ' = [some (VS x), y, z], ⟨Ex.refl _, none, none, rfl⟩, fun i σ' H' p => Ex.xb p.1, ?_, fun σ' H' p => k H' ((e1.trans e2).trans p.1)⟩
  rintro i ⟨c, n⟩ σ' H' H3 hi ⟨hx, y, z, rfl⟩ e3
  obtain ⟨rfl, hi⟩ := zipIdx_at hi
  have hn := (List.getElem?_eq_some_iff.mp hi).1
  have hlen := p0.len
  have hc := p0.lt c (List.mem_of_getElem? hi)
  have hin := letter_in hc.1 hc.2
  refine s_skip (EvT.is (et_or (et_test (ev_eqI (ev_var rfl) ev_c)) (fun hb31 => (et_test (ev_ninC (ev_var rfl) ev_c)))) ?_) fun H4 e4 => ⟨(hx.trans e3).trans e4, _, _, rfl⟩
  simp only [hin, decide_eq_false (show ¬ ((n : Int) = 30) by omega)]
  rfl
def R_cost_of (K : PySem.W.Frag) : List V → Hp → V → Prop := fun vs H z => ∃ (r o : Row), AllP [isV (VS r), isV (VS o)] vs H ∧ (True) ∧ z = .int (costOf r o)
def sp_cost_of (K : PySem.W.Frag) : Sp := spV  2 (R_cost_of K)
theorem ev_cost_of {K : PySem.W.Frag} {σ : L2.St} {H : Hp} {tr : TA} {E : XK} {r o : Row} (h : EvAG tr σ H [isV (VS r), isV (VS o)])  : Ev (tCallO (sp_cost_of K) E tr) σ H (.int (costOf r o)) := ev_callG h rfl fun vs H1 e hp => ⟨r, o, hp, trivial, rfl⟩
theorem ok_cost_of (T : Txt K mg) : OkF P wW K mg base CX0 "cost_of" 1 (sp_cost_of K) := by
  refine OkF.of T.d_cost_of sc_cost_of (fun vs H Q E h => h.1) (fun f cdv A outer s H vs Q E hr h => ?_)
  obtain ⟨-, z, H0, e0, ⟨r, o, ⟨v0, r0, rfl, rfl, ⟨v1, r1, rfl, rfl, rfl⟩⟩, -, rfl⟩, k⟩ := h
  clear e0 H0
  have hu := hu_of hr
  refine ⟨_, (pss_one (ps_ret (pe_op op_sub (pe_m1 PySem.F.slot_str_count PySem.F.type_str_count mt_countS (pv 1) (pe_gs (by rfl) T.c_HOLE)) (pe_m1 PySem.F.slot_str_count PySem.F.type_str_count mt_countS (pv 0) (pe_gs (by rfl) T.c_HOLE))))), ?_⟩
  exact s_ret2 (Ev.is (ev_sub (ev_count (ev_var rfl) ev_c) (ev_count (ev_var rfl) ev_c)) rfl) k
def R_rows_of (K : PySem.W.Frag) : List V → Hp → List V → Prop := fun vs H z => ∃ (w : Nat), AllP [isV (.int (w : Int))] vs H ∧ ((w ≤ 4) ∧ True) ∧ z = Txts (rowsL (w : Int))
def sp_rows_of (K : PySem.W.Frag) : Sp := spL  1 (R_rows_of K)
theorem ev_rows_of {K : PySem.W.Frag} {σ : L2.St} {H : Hp} {tr : TA} {E : XK} {w : Nat} (h : EvAG tr σ H [isV (.int (w : Int))]) (p0 : w ≤ 4) : EvL (tCallO (sp_rows_of K) E tr) σ H (Txts (rowsL (w : Int))) := el_callG h rfl fun vs H1 e hp => ⟨w, hp, ⟨p0, trivial⟩, rfl⟩
theorem ok_rows_of (T : Txt K mg) : OkF P wW K mg base CX0 "rows_of" 1 (sp_rows_of K) := by
  refine OkF.of T.d_rows_of sc_rows_of (fun vs H Q E h => h.1) (fun f cdv A outer s H vs Q E hr h => ?_)
  obtain ⟨-, z, H0, e0, ⟨w, ⟨v0, r0, rfl, rfl, rfl⟩, ⟨p0, -⟩, rfl⟩, k⟩ := h
  clear e0 H0
  have hu := hu_of hr
  refine ⟨_, (pss_cons (ps_set (i := 1) sc_rows_of.nd rfl (.inl rfl) (pe_lst (pa_cons pe_str pa_nil)))
 (pss_cons (ps_for PassesOwn.never rfl (pi_range1 rfl T.z_range (pa_cons (pv 0) pa_nil)) (pg_name (i := 2) sc_rows_of.nd rfl (.inl rfl))
  (pss_one (ps_set (i := 1) sc_rows_of.nd rfl (.inl rfl) (pe_op op_cat (pe_lc (own := [("row", 3)]) (g := gName 3) rfl sc_rows_of.nd (kpi_list (K := K) (pv 1)) (blkOk_by (N := N_rows_of) (sc := defScope s_rows_of) (by decide +kernel)) (fun _ _ _ _ _ => (pg_name (i := 3) sc_rows_of.nd rfl (.inl rfl))) (fun _ _ _ _ _ => pts_nil) (fun _ _ _ _ _ => (pe_op op_addS (pv 3) (pe_gs (by rfl) T.c_BLANK)))) (pe_lc (own := [("row", 3)]) (g := gName 3) rfl sc_rows_of.nd (kpi_list (K := K) (pv 1)) (blkOk_by (N := N_rows_of) (sc := defScope s_rows_of) (by decide +kernel)) (fun _ _ _ _ _ => (pg_name (i := 3) sc_rows_of.nd rfl (.inl rfl))) (fun _ _ _ _ _ => pts_nil) (fun _ _ _ _ _ => (pe_op op_addS (pv 3) (pe_gs (by rfl) T.c_HOLE))))))))
 (pss_one (ps_ret (pe_callB (kcr_sortedS (K := K)) (by rfl) T.z_sorted (by decide +kernel) (pa_cons (pv 1) pa_nil)))))), ?_⟩
  refine q_asgL (el_lst (emS_cons (ev_cS lit_nil) emS_nil) (by simp)) fun p H1 hp0 e1 hp => ?_
  have hlen : ∀ i, i ≤ 4 → (genL i).length ≤ 16 := genL_len
  refine q_for (s := []) (i_rng1 (ea_cons (ev_var rfl) ea_nil) (by walk_at "rng")) (by simp) fun H2 e2 => ⟨fun i σ' H' => Ex H2 H' ∧ ∃ q y z, σ' = [some (.int (w : Int)), some (.ref q), y, z] ∧ H q = none ∧ H' q = some (.lst (Txts (genL i))),
    ⟨Ex.refl _, p, none, none, rfl, hp0, e2 _ _ hp⟩, fun i σ' H' p => Ex.xb p.1, ?_, ?_⟩
  · rintro i t σ' H3 H4 hi ⟨hx, q, y, z, rfl, hq0, hq⟩ e4
    have hit : i < w := by
      have := (List.getElem?_eq_some_iff.mp hi).1
      rw [List.length_range] at this
      omega
    have hq4 : SL K H4 q (Txts (genL i)) := slof (e4 _ _ hq)
    have hl := hlen i (by omega)
    have hr : ∀ r ∈ genL i, r.length + 1 ≤ 100000 := fun r hr => by rw [genL_row i r hr]; omega
    refine s_asgL (EvL.is (w := Txts (genL (i + 1))) (el_cat2 (h_new (el_lc1 (i_list (qa_old (ev_var rfl) (by walk_at "fact") trivial)) (by walk_at "len") (fun _ => wipe_one _ _ _) (fun x32 hx32 H132 e132 => (ev_addS (ev_var rfl) ev_c (by walk_at "side"))))) (h_new (el_lc1 (i_list (qa_old (ev_var rfl) (by walk_at "fact") trivial)) (by walk_at "len") (fun _ => wipe_one _ _ _) (fun x33 hx33 H133 e133 => (ev_addS (ev_var rfl) ev_c (by walk_at "side"))))) (by walk_at "side")) (by show _ = Txts ((genL i).map (· ++ [46]) ++ (genL i).map (· ++ [111])); unfold Txts; rw [List.map_append, List.map_map, List.map_map]; rfl)) fun q2 H5 hq2 e5 h5 => ⟨(hx.trans e4).trans e5, q2, _, _, rfl, fresh_back (((e1.trans e2).trans hx).trans e4) hq2, h5⟩
  · rintro σ' H3 ⟨hx, q, y, z, rfl, hq0, hq⟩
    have hq : H3 q = some (.lst (Txts (genL (List.range w).length))) := hq
    rw [List.length_range] at hq
    have hq3 : SL K H3 q (Txts (genL w)) := slof hq
    have h64 : (genL w).length < 64 := by have := hlen w p0; omega
    have hpm := rows_perm w p0
    have hrs := rows_rising w p0
    exact s_retL2 (el_sortedS (q_old (ev_var rfl) (by walk_at "fact")) (by walk_at "side") (by walk_at "side") (by walk_at "side")) (RetL.ex k ((e1.trans e2).trans hx))
def R_goes_over (K : PySem.W.Frag) : List V → Hp → V → Prop := fun vs H z => ∃ (r o : Row), AllP [isV (VS r), isV (VS o)] vs H ∧ ((r.length ≤ 40000) ∧ True) ∧ z = .bl (goes r o)
def sp_goes_over (K : PySem.W.Frag) : Sp := spV  2 (R_goes_over K)
theorem ev_goes_over {K : PySem.W.Frag} {σ : L2.St} {H : Hp} {tr : TA} {E : XK} {r o : Row} (h : EvAG tr σ H [isV (VS r), isV (VS o)]) (p0 : r.length ≤ 40000) : Ev (tCallO (sp_goes_over K) E tr) σ H (.bl (goes r o)) := ev_callG h rfl fun vs H1 e hp => ⟨r, o, hp, ⟨p0, trivial⟩, rfl⟩
theorem ok_goes_over (T : Txt K mg) : OkF P wW K mg base CX0 "goes_over" 1 (sp_goes_over K) := by
  refine OkF.of T.d_goes_over sc_goes_over (fun vs H Q E h => h.1) (fun f cdv A outer s H vs Q E hr h => ?_)
  obtain ⟨-, z, H0, e0, ⟨r, o, ⟨v0, r0, rfl, rfl, ⟨v1, r1, rfl, rfl, rfl⟩⟩, ⟨p0, -⟩, rfl⟩, k⟩ := h
  clear e0 H0
  have hu := hu_of hr
  refine ⟨_, (pss_one (ps_ret (pe_not (pe_callB (kcr_any (K := K) rfl) (by rfl) T.z_any (by decide +kernel) (pa_cons (pe_lc (own := [("one", 2), ("new", 3)]) (g := gTup K 2 (gCons (gName 2) (gCons (gName 3) gNil))) rfl sc_goes_over.nd (pi_zipSS (by rfl) T.z_zip (pa_cons (pv 0) (pa_cons (pv 1) pa_nil))) (blkOk_by (N := N_goes_over) (sc := defScope s_goes_over) (by decide +kernel)) (fun _ _ _ _ _ => (pg_tup rfl (pgs_cons (pg_name (i := 2) sc_goes_over.nd rfl (.inl rfl)) (pgs_cons (pg_name (i := 3) sc_goes_over.nd rfl (.inl rfl)) pgs_nil)))) (fun _ _ _ _ _ => pts_nil) (fun _ _ _ _ _ => (pe_and (pe_cmpR op_eq (pv 2) (pe_gs (by rfl) T.c_HOLE) (nomark _)) (pe_one (pe_cmpR op_eq (pv 3) (pe_gs (by rfl) T.c_BLANK) (nomark _)))))) pa_nil))))), ?_⟩
  exact s_ret2 (Ev.is (ev_notV (ev_anyQ (q_new (el_lc1 (i_zipSS (ev_var rfl) (ev_var rfl)) (by walk_at "len") (fun _ => wipe_two _ (by decide) _ _) (fun x34 hx34 H134 e134 => (ev_andV (ev_eqS (ev_var rfl) ev_c) (fun hb35 => (ev_eqS (ev_var rfl) ev_c)))))))) rfl) k
def R_above (K : PySem.W.Frag) : List V → Hp → List V → Prop := fun vs H z => ∃ (r : Row), AllP [isV (VS r)] vs H ∧ ((r.length ≤ 4) ∧ True) ∧ z = Txts (aboveL r)
def sp_above (K : PySem.W.Frag) : Sp := spL  1 (R_above K)
theorem ev_above {K : PySem.W.Frag} {σ : L2.St} {H : Hp} {tr : TA} {E : XK} {r : Row} (h : EvAG tr σ H [isV (VS r)]) (p0 : r.length ≤ 4) : EvL (tCallO (sp_above K) E tr) σ H (Txts (aboveL r)) := el_callG h rfl fun vs H1 e hp => ⟨r, hp, ⟨p0, trivial⟩, rfl⟩
theorem ok_above (T : Txt K mg) : OkF P wW K mg base CX0 "above" 2 (sp_above K) := by
  have O_rows_of : OkF P wW K mg base CX0 "rows_of" 1 (sp_rows_of K) := ok_rows_of T
  have O_goes_over : OkF P wW K mg base CX0 "goes_over" 1 (sp_goes_over K) := ok_goes_over T
  refine OkF.of T.d_above sc_above (fun vs H Q E h => h.1) (fun f cdv A outer s H vs Q E hr h => ?_)
  obtain ⟨-, z, H0, e0, ⟨r, ⟨v0, r0, rfl, rfl, rfl⟩, ⟨p0, -⟩, rfl⟩, k⟩ := h
  clear e0 H0
  have hu := hu_of hr
  refine ⟨_, (pss_one (ps_ret (pe_lc (own := [("other", 1)]) (g := gName 1) rfl sc_above.nd (kpi_list (K := K) (pe_callO O_rows_of hr (by rfl) pass0 (pa_cons (pe_callB cb_lenS (by rfl) T.z_len (by decide +kernel) (pa_cons (pv 0) pa_nil)) pa_nil))) (blkOk_by (N := N_above) (sc := defScope s_above) (by decide +kernel)) (fun _ _ _ _ _ => (pg_name (i := 1) sc_above.nd rfl (.inl rfl))) (fun _ _ _ _ _ => (pts_one (pt_val (pe_callO O_goes_over hr (by rfl) pass0 (pa_cons (pv 0) (pa_cons (pv 1) pa_nil)))))) (fun _ _ _ _ _ => (pv 1))))), ?_⟩
  have hl := rowsL_le (w := (r.length : Int)) (by omega)
  exact s_retL2 (EvL.is (el_lc (i_list (qa_new (ev_rows_of (ag_V (ev_lenS (ev_var rfl) (by walk_at "side")) ag_nil) (by walk_at "side")))) (by walk_at "len") (fun _ => wipe_one _ _ _) (fun x36 hx36 H136 e136 => (et_B (ev_goes_over (ag_V (ev_var rfl) (ag_V (ev_var rfl) ag_nil)) (by walk_at "side")))) (fun x36 hx36 hy36 H136 e136 => (ev_var rfl))) rfl) k
def R_meaning (K : PySem.W.Frag) : List V → Hp → V → Prop := fun vs H z => ∃ (rd : Dic) (r : Row), AllP [isD (DS rd), isV (VS r)] vs H ∧ (True) ∧ z = VS (mean rd r)
def sp_meaning (K : PySem.W.Frag) : Sp := spV  2 (R_meaning K)
theorem ev_meaning {K : PySem.W.Frag} {σ : L2.St} {H : Hp} {tr : TA} {E : XK} {rd : Dic} {r : Row} (h : EvAG tr σ H [isD (DS rd), isV (VS r)])  : Ev (tCallO (sp_meaning K) E tr) σ H (VS (mean rd r)) := ev_callG h rfl fun vs H1 e hp => ⟨rd, r, hp, trivial, rfl⟩
theorem ok_meaning (T : Txt K mg) : OkF P wW K mg base CX0 "meaning" 1 (sp_meaning K) := by
  refine OkF.of T.d_meaning sc_meaning (fun vs H Q E h => h.1) (fun f cdv A outer s H vs Q E hr h => ?_)
  obtain ⟨-, z, H0, e0, ⟨rd, r, ⟨v0, r0, rfl, ⟨a0, rfl, q0⟩, ⟨v1, r1, rfl, rfl, rfl⟩⟩, -, rfl⟩, k⟩ := h
  have h0 := exh e0 q0
  clear q0
  clear e0 H0
  have hu := hu_of hr
  refine ⟨_, (pss_one (ps_ret (pe_dget2 hu (pv 0) (pv 1) pe_str ⟨rfl, rfl, rfl, rfl⟩))), ?_⟩
  exact s_ret2 (Ev.is (ev_get2 (ev_var rfl) (by walk_at "facth") (ev_var rfl) (ev_cS lit_nil)) rfl) k
def R_cheapest (K : PySem.W.Frag) (mg : Str → Option Value) : (Addr → Prop) → List V → Hp → Dt → Pat → Prop := fun F vs H d p => ∃ (rd : Dic) (r l : Row), AllP [isR F (uD rd), isR F (uS r), isR F (uS l)] vs H ∧ ((r.length ≤ 4) ∧ True) ∧ d = (Dt.sc (vO (chp rd r l))) ∧ p = .sh
def sp_cheapest (K : PySem.W.Frag) (mg : Str → Option Value) : Sp := spR 3 (R_cheapest K mg)
theorem ev_cheapest {K : PySem.W.Frag} {mg : Str → Option Value} {σ : L2.St} {H : Hp} {tr : TA} {E : XK} {rd : Dic} {r l : Row} (h : EvAG tr σ H [isR Mo (uD rd), isR Mo (uS r), isR Mo (uS l)]) (p0 : r.length ≤ 4) : Ev (tCallO (sp_cheapest K mg) E tr) σ H (vO (chp rd r l)) := ev_p (M := Mo) (p := .sh) (p_callR (Mo_al H) h rfl fun vs H1 hp => ⟨rd, r, l, hp, ⟨p0, trivial⟩, rfl, rfl⟩)
theorem ok_cheapest (T : Txt K mg) : OkF P wW K mg base CX0 "cheapest" 3 (sp_cheapest K mg) := by
  have O_cost_of : OkF P wW K mg base CX0 "cost_of" 1 (sp_cost_of K) := ok_cost_of T
  have O_above : OkF P wW K mg base CX0 "above" 2 (sp_above K) := ok_above T
  have O_meaning : OkF P wW K mg base CX0 "meaning" 1 (sp_meaning K) := ok_meaning T
  refine OkF.of T.d_cheapest sc_cheapest (fun vs H Q E h => h.1) (fun f cdv A outer s Hb vs Q E hr h => ?_)
  obtain ⟨-, F, d0, p0_, al, ⟨rd, r, l, ⟨v0, r0, rfl, q0, ⟨v1, r1, rfl, q1, ⟨v2, r2, rfl, q2, rfl⟩⟩⟩, ⟨p0, -⟩, rfl, rfl⟩, k⟩ := h
  have ok : Ok F (fun H' O' => Lt Hb Mo H' O') [st (uD rd), st (uS r), st (uS l), .una, .una] _ Hb F := Ok.start al ⟨_, _, [], [], rfl, rfl, ow_sh.mpr ⟨rfl, q0⟩, ⟨_, _, [], [], rfl, rfl, ow_sh.mpr ⟨rfl, q1⟩, ⟨_, _, [], [], rfl, rfl, ow_sh.mpr ⟨rfl, q2⟩, ⟨_, rfl, ⟨_, rfl, ⟨rfl, rfl⟩⟩⟩⟩⟩⟩
  have zz : ∀ (H' : Hp) (O' : Addr → Prop), Lt Hb Mo H' O' → Lt Hb Mo H' O' := fun _ _ z => z
  have hu := hu_of hr
  refine ⟨_, (pss_cons (ps_setLc (i := 3) (own := [("other", 4)]) (g := gName 4) rfl sc_cheapest.nd rfl rfl (sw_true rfl rfl rfl (by decide +kernel)) (kpi_list (K := K) (pe_callO O_above hr (by rfl) pass0 (pa_cons (pv 1) pa_nil))) (blkOk_by (N := N_cheapest) (sc := defScope s_cheapest) (by decide +kernel)) (fun _ _ _ _ _ => (pg_name (i := 4) sc_cheapest.nd rfl (.inl rfl))) (fun _ _ _ _ _ => (pts_one (pt_cmpR op_eq (pe_callO O_meaning hr (by rfl) pass0 (pa_cons (pv 0) (pa_cons (pv 4) pa_nil))) (pv 2) (nomark _)))) (fun _ _ _ _ _ => (pe_callO O_cost_of hr (by rfl) pass0 (pa_cons (pv 1) (pa_cons (pv 4) pa_nil)))))
 (pss_one (ps_ret (pe_callBK (ck_minDf rfl hr.units) (by rfl) T.z_min (by decide +kernel) (pa_cons (pv 3) pa_nil) (pk_cons pe_non pk_nil))))), ?_⟩
  have hl := aboveL_len p0
  refine b_asg (d := uL uI (((aboveL r).filter fun o => decide (mean rd o = l)).map (costOf r))) ok (EvP.is (p_lc ok (j_listN (n_p ok.al (p_L (ev_above (ag_V (ok.ev rfl) ag_nil) (by walk_at "side"))))) (by walk_at "len") (by simp) (fun x37 hx37 M σ H ok => (et_test (ev_eqS (ev_meaning (ag_D (ok.dd rfl) (ag_V (ok.ev rfl) ag_nil))) (ok.ev rfl)))) (fun x37 hx37 hy37 M σ H ok => (p_ev (ev_cost_of (ag_V (ok.ev rfl) (ag_V (ok.ev rfl) ag_nil)))))) (nd_map (f := uI))) fun M σ H ok => ?_
  exact c_ret ok (EvP.is (p_ev (ev_minN (ok.q rfl) ev_c)) rfl) k zz
def R_marks_of (K : PySem.W.Frag) (mg : Str → Option Value) : (Addr → Prop) → List V → Hp → Dt → Pat → Prop := fun F vs H d p => ∃ (rd : Dic) (w : Nat) (t : List Row) (x : Row), AllP [isR F (uD rd), isR F (uL uS t), isR F (uS x)] vs H ∧ ((RdOk rd w) ∧ (TpOk t w) ∧ (x.length ≤ 30) ∧ True) ∧ d = (uL uI (marksL rd t x)) ∧ p = ((.ow .sh))
def sp_marks_of (K : PySem.W.Frag) (mg : Str → Option Value) : Sp := spR 3 (R_marks_of K mg)
theorem ev_marks_of {K : PySem.W.Frag} {mg : Str → Option Value} {σ : L2.St} {H : Hp} {tr : TA} {E : XK} {M : Addr → Prop} {rd : Dic} {w : Nat} {t : List Row} {x : Row} (al : Al M H) (h : EvAG tr σ H [isR M (uD rd), isR M (uL uS t), isR M (uS x)]) (p0 : RdOk rd w) (p1 : TpOk t w) (p2 : x.length ≤ 30) : EvP M (tCallO (sp_marks_of K mg) E tr) σ H (uL uI (marksL rd t x)) ((.ow .sh)) := p_callR al h rfl fun vs H1 hp => ⟨rd, w, t, x, hp, ⟨p0, p1, p2, trivial⟩, rfl, rfl⟩
theorem eo_marks_of {K : PySem.W.Frag} {mg : Str → Option Value} {σ : L2.St} {H : Hp} {tr : TA} {E : XK} {M : Addr → Prop} {rd : Dic} {w : Nat} {t : List Row} {x : Row} (h : EvAG tr σ H [isR Mo (uD rd), isR Mo (uL uS t), isR Mo (uS x)]) (p0 : RdOk rd w) (p1 : TpOk t w) (p2 : x.length ≤ 30) : EvP M (tCallO (sp_marks_of K mg) E tr) σ H (uL uI (marksL rd t x)) ((.ow .sh)) := p_scal (ev_marks_of (Mo_al H) h p0 p1 p2) (scal_map fun _ => scal_sc)
theorem ok_marks_of (T : Txt K mg) : OkF P wW K mg base CX0 "marks_of" 4 (sp_marks_of K mg) := by
  have O_cheapest : OkF P wW K mg base CX0 "cheapest" 3 (sp_cheapest K mg) := ok_cheapest T
  refine OkF.of T.d_marks_of sc_marks_of (fun vs H Q E h => h.1) (fun f cdv A outer s Hb vs Q E hr h => ?_)
  obtain ⟨-, F, d0, p0_, al, ⟨rd, w, t, x, ⟨v0, r0, rfl, q0, ⟨v1, r1, rfl, q1, ⟨v2, r2, rfl, q2, rfl⟩⟩⟩, ⟨p0, p1, p2, -⟩, rfl, rfl⟩, k⟩ := h
  have ok : Ok F (fun H' O' => Lt Hb Mo H' O') [st (uD rd), st (uL uS t), st (uS x), .una, .una, .una, .una] _ Hb F := Ok.start al ⟨_, _, [], [], rfl, rfl, ow_sh.mpr ⟨rfl, q0⟩, ⟨_, _, [], [], rfl, rfl, ow_sh.mpr ⟨rfl, q1⟩, ⟨_, _, [], [], rfl, rfl, ow_sh.mpr ⟨rfl, q2⟩, ⟨_, rfl, ⟨_, rfl, ⟨_, rfl, ⟨_, rfl, ⟨rfl, rfl⟩⟩⟩⟩⟩⟩⟩⟩
  have zz : ∀ (H' : Hp) (O' : Addr → Prop), Lt Hb Mo H' O' → Lt Hb Mo H' O' := fun _ _ z => z
  have hu := hu_of hr
  refine ⟨_, (pss_cons (ps_set (i := 3) sc_marks_of.nd rfl (.inl rfl) (pe_lst (pa_cons pe_int pa_nil)))
 (pss_cons (ps_for PassesOwn.never rfl (kpi_list (K := K) (pv 1)) (pg_name (i := 6) sc_marks_of.nd rfl (.inl rfl))
  (pss_cons (ps_set (i := 4) sc_marks_of.nd rfl (.inl rfl) (pe_ix (kix_list (K := K)) (pv 3) (pe_un un_neg pe_int) (fun _ _ => rfl)))
 (pss_cons (ps_set (i := 5) sc_marks_of.nd rfl (.inl rfl) (pe_and (pe_cmpR op_lt (pv 4) (pe_callB cb_lenS (by rfl) T.z_len (by decide +kernel) (pa_cons (pv 2) pa_nil)) (nomark _)) (pe_one (pe_cmpR op_isntNo (pe_callO O_cheapest hr (by rfl) pass0 (pa_cons (pv 0) (pa_cons (pv 6) (pa_cons (pe_ix ix_str (pv 2) (pv 4) (fun _ _ => rfl)) pa_nil)))) pe_non (nomark _)))))
 (pss_one (ps_expr (pe_bm PySem.F.plainAttrs_list PySem.F.slot_list_append PySem.F.type_list_append mt_append (pv 3) (pa_cons (pe_ifExp (pt_val (pv 5)) (pe_op op_add (pv 4) pe_int) (pv 4)) pa_nil)))))))
 (pss_one (ps_ret (pv 3))))), ?_⟩
  have hw := p0.w4
  refine b_asg (d := uL uI (marksP rd t x 0)) ok (EvP.is (p_L (el_lst (emI_cons ev_c emI_nil) (by simp))) rfl) fun M σ H ok => ?_
  refine b_for (fun i ρ => ∃ a b c, ρ = [st (uD rd), st (uL uS t), st (uS x), mu (uL uI (marksP rd t x i)), a, b, c]) ok (j_listR (ok.r rfl)) ⟨_, _, _, rfl⟩ ?_ ?_
  · rintro Z' zz' i r ρ M σ H hi ⟨a, b, c, rfl⟩ ok
    have hil := (List.getElem?_eq_some_iff.mp hi).1
    have hr4 : r.length ≤ 4 := by have := isRow_len (p1.row r (List.mem_of_getElem? hi)); omega
    have hlast := marksP_last rd t x i
    have hml := mkAt_le rd t x i
    have htl := p1.len
    refine b_asg (d := uI (mkAt rd t x i : Int)) ok (p_ev (ev_ixLast (ok.q rfl) (ev_neg ev_c) (by walk_at "side"))) fun M σ H ok => ?_
    refine b_asg (d := uB (mkUp rd x r (mkAt rd t x i))) ok (EvP.is (p_ev (ev_andV (ev_lt (ok.ev rfl) (ev_lenS (ok.ev rfl) (by omega))) (fun hb => (ev_isntNoO (ev_cheapest (ag_R (ok.ro rfl) (ag_R (ok.ro rfl) (ag_R (r_ev (ev_ixS (ok.ev rfl) (ok.ev rfl) (by omega) (by omega) (of_decide_eq_true hb))) ag_nil))) hr4) ev_c)))) ?_) fun M σ H ok => ?_
    · unfold mkUp
      congr 3
      exact decide_eq_decide.mpr (by omega)
    refine c_app (x := (mkAt rd t x (i + 1) : Int)) ok rfl (EvR.is (r_ev (ev_ifI (et_B (ok.ev rfl)) (fun hb39 => (ev_add (ok.ev rfl) ev_c)) (fun hb39 => (ok.ev rfl)))) ?_) (by rw [marksP_len]; omega) fun M σ H ok => ⟨_, _, ok, _, _, _, by rw [marksP_succ]; rfl⟩
    have hg : t.getD i [] = r := by rw [List.getD_eq_getElem?_getD, hi]; rfl
    show uI _ = uI _
    congr 2
    conv => rhs; unfold mkAt
    rw [hg]
    split <;> rfl
  · rintro ρ M σ H ⟨a, b, c, rfl⟩ ok
    exact c_retv ok rfl k zz
def R_heights_of (K : PySem.W.Frag) (mg : Str → Option Value) : (Addr → Prop) → List V → Hp → Dt → Pat → Prop := fun F vs H d p => ∃ (rd : Dic) (w : Nat) (t : List Row) (x : Row), AllP [isR F (uD rd), isR F (uL uS t), isR F (uS x)] vs H ∧ ((RdOk rd w) ∧ (TpOk t w) ∧ (x.length ≤ 30) ∧ True) ∧ d = (uL (uL uI) (heightsL rd t x)) ∧ p = ((.ow .sh))
def sp_heights_of (K : PySem.W.Frag) (mg : Str → Option Value) : Sp := spR 3 (R_heights_of K mg)
theorem ev_heights_of {K : PySem.W.Frag} {mg : Str → Option Value} {σ : L2.St} {H : Hp} {tr : TA} {E : XK} {M : Addr → Prop} {rd : Dic} {w : Nat} {t : List Row} {x : Row} (al : Al M H) (h : EvAG tr σ H [isR M (uD rd), isR M (uL uS t), isR M (uS x)]) (p0 : RdOk rd w) (p1 : TpOk t w) (p2 : x.length ≤ 30) : EvP M (tCallO (sp_heights_of K mg) E tr) σ H (uL (uL uI) (heightsL rd t x)) ((.ow .sh)) := p_callR al h rfl fun vs H1 hp => ⟨rd, w, t, x, hp, ⟨p0, p1, p2, trivial⟩, rfl, rfl⟩
theorem ok_heights_of (T : Txt K mg) : OkF P wW K mg base CX0 "heights_of" 4 (sp_heights_of K mg) := by
  have O_cheapest : OkF P wW K mg base CX0 "cheapest" 3 (sp_cheapest K mg) := ok_cheapest T
  refine OkF.of T.d_heights_of sc_heights_of (fun vs H Q E h => h.1) (fun f cdv A outer s Hb vs Q E hr h => ?_)
  obtain ⟨-, F, d0, p0_, al, ⟨rd, w, t, x, ⟨v0, r0, rfl, q0, ⟨v1, r1, rfl, q1, ⟨v2, r2, rfl, q2, rfl⟩⟩⟩, ⟨p0, p1, p2, -⟩, rfl, rfl⟩, k⟩ := h
  have ok : Ok F (fun H' O' => Lt Hb Mo H' O') [st (uD rd), st (uL uS t), st (uS x), .una, .una, .una, .una, .una, .una, .una, .una, .una] _ Hb F := Ok.start al ⟨_, _, [], [], rfl, rfl, ow_sh.mpr ⟨rfl, q0⟩, ⟨_, _, [], [], rfl, rfl, ow_sh.mpr ⟨rfl, q1⟩, ⟨_, _, [], [], rfl, rfl, ow_sh.mpr ⟨rfl, q2⟩, ⟨_, rfl, ⟨_, rfl, ⟨_, rfl, ⟨_, rfl, ⟨_, rfl, ⟨_, rfl, ⟨_, rfl, ⟨_, rfl, ⟨_, rfl, ⟨rfl, rfl⟩⟩⟩⟩⟩⟩⟩⟩⟩⟩⟩⟩⟩
  have zz : ∀ (H' : Hp) (O' : Addr → Prop), Lt Hb Mo H' O' → Lt Hb Mo H' O' := fun _ _ z => z
  have hu := hu_of hr
  refine ⟨_, (pss_cons (ps_set (i := 4) sc_heights_of.nd rfl (.inl rfl) (pe_lst (pa_cons (pe_op op_cat (pe_lst (pa_cons pe_int pa_nil)) (pe_op op_rep (pe_lst (pa_cons (pe_gi (by rfl) T.c_FAR) pa_nil)) (pe_callB cb_lenS (by rfl) T.z_len (by decide +kernel) (pa_cons (pv 2) pa_nil)))) pa_nil)))
 (pss_cons (ps_for PassesOwn.never rfl (kpi_list (K := K) (pv 1)) (pg_name (i := 9) sc_heights_of.nd rfl (.inl rfl))
  (pss_cons (ps_asg (pe_tup (pa_cons (pe_ix (kix_list (K := K)) (pv 4) (pe_un un_neg pe_int) (fun _ _ => rfl)) (pa_cons (pe_callO O_cheapest hr (by rfl) pass0 (pa_cons (pv 0) (pa_cons (pv 9) (pa_cons pe_str pa_nil)))) pa_nil))) (pg_tup rfl (pgs_cons (pg_name (i := 5) sc_heights_of.nd rfl (.inl rfl)) (pgs_cons (pg_name (i := 10) sc_heights_of.nd rfl (.inr rfl)) pgs_nil))))
 (pss_cons (ps_setLc (i := 7) (own := [("high", 11)]) (g := gName 11) rfl sc_heights_of.nd rfl rfl (sw_true rfl rfl rfl (by decide +kernel)) (kpi_list (K := K) (pv 5)) (blkOk_by (N := N_heights_of) (sc := defScope s_heights_of) (by decide +kernel)) (fun _ _ _ _ _ => (pg_name (i := 11) sc_heights_of.nd rfl (.inl rfl))) (fun _ _ _ _ _ => pts_nil) (fun _ _ _ _ _ => (pe_op op_add (pv 11) (pv 10))))
 (pss_cons (ps_for PassesOwn.never rfl (pi_enumS (by rfl) T.z_enumerate (pa_cons (pv 2) pa_nil)) (pg_tup rfl (pgs_cons (pg_name (i := 8) sc_heights_of.nd rfl (.inl rfl)) (pgs_cons (pg_name (i := 6) sc_heights_of.nd rfl (.inl rfl)) pgs_nil)))
  (pss_cons (ps_set (i := 3) sc_heights_of.nd rfl (.inl rfl) (pe_callO O_cheapest hr (by rfl) pass0 (pa_cons (pv 0) (pa_cons (pv 9) (pa_cons (pv 6) pa_nil)))))
 (pss_one (ps_if (pt_cmpR op_isntNo (pv 3) pe_non (nomark _))
  (pss_one (ps_asg (pe_callB (cb_min2 rfl) (by rfl) T.z_min (by decide +kernel) (pa_cons (pe_ix (kix_list (K := K)) (pv 7) (pe_op op_add (pv 8) pe_int) (fun _ _ => rfl)) (pa_cons (pe_op op_add (pe_ix (kix_list (K := K)) (pv 5) (pv 8) (fun _ _ => rfl)) (pv 3)) pa_nil))) (pg_sub (pv 7) (pe_op op_add (pv 8) pe_int) set_list)))
  pss_nil))))
 (pss_one (ps_expr (pe_bm PySem.F.plainAttrs_list PySem.F.slot_list_append PySem.F.type_list_append mt_append (pv 4) (pa_cons (pv 7) pa_nil))))))))
 (pss_one (ps_ret (pv 4))))), ?_⟩
  have hw := p0.w4
  have htl := p1.len
  have hfl : ((List.replicate ((x.length : Int)).toNat [(1000 : Int)]).flatten).length ≤ 30 := by
    rw [List.length_flatten, List.map_replicate]
    simp
    omega
  refine b_asg (d := uL (uL uI) (htP rd t x 0)) ok (EvP.is (p_lst (rs_cons (r_p ok.al (p_L (el_catH (h_new (el_lst (emI_cons ev_c emI_nil) (by simp))) (h_new (el_repH (h_new (el_lst (emI_cons ev_c emI_nil) (by simp))) (ev_lenS (ok.ev rfl) (by walk_at "side")) (by walk_at "side") (by walk_at "side") (by walk_at "side"))) (by walk_at "side")))) rs_nil) (by simp)) (by rw [htP_zero]; simp)) fun M σ H ok => ?_
  refine b_for (fun i ρ => ∃ a b c d e f g h, ρ = [st (uD rd), st (uL uS t), st (uS x), a, mu (uL (uL uI) (htP rd t x i)), b, c, d, e, f, g, h]) ok (j_listR (ok.r rfl)) ⟨_, _, _, _, _, _, _, _, rfl⟩ ?_ ?_
  · rintro Z1 z1 i r ρ M σ H hi ⟨a, b, c, d, e, f, g, h, rfl⟩ ok
    have hil := (List.getElem?_eq_some_iff.mp hi).1
    have hg : t.getD i [] = r := by rw [List.getD_eq_getElem?_getD, hi]; rfl
    have hrw := p1.row r (List.mem_of_getElem? hi)
    have hr4 : r.length ≤ 4 := by have := isRow_len hrw; omega
    have hlast := htP_last rd t x i
    obtain ⟨rc, hrc, hrc0, hrc4⟩ := chp_rub p0 hrw
    have hrub : rubC rd r = rc := by unfold rubC; rw [hrc]; rfl
    refine b_tup2 ok (p_r (r_last (f := (uL uI)) (ok.nx rfl rfl) (ev_neg ev_c) (by walk_at "side"))) (fun M σ H ok => (p_ev (ev_cheapest (ag_R (ok.ro rfl) (ag_R (r_ev (ok.ev rfl)) (ag_R (r_ev (ev_cS lit_nil)) ag_nil))) (by walk_at "side")))) fun M σ H ok => ?_
    rw [hrc] at ok
    have hll := htLine_len rd t x i
    refine b_asg (d := uL uI (htMid rd t x i 0)) ok (EvP.is (p_lc1 ok (j_listN (ok.nx rfl rfl)) (by walk_at "len") (by simp) (fun x40 hx40 M σ H ok => (p_ev (ev_add (ok.ev rfl) (ev_getO (ok.ev rfl) (by walk_at "side")))))) (by rw [htMid_zero, hg, hrub]; exact nd_map (f := uI))) fun M σ H ok => ?_
    refine b_for (fun j ρ => ∃ a b c d e, ρ = [st (uD rd), st (uL uS t), st (uS x), a, mu (uL (uL uI) (htP rd t x i)), st (uL uI (htLine rd t x i)), b, mu (uL uI (htMid rd t x i j)), c, st (uS r), d, e]) ok (j_enumS (ok.ev rfl)) ⟨_, _, _, _, _, rfl⟩ ?_ ?_
    · rintro Z2 z2 j ⟨l, j'⟩ ρ M σ H hj ⟨a, b, c, d, e, rfl⟩ ok
      obtain ⟨rfl, hj⟩ := zipIdx_at hj
      have hjl := (List.getElem?_eq_some_iff.mp hj).1
      have hxj : x.getD j' 0 = l := by rw [List.getD_eq_getElem?_getD, hj]; rfl
      have hml := htMid_len rd t x i j'
      refine b_asg ok (p_ev (ev_cheapest (ag_R (ok.ro rfl) (ag_R (r_ev (ok.ev rfl)) (ag_R (r_ev (ok.ev rfl)) ag_nil))) (by walk_at "side"))) fun M σ H ok => ?_
      have hm0 := htMid_none (rd := rd) (t := t) (x := x) (i := i) (j := j')
      have hm1 := fun c => htMid_some (rd := rd) (t := t) (x := x) (i := i) (j := j') (c := c)
      rw [hg, hxj] at hm0 hm1
      refine c_when ok (et_test (ev_isntNoO (ok.ev rfl) ev_c)) (fun hb M σ H ok => ?_) (fun hb M σ H ok => ⟨_, _, ok, _, _, _, _, _, by rw [hm0 (by cases hc : chp rd r [l] with | none => rfl | some c => rw [hc] at hb; cases hb)]; rfl⟩)
      obtain ⟨c, hc⟩ := Option.isSome_iff_exists.mp hb
      rw [hc] at ok
      refine c_setL (n := j' + 1) (x := min (htAt rd t x i (j' + 1) + rubC rd (t.getD i [])) (htAt rd t x i j' + c)) ok rfl (EvR.is (r_ev (ev_mn2 (ev_ixQ (0 : Int) (ok.q rfl) (ev_add (ok.ev rfl) ev_c) (by walk_at "side") (by walk_at "side")) (ev_add (ev_ixQ (0 : Int) (ok.q rfl) (ok.ev rfl) (by walk_at "side") (by walk_at "side")) (ev_getO (ok.ev rfl) (by walk_at "side"))))) ?_) (Ev.is (ev_add (ok.ev rfl) ev_c) rfl) (by omega) fun M σ H ok => ⟨_, _, ok, _, _, _, _, _, by rw [hm1 c hc, hg]; rfl⟩
      have h1 : (htMid rd t x i j').getD ((j' : Int) + 1).toNat 0 = htAt rd t x i (j' + 1) + rubC rd (t.getD i []) := by
        rw [show ((j' : Int) + 1).toNat = j' + 1 by omega, htMid_at (by omega), if_neg (by omega)]
      have h2 : (htLine rd t x i).getD (j' : Int).toNat 0 = htAt rd t x i j' := by
        rw [show (j' : Int).toNat = j' by omega, htLine_at (by omega)]
      rw [h1, h2]
      rfl
    · rintro ρ M σ H ⟨a, b, c, d, e, rfl⟩ ok
      have ok : Ok F Z1 [st (uD rd), st (uL uS t), st (uS x), a, mu (uL (uL uI) (htP rd t x i)), st (uL uI (htLine rd t x i)), b, mu (uL uI (htMid rd t x i x.zipIdx.length)), c, st (uS r), d, e] σ H M := ok
      rw [List.length_zipIdx, htMid_last] at ok
      obtain ⟨M, ok⟩ := ok.share 7 rfl
      exact c_app (x := htLine rd t x (i + 1)) ok rfl (ok.r rfl) (by rw [htP_len]; omega) fun M σ H ok => ⟨_, _, ok, _, _, _, _, _, _, _, _, by rw [htP_succ]; rfl⟩
  · rintro ρ M σ H ⟨a, b, c, d, e, f, g, h, rfl⟩ ok
    exact c_retv ok rfl k zz
def R_Written___init__ (K : PySem.W.Frag) (mg : Str → Option Value) : (Addr → Prop) → List V → Hp → Addr → Dt → Pat → Prop := fun F vs H C d p => ∃ (tp : List Row) (hs : List (List Int)), AllP [isR F (uL uS tp), isR F (uL (uL uI) hs)] vs H ∧ C = cA mg "Written" ∧ ((hs.length ≤ 40000) ∧ True) ∧ d = (uWritten mg tp hs) ∧ p = (pW)
def sp_Written___init__ (K : PySem.W.Frag) (mg : Str → Option Value) : Sp := spI 2 (R_Written___init__ K mg)
theorem ev_new_Written {K : PySem.W.Frag} {mg : Str → Option Value} {σ : L2.St} {H : Hp} {tr : TA} {E : XK} {M : Addr → Prop} {tp : List Row} {hs : List (List Int)} (al : Al M H) (h : EvAG tr σ H [isR M (uL uS tp), isR M (uL (uL uI) hs)]) (p0 : hs.length ≤ 40000) : EvP M (tMakeO (cA mg "Written") (sp_Written___init__ K mg) E tr) σ H (uWritten mg tp hs) (pW) := p_makeR (ds := [uL uS tp, uL (uL uI) hs]) al h rfl fun M vs H1 hp => ⟨tp, hs, hp, rfl, ⟨p0, trivial⟩, rfl, rfl⟩
theorem eo_new_Written {K : PySem.W.Frag} {mg : Str → Option Value} {σ : L2.St} {H : Hp} {tr : TA} {E : XK} {M : Addr → Prop} {tp : List Row} {hs : List (List Int)} (h : EvAG tr σ H [isR Mo (uL uS tp), isR Mo (uL (uL uI) hs)]) (p0 : hs.length ≤ 40000) : EvP M (tMakeO (cA mg "Written") (sp_Written___init__ K mg) E tr) σ H (uWritten mg tp hs) (pW) := p_scal (ev_new_Written (Mo_al H) h p0) (scal_W)
theorem ok_Written___init__ (T : Txt K mg) : OkI P wW K mg base CX0 (cA mg "Written") 1 (sp_Written___init__ K mg) := by
  refine OkI.of T.i_Written sc_Written___init__ (fun vs H Q E h => h.1) (fun f cdv A outer s Hb vs Q E hr h => ?_)
  obtain ⟨-, F, x_, dx_, C, r_, d0, p0_, rfl, hx, al, nf, ⟨tp, hs, ⟨v0, r0, rfl, q0, ⟨v1, r1, rfl, q1, rfl⟩⟩, rfl, ⟨p0, -⟩, rfl, rfl⟩, k⟩ := h
  have ok : Ok F (fun H' O' => Lt Hb (· = x_) H' O') [.own (.node (.i (cA mg "Written") []) []) (.fs []), st (uL uS tp), st (uL (uL uI) hs), .una] _ Hb (Mb F [x_]) := Ok.startI al nf (by rw [hx]; simp) ⟨_, _, [x_], [], rfl, rfl, ow_new hx, ⟨_, _, [], [], rfl, rfl, ow_sh.mpr ⟨rfl, q0⟩, ⟨_, _, [], [], rfl, rfl, ow_sh.mpr ⟨rfl, q1⟩, ⟨_, rfl, ⟨rfl, rfl⟩⟩⟩⟩⟩
  have zz : ∀ (H' : Hp) (O' : Addr → Prop), Lt Hb (· = x_) H' O' → Lt Hb (· = x_) H' O' := fun _ _ z => z
  have hu := hu_of hr
  refine ⟨_, (pss_cons (ps_fld (pv 0) (pe_callTy (kct_list (K := K)) (by rfl) T.z_list (by decide +kernel) (pa_cons (pv 1) pa_nil)) rfl)
 (pss_one (ps_fld (pv 0) (pe_lc (own := [("row", 3)]) (g := gName 3) rfl sc_Written___init__.nd (kpi_list (K := K) (pv 2)) (blkOk_by (N := N_Written___init__) (sc := defScope s_Written___init__) (by decide +kernel)) (fun _ _ _ _ _ => (pg_name (i := 3) sc_Written___init__.nd rfl (.inl rfl))) (fun _ _ _ _ _ => pts_nil) (fun _ _ _ _ _ => (pe_callTy (kct_list (K := K)) (by rfl) T.z_list (by decide +kernel) (pa_cons (pv 3) pa_nil)))) rfl))), ?_⟩
  refine b_fld ok rfl (p_list (ok.nx rfl rfl)) T.k_Written.cl T.f_Written_tape (by decide +kernel) (by decide) fun M H ok => ?_
  refine c_fld ok rfl (p := .ow (.ow .sh)) (p_lc1 ok (j_listN (ok.nx rfl rfl)) (by walk_at "len") (by simp) (fun x41 hx41 M σ H ok => (p_list (ok.nx rfl rfl)))) T.k_Written.cl T.f_Written_heights (by decide +kernel) (by decide) fun M H ok => ?_
  exact c_endI (i := 0) (x := x_) ok rfl rfl k zz
def R_Barred___init__ (K : PySem.W.Frag) (mg : Str → Option Value) : (Addr → Prop) → List V → Hp → Addr → Dt → Pat → Prop := fun F vs H C d p => ∃ (ms : List Int), AllP [isR F (uL uI ms)] vs H ∧ C = cA mg "Barred" ∧ (True) ∧ d = (uBarred mg ms) ∧ p = (pB)
def sp_Barred___init__ (K : PySem.W.Frag) (mg : Str → Option Value) : Sp := spI 1 (R_Barred___init__ K mg)
theorem ev_new_Barred {K : PySem.W.Frag} {mg : Str → Option Value} {σ : L2.St} {H : Hp} {tr : TA} {E : XK} {M : Addr → Prop} {ms : List Int} (al : Al M H) (h : EvAG tr σ H [isR M (uL uI ms)])  : EvP M (tMakeO (cA mg "Barred") (sp_Barred___init__ K mg) E tr) σ H (uBarred mg ms) (pB) := p_makeR (ds := [uL uI ms]) al h rfl fun M vs H1 hp => ⟨ms, hp, rfl, trivial, rfl, rfl⟩
theorem eo_new_Barred {K : PySem.W.Frag} {mg : Str → Option Value} {σ : L2.St} {H : Hp} {tr : TA} {E : XK} {M : Addr → Prop} {ms : List Int} (h : EvAG tr σ H [isR Mo (uL uI ms)])  : EvP M (tMakeO (cA mg "Barred") (sp_Barred___init__ K mg) E tr) σ H (uBarred mg ms) (pB) := p_scal (ev_new_Barred (Mo_al H) h ) (scal_B)
theorem ok_Barred___init__ (T : Txt K mg) : OkI P wW K mg base CX0 (cA mg "Barred") 1 (sp_Barred___init__ K mg) := by
  refine OkI.of T.i_Barred sc_Barred___init__ (fun vs H Q E h => h.1) (fun f cdv A outer s Hb vs Q E hr h => ?_)
  obtain ⟨-, F, x_, dx_, C, r_, d0, p0_, rfl, hx, al, nf, ⟨ms, ⟨v0, r0, rfl, q0, rfl⟩, rfl, -, rfl, rfl⟩, k⟩ := h
  have ok : Ok F (fun H' O' => Lt Hb (· = x_) H' O') [.own (.node (.i (cA mg "Barred") []) []) (.fs []), st (uL uI ms)] _ Hb (Mb F [x_]) := Ok.startI al nf (by rw [hx]; simp) ⟨_, _, [x_], [], rfl, rfl, ow_new hx, ⟨_, _, [], [], rfl, rfl, ow_sh.mpr ⟨rfl, q0⟩, ⟨rfl, rfl⟩⟩⟩
  have zz : ∀ (H' : Hp) (O' : Addr → Prop), Lt Hb (· = x_) H' O' → Lt Hb (· = x_) H' O' := fun _ _ z => z
  have hu := hu_of hr
  refine ⟨_, (pss_one (ps_fld (pv 0) (pe_callTy (kct_list (K := K)) (by rfl) T.z_list (by decide +kernel) (pa_cons (pv 1) pa_nil)) rfl)), ?_⟩
  refine c_fld ok rfl (p_list (ok.nx rfl rfl)) T.k_Barred.cl T.f_Barred_marks (by decide +kernel) (by decide) fun M H ok => ?_
  exact c_endI (i := 0) (x := x_) ok rfl rfl k zz
def R_first_row (K : PySem.W.Frag) (mg : Str → Option Value) : (Addr → Prop) → List V → Hp → Dt → Pat → Prop := fun F vs H d p => ∃ (rd : Dic) (r l : Row) (c : Int), AllP [isR F (uD rd), isR F (uS r), isR F (uS l), isR F (uI c)] vs H ∧ ((r.length ≤ 4) ∧ (chp rd r l = some c) ∧ True) ∧ d = (Dt.sc (VS (pickRow rd r l c))) ∧ p = .sh
def sp_first_row (K : PySem.W.Frag) (mg : Str → Option Value) : Sp := spR 4 (R_first_row K mg)
theorem ev_first_row {K : PySem.W.Frag} {mg : Str → Option Value} {σ : L2.St} {H : Hp} {tr : TA} {E : XK} {rd : Dic} {r l : Row} {c : Int} (h : EvAG tr σ H [isR Mo (uD rd), isR Mo (uS r), isR Mo (uS l), isR Mo (uI c)]) (p0 : r.length ≤ 4) (p1 : chp rd r l = some c) : Ev (tCallO (sp_first_row K mg) E tr) σ H (VS (pickRow rd r l c)) := ev_p (M := Mo) (p := .sh) (p_callR (Mo_al H) h rfl fun vs H1 hp => ⟨rd, r, l, c, hp, ⟨p0, p1, trivial⟩, rfl, rfl⟩)
theorem ok_first_row (T : Txt K mg) : OkF P wW K mg base CX0 "first_row" 3 (sp_first_row K mg) := by
  have O_above : OkF P wW K mg base CX0 "above" 2 (sp_above K) := ok_above T
  have O_meaning : OkF P wW K mg base CX0 "meaning" 1 (sp_meaning K) := ok_meaning T
  have O_cost_of : OkF P wW K mg base CX0 "cost_of" 1 (sp_cost_of K) := ok_cost_of T
  refine OkF.of T.d_first_row sc_first_row (fun vs H Q E h => h.1) (fun f cdv A outer s Hb vs Q E hr h => ?_)
  obtain ⟨-, F, d0, p0_, al, ⟨rd, r, l, c, ⟨v0, r0, rfl, q0, ⟨v1, r1, rfl, q1, ⟨v2, r2, rfl, q2, ⟨v3, r3, rfl, q3, rfl⟩⟩⟩⟩, ⟨p0, p1, -⟩, rfl, rfl⟩, k⟩ := h
  have ok : Ok F (fun H' O' => Lt Hb Mo H' O') [st (uD rd), st (uS r), st (uS l), st (uI c), .una] _ Hb F := Ok.start al ⟨_, _, [], [], rfl, rfl, ow_sh.mpr ⟨rfl, q0⟩, ⟨_, _, [], [], rfl, rfl, ow_sh.mpr ⟨rfl, q1⟩, ⟨_, _, [], [], rfl, rfl, ow_sh.mpr ⟨rfl, q2⟩, ⟨_, _, [], [], rfl, rfl, ow_sh.mpr ⟨rfl, q3⟩, ⟨_, rfl, ⟨rfl, rfl⟩⟩⟩⟩⟩⟩
  have zz : ∀ (H' : Hp) (O' : Addr → Prop), Lt Hb Mo H' O' → Lt Hb Mo H' O' := fun _ _ z => z
  have hu := hu_of hr
  refine ⟨_, (pss_one (ps_ret (pe_ix (kix_list (K := K)) (pe_lc (own := [("other", 4)]) (g := gName 4) rfl sc_first_row.nd (kpi_list (K := K) (pe_callO O_above hr (by rfl) pass0 (pa_cons (pv 1) pa_nil))) (blkOk_by (N := N_first_row) (sc := defScope s_first_row) (by decide +kernel)) (fun _ _ _ _ _ => (pg_name (i := 4) sc_first_row.nd rfl (.inl rfl))) (fun _ _ _ _ _ => (pts_one (PW.pt (pw_and (pt_cmpR op_eq (pe_callO O_meaning hr (by rfl) pass0 (pa_cons (pv 0) (pa_cons (pv 4) pa_nil))) (pv 2) (nomark _)) (pw_and1 (pt_cmpR op_eq (pe_callO O_cost_of hr (by rfl) pass0 (pa_cons (pv 1) (pa_cons (pv 4) pa_nil))) (pv 3) (nomark _))))))) (fun _ _ _ _ _ => (pv 4))) pe_int (fun _ _ => rfl)))), ?_⟩
  have hl := aboveL_len p0
  have hp := (pickRow_ok p1).1
  have hp2 : (0 : Int) < (((aboveL r).filter fun o => decide (mean rd o = l) && decide (costOf r o = c)).length : Int) := by omega
  exact c_ret ok (EvP.is (p_ev (ev_ixQ ([] : Row) (q_p (p_lc ok (j_listN (n_p ok.al (p_L (ev_above (ag_V (ok.ev rfl) ag_nil) (by walk_at "side"))))) (by walk_at "len") (by simp) (fun x42 hx42 M σ H ok => (et_and (et_test (ev_eqS (ev_meaning (ag_D (ok.dd rfl) (ag_V (ok.ev rfl) ag_nil))) (ok.ev rfl))) (fun hb43 => (et_test (ev_eqI (ev_cost_of (ag_V (ok.ev rfl) (ag_V (ok.ev rfl) ag_nil))) (ok.ev rfl)))))) (fun x42 hx42 hy42 M σ H ok => (p_ev (ok.ev rfl))))) ev_c (by walk_at "side") (by walk_at "side"))) rfl) k zz
def R_tape_by (K : PySem.W.Frag) (mg : Str → Option Value) : (Addr → Prop) → List V → Hp → Dt → Pat → Prop := fun F vs H d p => ∃ (rd : Dic) (w : Nat) (t : List Row) (x : Row), AllP [isR F (uD rd), isR F (uL uS t), isR F (uS x), isR F (uL (uL uI) (heightsL rd t x))] vs H ∧ ((RdOk rd w) ∧ (TpOk t w) ∧ (x.length ≤ 30) ∧ True) ∧ d = (uL uS (tpL rd t x)) ∧ p = ((.ow .sh))
def sp_tape_by (K : PySem.W.Frag) (mg : Str → Option Value) : Sp := spR 4 (R_tape_by K mg)
theorem ev_tape_by {K : PySem.W.Frag} {mg : Str → Option Value} {σ : L2.St} {H : Hp} {tr : TA} {E : XK} {M : Addr → Prop} {rd : Dic} {w : Nat} {t : List Row} {x : Row} (al : Al M H) (h : EvAG tr σ H [isR M (uD rd), isR M (uL uS t), isR M (uS x), isR M (uL (uL uI) (heightsL rd t x))]) (p0 : RdOk rd w) (p1 : TpOk t w) (p2 : x.length ≤ 30) : EvP M (tCallO (sp_tape_by K mg) E tr) σ H (uL uS (tpL rd t x)) ((.ow .sh)) := p_callR al h rfl fun vs H1 hp => ⟨rd, w, t, x, hp, ⟨p0, p1, p2, trivial⟩, rfl, rfl⟩
theorem eo_tape_by {K : PySem.W.Frag} {mg : Str → Option Value} {σ : L2.St} {H : Hp} {tr : TA} {E : XK} {M : Addr → Prop} {rd : Dic} {w : Nat} {t : List Row} {x : Row} (h : EvAG tr σ H [isR Mo (uD rd), isR Mo (uL uS t), isR Mo (uS x), isR Mo (uL (uL uI) (heightsL rd t x))]) (p0 : RdOk rd w) (p1 : TpOk t w) (p2 : x.length ≤ 30) : EvP M (tCallO (sp_tape_by K mg) E tr) σ H (uL uS (tpL rd t x)) ((.ow .sh)) := p_scal (ev_tape_by (Mo_al H) h p0 p1 p2) (scal_map fun _ => scal_sc)
theorem ok_tape_by (T : Txt K mg) : OkF P wW K mg base CX0 "tape_by" 4 (sp_tape_by K mg) := by
  have O_cheapest : OkF P wW K mg base CX0 "cheapest" 3 (sp_cheapest K mg) := ok_cheapest T
  have O_first_row : OkF P wW K mg base CX0 "first_row" 3 (sp_first_row K mg) := ok_first_row T
  refine OkF.of T.d_tape_by sc_tape_by (fun vs H Q E h => h.1) (fun f cdv A outer s Hb vs Q E hr h => ?_)
  obtain ⟨-, F, d0, p0_, al, ⟨rd, w, t, x, ⟨v0, r0, rfl, q0, ⟨v1, r1, rfl, q1, ⟨v2, r2, rfl, q2, ⟨v3, r3, rfl, q3, rfl⟩⟩⟩⟩, ⟨p0, p1, p2, -⟩, rfl, rfl⟩, k⟩ := h
  have ok : Ok F (fun H' O' => Lt Hb Mo H' O') [st (uD rd), st (uL uS t), st (uS x), st (uL (uL uI) (heightsL rd t x)), .una, .una, .una, .una, .una] _ Hb F := Ok.start al ⟨_, _, [], [], rfl, rfl, ow_sh.mpr ⟨rfl, q0⟩, ⟨_, _, [], [], rfl, rfl, ow_sh.mpr ⟨rfl, q1⟩, ⟨_, _, [], [], rfl, rfl, ow_sh.mpr ⟨rfl, q2⟩, ⟨_, _, [], [], rfl, rfl, ow_sh.mpr ⟨rfl, q3⟩, ⟨_, rfl, ⟨_, rfl, ⟨_, rfl, ⟨_, rfl, ⟨_, rfl, ⟨rfl, rfl⟩⟩⟩⟩⟩⟩⟩⟩⟩⟩
  have zz : ∀ (H' : Hp) (O' : Addr → Prop), Lt Hb Mo H' O' → Lt Hb Mo H' O' := fun _ _ z => z
  have hu := hu_of hr
  refine ⟨_, (pss_cons (ps_par (i := 6) (j := 7) rfl sc_tape_by.nd rfl rfl (by decide) rfl rfl (pa_cons (pe_lst pa_nil) (pa_cons (pe_callB cb_lenS (by rfl) T.z_len (by decide +kernel) (pa_cons (pv 2) pa_nil)) pa_nil)) (by rfl))
 (pss_cons (ps_for PassesOwn.never rfl (pi_rev1 rfl T.z_reversed rfl T.z_range (pe_callB (kcb_lenQ (K := K)) (by rfl) T.z_len (by decide +kernel) (pa_cons (pv 1) pa_nil))) (pg_name (i := 4) sc_tape_by.nd rfl (.inl rfl))
  (pss_cons (ps_set (i := 8) sc_tape_by.nd rfl (.inl rfl) (pe_ix (kix_list (K := K)) (pv 1) (pv 4) (fun _ _ => rfl)))
 (pss_cons (ps_set (i := 5) sc_tape_by.nd rfl (.inl rfl) (pe_ifExp (pt_cmpR op_gt (pv 7) pe_int (nomark _)) (pe_callO O_cheapest hr (by rfl) pass0 (pa_cons (pv 0) (pa_cons (pv 8) (pa_cons (pe_ix ix_str (pv 2) (pe_op op_sub (pv 7) pe_int) (fun _ _ => rfl)) pa_nil)))) pe_non))
 (pss_one (ps_if (PW.pt (pw_and (pt_cmpR op_isntNo (pv 5) pe_non (nomark _)) (pw_and1 (pt_cmpR op_eq (pe_op op_add (pe_ix (kix_list (K := K)) (pe_ix (kix_list (K := K)) (pv 3) (pv 4) (fun _ _ => rfl)) (pe_op op_sub (pv 7) pe_int) (fun _ _ => rfl)) (pv 5)) (pe_ix (kix_list (K := K)) (pe_ix (kix_list (K := K)) (pv 3) (pe_op op_add (pv 4) pe_int) (fun _ _ => rfl)) (pv 7) (fun _ _ => rfl)) (nomark _)))))
  (pss_cons (ps_expr (pe_bm PySem.F.plainAttrs_list PySem.F.slot_list_append PySem.F.type_list_append mt_append (pv 6) (pa_cons (pe_callO O_first_row hr (by rfl) pass0 (pa_cons (pv 0) (pa_cons (pv 8) (pa_cons (pe_ix ix_str (pv 2) (pe_op op_sub (pv 7) pe_int) (fun _ _ => rfl)) (pa_cons (pv 5) pa_nil))))) pa_nil)))
 (pss_one (ps_aug (i := 7) sc_tape_by.nd rfl (.inl rfl) pe_int ip_sub)))
  (pss_one (ps_expr (pe_bm PySem.F.plainAttrs_list PySem.F.slot_list_append PySem.F.type_list_append mt_append (pv 6) (pa_cons (pe_callO O_first_row hr (by rfl) pass0 (pa_cons (pv 0) (pa_cons (pv 8) (pa_cons pe_str (pa_cons (pe_callO O_cheapest hr (by rfl) pass0 (pa_cons (pv 0) (pa_cons (pv 8) (pa_cons pe_str pa_nil)))) pa_nil))))) pa_nil)))))))))
 (pss_one (ps_ret (kpe_revL (K := K) (pv 6)))))), ?_⟩
  have hw := p0.w4
  have htl := p1.len
  have hhl : (heightsL rd t x).length = t.length + 1 := htP_len rd t x t.length
  refine b_par (d := uL uS []) (p := .ow .sh) ok (p_lst (ds := []) rs_nil (by simp)) (fun M σ H ok => (p_ev (ev_lenS (ok.ev rfl) (by walk_at "side")))) fun M σ H ok => ?_
  refine b_for (fun j ρ => ∃ a b c f m, ρ = [st (uD rd), st (uL uS t), st (uS x), st (uL (uL uI) (heightsL rd t x)), a, b, mu (uL uS f), st (uI (m : Nat)), c] ∧ m ≤ x.length ∧ f.length = j ∧ tpL rd t x = tpAt rd t x (t.length - j) m ++ f.reverse) ok (j_rev1 (ev_lenQ (ok.q rfl)) (by walk_at "rng")) ⟨_, _, _, [], x.length, rfl, Nat.le_refl _, rfl, by simp [tpL]⟩ ?_ ?_
  · rintro Z1 z1 j j' ρ M σ H hj ⟨a, b, c, f, m, rfl, hm, hfl, htp⟩ ok
    have hj2 : j' = j ∧ j < t.length := by
      obtain ⟨h1, h2⟩ := List.getElem?_eq_some_iff.mp hj
      rw [List.length_range] at h1
      rw [List.getElem_range] at h2
      exact ⟨h2.symm, by omega⟩
    obtain ⟨rfl, hjl⟩ := hj2
    obtain ⟨i, hi⟩ : ∃ i, t.length - j' = i + 1 := ⟨t.length - j' - 1, by omega⟩
    have hii : (t.length : Int) - 1 - (j' : Int) = (i : Int) := by omega
    rw [hii] at ok
    have hil : i < t.length := by omega
    rw [hi] at htp
    have hri : t.getD (i : Int).toNat [] = t.getD i [] := rfl
    have hrm : t.getD i [] ∈ t := by rw [List.getD_eq_getElem?_getD, List.getElem?_eq_getElem hil]; exact List.getElem_mem _
    have hrw := p1.row _ hrm
    have hr4 : (t.getD i []).length ≤ 4 := by have := isRow_len hrw; omega
    obtain ⟨rc, hrc, hrc0, hrc4⟩ := chp_rub p0 hrw
    have hrub : rubC rd (t.getD i []) = rc := by unfold rubC; rw [hrc]; rfl
    refine b_asg ok (EvP.is (p_ev (ev_ixQ ([] : Row) (ok.q rfl) (ok.ev rfl) (by walk_at "side") (by walk_at "side"))) (show _ = uS (t.getD i []) from rfl)) fun M σ H ok => ?_
    generalize hr : t.getD i [] = r at hrw hr4 hrc hrub
    have ok : Ok F Z1 [st (uD rd), st (uL uS t), st (uS x), st (uL (uL uI) (heightsL rd t x)), st (uI (i : Nat)), b, mu (uL uS f), st (uI (m : Nat)), st (uS r)] σ H M := by rw [← hr]; exact ok
    refine b_asg (d := uO (if 0 < m then chp rd r [x.getD (m - 1) 0] else none)) ok (EvP.is (p_ev (ev_ifV (et_test (ev_gt (ok.ev rfl) ev_c)) (fun hb => (ev_cheapest (ag_R (ok.ro rfl) (ag_R (r_ev (ok.ev rfl)) (ag_R (r_ev (ev_ixS (ok.ev rfl) (ev_sub (ok.ev rfl) ev_c) (by omega) (by have := of_decide_eq_true hb; omega) (by omega))) ag_nil))) hr4)) (fun hb1 => ev_c))) ?_) fun M σ H ok => ?_
    · by_cases h : 0 < m
      · rw [decide_eq_true (show (0 : Int) < (m : Int) by omega), if_pos rfl, if_pos h, show ((m : Int) - 1).toNat = m - 1 by omega]
      · rw [decide_eq_false (show ¬ (0 : Int) < (m : Int) by omega), if_neg (by decide), if_neg h]
        rfl
    have hup : tpUp rd t x i m = if 0 < m then (match chp rd r [x.getD (m - 1) 0] with
      | none => none
      | some c => if htAt rd t x i (m - 1) + c = htAt rd t x (i + 1) m then some c else none) else none := by unfold tpUp; (rw [hr] <;> rfl)
    have hline : ∀ k m', k ≤ t.length → m' ≤ x.length → ((heightsL rd t x).getD k []).getD m' 0 = htAt rd t x k m' := fun k m' h1 h2 => by
      unfold heightsL
      rw [htP_at h1, htLine_at h2]
    have hll : ∀ k, k ≤ t.length → ((heightsL rd t x).getD k []).length = x.length + 1 := fun k h1 => by
      unfold heightsL
      rw [htP_at h1, htLine_len]
    have hl1 := hll i (by omega)
    have hl2 := hll (i + 1) (by omega)
    have hi1 : ((i : Int) + 1).toNat = i + 1 := by omega
    have hi0 : (i : Int).toNat = i := by omega
    refine c_if (b := (tpUp rd t x i m).isSome) ok (EvT.is (et_and (et_test (ev_isntNoO (ok.ev rfl) ev_c)) (fun hb2 => (et_test (ev_eqI (ev_add (ev_ixQ (0 : Int) (q_r (r_ixL (f := uL uI) [] (ok.nx rfl rfl) (ok.ev rfl) (by omega) (by omega))) (ev_sub (ok.ev rfl) ev_c) (by by_cases h0 : 0 < m; (· omega); (· rw [if_neg h0] at hb2; cases hb2)) (by rw [hi0]; omega)) (ev_getO (ok.ev rfl) hb2)) (ev_ixQ (0 : Int) (q_r (r_ixL (f := uL uI) [] (ok.nx rfl rfl) (ev_add (ok.ev rfl) ev_c) (by omega) (by omega))) (ok.ev rfl) (by omega) (by rw [hi1]; omega)))))) ?_) (fun hb M σ H ok => ?_) (fun hb M σ H ok => ?_)
    · rw [hup]
      by_cases h : 0 < m
      · rw [if_pos h, if_pos h]
        cases hc : chp rd r [x.getD (m - 1) 0] with
        | none => rfl
        | some c =>
          rw [hi0, hi1, show ((m : Int) - 1).toNat = m - 1 by omega, show (m : Int).toNat = m by omega, hline i (m - 1) (by omega) (by omega), hline (i + 1) m (by omega) hm]
          show decide (htAt rd t x i (m - 1) + c = htAt rd t x (i + 1) m) = _
          by_cases he : htAt rd t x i (m - 1) + c = htAt rd t x (i + 1) m
          · simp [he]
          · simp [he]
      · rw [if_neg h, if_neg h]
        rfl
    · obtain ⟨c, hc⟩ := Option.isSome_iff_exists.mp hb
      have hm0 : 0 < m := by
        rw [hup] at hc
        split at hc
        · assumption
        · cases hc
      have hch : chp rd r [x.getD (m - 1) 0] = some c := by
        rw [hup, if_pos hm0] at hc
        cases hq : chp rd r [x.getD (m - 1) 0] with
        | none => rw [hq] at hc; cases hc
        | some c' =>
          rw [hq] at hc
          dsimp only at hc
          split at hc
          · exact hc
          · cases hc
      rw [if_pos hm0, hch] at ok
      have hmi : ((m : Int) - 1).toNat = m - 1 := by omega
      refine b_app (x := pickRow rd r [x.getD (m - 1) 0] c) ok rfl (EvR.is (r_ev (ev_first_row (ag_R (ok.ro rfl) (ag_R (r_ev (ok.ev rfl)) (ag_R (r_ev (ev_ixS (ok.ev rfl) (ev_sub (ok.ev rfl) ev_c) (by omega) (by omega) (by omega))) (ag_R (r_ev (ok.ev rfl)) ag_nil)))) hr4 (by rw [hmi]; exact hch))) (by rw [hmi])) (by omega) fun M σ H ok => ?_
      refine c_aug ok rfl ev_c fun M σ H ok => ⟨_, _, ok, _, _, _, f ++ [pickRow rd r [x.getD (m - 1) 0] c], m - 1, by rw [show ((m - 1 : Nat) : Int) = (m : Int) - 1 by omega]; rfl, by omega, by simp [hfl], ?_⟩
      rw [htp, show t.length - (j' + 1) = i by omega]
      show (match tpUp rd t x i m with | some c => _ | none => _) ++ _ = _
      rw [hc, hr]
      simp
    · have hc : tpUp rd t x i m = none := by
        cases hq : tpUp rd t x i m with
        | none => rfl
        | some c => rw [hq] at hb; cases hb
      refine c_app (x := pickRow rd r [] rc) ok rfl (EvR.is (r_ev (ev_first_row (ag_R (ok.ro rfl) (ag_R (r_ev (ok.ev rfl)) (ag_R (r_ev (ev_cS lit_nil)) (ag_R (r_ev (Ho.Ev.is (ev_cheapest (ag_R (ok.ro rfl) (ag_R (r_ev (ok.ev rfl)) (ag_R (r_ev (ev_cS lit_nil)) ag_nil))) hr4) (show _ = V.int rc by rw [hrc]; rfl))) ag_nil)))) hr4 hrc)) rfl) (by omega) fun M σ H ok => ⟨_, _, ok, _, _, _, f ++ [pickRow rd r [] rc], m, rfl, hm, by simp [hfl], ?_⟩
      rw [htp, show t.length - (j' + 1) = i by omega]
      show (match tpUp rd t x i m with | some c => _ | none => _) ++ _ = _
      rw [hc, hr, hrub]
      simp
  · rintro ρ M σ H ⟨a, b, c, f, m, rfl, hm, hfl, htp⟩ ok
    have htp : tpL rd t x = tpAt rd t x (t.length - (List.range (t.length : Int).toNat).length) m ++ f.reverse := htp
    rw [List.length_range, show t.length - (t.length : Int).toNat = 0 by omega] at htp
    exact c_ret ok (EvP.is (p_revL (ok.nx rfl rfl)) (by rw [htp]; rfl)) k zz
def R_written (K : PySem.W.Frag) (mg : Str → Option Value) : (Addr → Prop) → List V → Hp → Dt → Pat → Prop := fun F vs H d p => ∃ (rd : Dic) (w : Nat) (t : List Row) (x : Row), AllP [isR F (uD rd), isR F (uL uS t), isR F (uS x)] vs H ∧ ((RdOk rd w) ∧ (TpOk t w) ∧ (x.length ≤ 30) ∧ True) ∧ d = (wrD mg rd t x) ∧ p = (wrP rd t x)
def sp_written (K : PySem.W.Frag) (mg : Str → Option Value) : Sp := spR 3 (R_written K mg)
theorem ev_written {K : PySem.W.Frag} {mg : Str → Option Value} {σ : L2.St} {H : Hp} {tr : TA} {E : XK} {M : Addr → Prop} {rd : Dic} {w : Nat} {t : List Row} {x : Row} (al : Al M H) (h : EvAG tr σ H [isR M (uD rd), isR M (uL uS t), isR M (uS x)]) (p0 : RdOk rd w) (p1 : TpOk t w) (p2 : x.length ≤ 30) : EvP M (tCallO (sp_written K mg) E tr) σ H (wrD mg rd t x) (wrP rd t x) := p_callR al h rfl fun vs H1 hp => ⟨rd, w, t, x, hp, ⟨p0, p1, p2, trivial⟩, rfl, rfl⟩
theorem eo_written {K : PySem.W.Frag} {mg : Str → Option Value} {σ : L2.St} {H : Hp} {tr : TA} {E : XK} {M : Addr → Prop} {rd : Dic} {w : Nat} {t : List Row} {x : Row} (h : EvAG tr σ H [isR Mo (uD rd), isR Mo (uL uS t), isR Mo (uS x)]) (p0 : RdOk rd w) (p1 : TpOk t w) (p2 : x.length ≤ 30) : EvP M (tCallO (sp_written K mg) E tr) σ H (wrD mg rd t x) (wrP rd t x) := p_scal (ev_written (Mo_al H) h p0 p1 p2) (scal_wr)
theorem ok_written (T : Txt K mg) : OkF P wW K mg base CX0 "written" 5 (sp_written K mg) := by
  have O_marks_of : OkF P wW K mg base CX0 "marks_of" 4 (sp_marks_of K mg) := ok_marks_of T
  have O_heights_of : OkF P wW K mg base CX0 "heights_of" 4 (sp_heights_of K mg) := ok_heights_of T
  have O_Written___init__ : OkI P wW K mg base CX0 (cA mg "Written") 1 (sp_Written___init__ K mg) := ok_Written___init__ T
  have O_Barred___init__ : OkI P wW K mg base CX0 (cA mg "Barred") 1 (sp_Barred___init__ K mg) := ok_Barred___init__ T
  have O_tape_by : OkF P wW K mg base CX0 "tape_by" 4 (sp_tape_by K mg) := ok_tape_by T
  refine OkF.of T.d_written sc_written (fun vs H Q E h => h.1) (fun f cdv A outer s Hb vs Q E hr h => ?_)
  obtain ⟨-, F, d0, p0_, al, ⟨rd, w, t, x, ⟨v0, r0, rfl, q0, ⟨v1, r1, rfl, q1, ⟨v2, r2, rfl, q2, rfl⟩⟩⟩, ⟨p0, p1, p2, -⟩, rfl, rfl⟩, k⟩ := h
  have ok : Ok F (fun H' O' => Lt Hb Mo H' O') [st (uD rd), st (uL uS t), st (uS x), .una, .una] _ Hb F := Ok.start al ⟨_, _, [], [], rfl, rfl, ow_sh.mpr ⟨rfl, q0⟩, ⟨_, _, [], [], rfl, rfl, ow_sh.mpr ⟨rfl, q1⟩, ⟨_, _, [], [], rfl, rfl, ow_sh.mpr ⟨rfl, q2⟩, ⟨_, rfl, ⟨_, rfl, ⟨rfl, rfl⟩⟩⟩⟩⟩⟩
  have zz : ∀ (H' : Hp) (O' : Addr → Prop), Lt Hb Mo H' O' → Lt Hb Mo H' O' := fun _ _ z => z
  have hu := hu_of hr
  refine ⟨_, (pss_cons (ps_set (i := 4) sc_written.nd rfl (.inl rfl) (pe_callO O_marks_of hr (by rfl) pass0 (pa_cons (pv 0) (pa_cons (pv 1) (pa_cons (pv 2) pa_nil)))))
 (pss_cons (ps_if (pt_cmpR op_lt (pe_ix (kix_list (K := K)) (pv 4) (pe_un un_neg pe_int) (fun _ _ => rfl)) (pe_callB cb_lenS (by rfl) T.z_len (by decide +kernel) (pa_cons (pv 2) pa_nil)) (nomark _))
  (pss_one (ps_ret (pe_makeO O_Barred___init__ T.k_Barred.at_ hr (by rfl) pass0 (pa_cons (pv 4) pa_nil))))
  pss_nil)
 (pss_cons (ps_set (i := 3) sc_written.nd rfl (.inl rfl) (pe_callO O_heights_of hr (by rfl) pass0 (pa_cons (pv 0) (pa_cons (pv 1) (pa_cons (pv 2) pa_nil)))))
 (pss_one (ps_ret (pe_makeO O_Written___init__ T.k_Written.at_ hr (by rfl) pass0 (pa_cons (pe_callO O_tape_by hr (by rfl) pass0 (pa_cons (pv 0) (pa_cons (pv 1) (pa_cons (pv 2) (pa_cons (pv 3) pa_nil))))) (pa_cons (pv 3) pa_nil)))))))), ?_⟩
  have hlast := marksP_last rd t x t.length
  have hhl : (heightsL rd t x).length = t.length + 1 := htP_len rd t x t.length
  have htl := p1.len
  refine b_asg ok (eo_marks_of (ag_R (ok.ro rfl) (ag_R (ok.ro rfl) (ag_R (r_ev (ok.ev rfl)) ag_nil))) (by walk_at "side") (by walk_at "side") (by walk_at "side")) fun M σ H ok => ?_
  refine b_when (b := wrB rd t x) ok (EvT.is (et_test (ev_lt (ev_ixLast (ok.q rfl) (ev_neg ev_c) (by walk_at "side")) (ev_lenS (ok.ev rfl) (by walk_at "side")))) (decide_eq_decide.mpr (by omega))) (fun hb M σ H ok => ?_) (fun hb M σ H ok => ?_)
  · unfold wrD wrP at k
    rw [hb] at k
    exact c_ret ok (eo_new_Barred (ag_R (ok.ro rfl) ag_nil)) k zz
  refine b_asg ok (ev_heights_of ok.al (ag_R (ok.r rfl) (ag_R (ok.r rfl) (ag_R (r_ev (ok.ev rfl)) ag_nil))) (by walk_at "side") (by walk_at "side") (by walk_at "side")) fun M σ H ok => ?_
  unfold wrD wrP at k
  rw [hb] at k
  exact c_ret ok (eo_new_Written (ag_R (r_o (r_p ok.al (eo_tape_by (ag_R (ok.ro rfl) (ag_R (ok.ro rfl) (ag_R (r_ev (ok.ev rfl)) (ag_R (ok.ro rfl) ag_nil)))) p0 p1 p2))) (ag_R (ok.ro rfl) ag_nil)) (by omega)) k zz
def R_taken (K : PySem.W.Frag) (mg : Str → Option Value) : (Addr → Prop) → List V → Hp → Dt → Pat → Prop := fun F vs H d p => ∃ (t o : List Row), AllP [isR F (uL uS t), isR F (uL uS o)] vs H ∧ ((t.length ≤ 40000) ∧ True) ∧ d = (Dt.sc (.int ((t.zip o).map fun p => costOf p.1 p.2).sum)) ∧ p = .sh
def sp_taken (K : PySem.W.Frag) (mg : Str → Option Value) : Sp := spR 2 (R_taken K mg)
theorem ev_taken {K : PySem.W.Frag} {mg : Str → Option Value} {σ : L2.St} {H : Hp} {tr : TA} {E : XK} {t o : List Row} (h : EvAG tr σ H [isR Mo (uL uS t), isR Mo (uL uS o)]) (p0 : t.length ≤ 40000) : Ev (tCallO (sp_taken K mg) E tr) σ H (.int ((t.zip o).map fun p => costOf p.1 p.2).sum) := ev_p (M := Mo) (p := .sh) (p_callR (Mo_al H) h rfl fun vs H1 hp => ⟨t, o, hp, ⟨p0, trivial⟩, rfl, rfl⟩)
theorem ok_taken (T : Txt K mg) : OkF P wW K mg base CX0 "taken" 2 (sp_taken K mg) := by
  have O_cost_of : OkF P wW K mg base CX0 "cost_of" 1 (sp_cost_of K) := ok_cost_of T
  refine OkF.of T.d_taken sc_taken (fun vs H Q E h => h.1) (fun f cdv A outer s Hb vs Q E hr h => ?_)
  obtain ⟨-, F, d0, p0_, al, ⟨t, o, ⟨v0, r0, rfl, q0, ⟨v1, r1, rfl, q1, rfl⟩⟩, ⟨p0, -⟩, rfl, rfl⟩, k⟩ := h
  have ok : Ok F (fun H' O' => Lt Hb Mo H' O') [st (uL uS t), st (uL uS o), .una, .una] _ Hb F := Ok.start al ⟨_, _, [], [], rfl, rfl, ow_sh.mpr ⟨rfl, q0⟩, ⟨_, _, [], [], rfl, rfl, ow_sh.mpr ⟨rfl, q1⟩, ⟨_, rfl, ⟨_, rfl, ⟨rfl, rfl⟩⟩⟩⟩⟩
  have zz : ∀ (H' : Hp) (O' : Addr → Prop), Lt Hb Mo H' O' → Lt Hb Mo H' O' := fun _ _ z => z
  have hu := hu_of hr
  refine ⟨_, (pss_one (ps_ret (pe_callB (kcr_sum (K := K) rfl) (by rfl) T.z_sum (by decide +kernel) (pa_cons (pe_lc (own := [("one", 2), ("new", 3)]) (g := gTup K 2 (gCons (gName 2) (gCons (gName 3) gNil))) rfl sc_taken.nd (kpi_zip (K := K) (by rfl) T.z_zip (pa_cons (pv 0) (pa_cons (pv 1) pa_nil))) (blkOk_by (N := N_taken) (sc := defScope s_taken) (by decide +kernel)) (fun _ _ _ _ _ => (pg_tup rfl (pgs_cons (pg_name (i := 2) sc_taken.nd rfl (.inl rfl)) (pgs_cons (pg_name (i := 3) sc_taken.nd rfl (.inl rfl)) pgs_nil)))) (fun _ _ _ _ _ => pts_nil) (fun _ _ _ _ _ => (pe_callO O_cost_of hr (by rfl) pass0 (pa_cons (pv 2) (pa_cons (pv 3) pa_nil))))) pa_nil)))), ?_⟩
  exact c_ret ok (p_ev (ev_sumQ (q_p (p_lc1 ok (EvJ.e (j_zip (ok.r rfl) (ok.r rfl))) (by walk_at "len") (by simp) (fun x46 hx46 M σ H ok => (p_ev (ev_cost_of (ag_V (ok.ev rfl) (ag_V (ok.ev rfl) ag_nil))))))))) k zz
def R_Punch_become (K : PySem.W.Frag) (mg : Str → Option Value) : (Addr → Prop) → List V → Hp → Dt → Pat → Dt → Pat → Dt → Prop := fun F vs H d0 q0 d1 q1 d => ∃ (rd : Dic) (w : Nat) (t o : List Row) (n : Int), AllP [isR F (uL uS o)] vs H ∧ ((t.length ≤ 40000) ∧ True) ∧ d0 = uPunch mg w rd t n ∧ q0 = pP ∧ d1 = uPunch mg w rd o (n + takenL t o) ∧ q1 = pP ∧ d = (Dt.sc (.int (takenL t o)))
def sp_Punch_become (K : PySem.W.Frag) (mg : Str → Option Value) : Sp := spX 1 (R_Punch_become K mg)
theorem xv_Punch_become {K : PySem.W.Frag} {mg : Str → Option Value} {F : Addr → Prop} {Z : Hp → (Addr → Prop) → Prop} {ρ : List Sl} {σ : L2.St} {H : Hp} {M : Addr → Prop} {i : Nat} {tr : TA} {E : XK} {rd : Dic} {w : Nat} {t o : List Row} {n : Int} (ok : Ok F Z ρ σ H M) (hi : ρ[i]? = some (.own (uPunch mg w rd t n) (pP))) {sel : Addr → Sp → Prop} (hsel_ : sel (cA mg "Punch") (sp_Punch_become K mg)) (h : EvAG tr σ H [isR M (uL uS o)]) (p0 : t.length ≤ 40000) : XV (tMethU sel "become" E (tVar i) tr) F Z (ρ.set i (.own (uPunch mg w rd o (n + takenL t o)) (pP))) σ H (Dt.sc (.int (takenL t o))) := x_meth ok hi hsel_ (by decide +kernel) h rfl fun vs H1 hp => ⟨rd, w, t, o, n, hp, ⟨p0, trivial⟩, rfl, rfl, rfl, rfl, rfl⟩
theorem ok_Punch_become (T : Txt K mg) : OkM P wW K mg base CX0 (cA mg "Punch") "become" 3 (sp_Punch_become K mg) := by
  have O_taken : OkF P wW K mg base CX0 "taken" 2 (sp_taken K mg) := ok_taken T
  refine OkM.of T.m_Punch_become sc_Punch_become (fun vs H Q E h => h.1) (fun f cdv A outer s Hb vs Q E hr h => ?_)
  obtain ⟨-, F, x_, r_, bs0, d0, p0_, d1, p1_, d_, rfl, nb, nf, al, w0, ⟨rd, w, t, o, n, ⟨v1, r1, rfl, q1, rfl⟩, ⟨p0, -⟩, rfl, rfl, rfl, rfl, rfl⟩, k⟩ := h
  have ok : Ok F (fun H' O' => Lt Hb (· ∈ bs0) H' O') [.own (uPunch mg w rd t n) (pP), st (uL uS o), .una] _ Hb (Mb F bs0) := Ok.startX al nf nb w0.al ⟨_, _, bs0, [], rfl, (List.append_nil _).symm, w0, ⟨_, _, [], [], rfl, rfl, ow_sh.mpr ⟨rfl, q1⟩, ⟨_, rfl, ⟨rfl, rfl⟩⟩⟩⟩
  have zz : ∀ (H' : Hp) (O' : Addr → Prop), Lt Hb (· ∈ bs0) H' O' → Lt Hb (· ∈ bs0) H' O' := fun _ _ z => z
  have hu := hu_of hr
  refine ⟨_, (pss_cons (ps_set (i := 2) sc_Punch_become.nd rfl (.inl rfl) (pe_callO O_taken hr (by rfl) pass0 (pa_cons (pe_fld (pv 0) rfl) (pa_cons (pv 1) pa_nil))))
 (pss_cons (ps_fld (pv 0) (pe_callTy (kct_list (K := K)) (by rfl) T.z_list (by decide +kernel) (pa_cons (pv 1) pa_nil)) rfl)
 (pss_cons (ps_fldaug (pv 0) (pv 2) in_add)
 (pss_one (ps_ret (pv 2)))))), ?_⟩
  refine b_asgS ok (d := uI (takenL t o)) (p_ev (ev_taken (ag_R (r_o (EvR.is (r_fld (ns := ["width", "reader", "rows", "made"]) uN (ok.nn rfl) T.k_Punch.cl T.f_Punch_rows 2 rfl (by decide +kernel) rfl) (by rfl))) (ag_R (ok.ro rfl) ag_nil)) p0)) fun v M H ok => ?_
  refine b_fldAt 2 ok rfl (d := uL uS o) (p := .ow .sh) (p_list (ok.nx rfl rfl)) T.k_Punch.cl T.f_Punch_rows rfl (by decide +kernel) rfl (by decide) fun M H ok => ?_
  refine b_fldAug (a := n) (b := takenL t o) 3 ok rfl (ok.ev rfl) T.k_Punch.cl T.f_Punch_made rfl (by decide +kernel) rfl (by decide) rfl rfl fun M H ok => ?_
  exact c_retY (i := 0) ok (r_ev (ok.ev rfl)) rfl rfl k zz
def sel_become (K : PySem.W.Frag) (mg : Str → Option Value) : Addr → Sp → Prop := fun C sp => (C = cA mg "Punch" ∧ sp = sp_Punch_become K mg)
theorem hsel_become (T : Txt K mg) : ∀ C sp, sel_become K mg C sp → Cls K C ∧ OkM P wW K mg base CX0 C "become" 3 sp := by
  intro C sp h
  obtain ⟨rfl, rfl⟩ := h
  · exact ⟨T.k_Punch.cl, (ok_Punch_become T).mono (by decide)⟩
def R_Punch_write (K : PySem.W.Frag) (mg : Str → Option Value) : (Addr → Prop) → List V → Hp → Dt → Pat → Dt → Pat → Dt → Prop := fun F vs H d0 q0 d1 q1 d => ∃ (rd : Dic) (w : Nat) (t : List Row) (x : Row) (n : Int), AllP [isR F (uS x)] vs H ∧ ((RdOk rd w) ∧ (TpOk t w) ∧ (TxOk x) ∧ True) ∧ d0 = uPunch mg w rd t n ∧ q0 = pP ∧ d1 = uPunch mg w rd (wrT rd t x) (n + (wrC rd t x).getD 0) ∧ q1 = pP ∧ d = (Dt.sc (vO (wrC rd t x)))
def sp_Punch_write (K : PySem.W.Frag) (mg : Str → Option Value) : Sp := spX 1 (R_Punch_write K mg)
theorem xv_Punch_write {K : PySem.W.Frag} {mg : Str → Option Value} {F : Addr → Prop} {Z : Hp → (Addr → Prop) → Prop} {ρ : List Sl} {σ : L2.St} {H : Hp} {M : Addr → Prop} {i : Nat} {tr : TA} {E : XK} {rd : Dic} {w : Nat} {t : List Row} {x : Row} {n : Int} (ok : Ok F Z ρ σ H M) (hi : ρ[i]? = some (.own (uPunch mg w rd t n) (pP))) {sel : Addr → Sp → Prop} (hsel_ : sel (cA mg "Punch") (sp_Punch_write K mg)) (h : EvAG tr σ H [isR M (uS x)]) (p0 : RdOk rd w) (p1 : TpOk t w) (p2 : TxOk x) : XV (tMethU sel "write" E (tVar i) tr) F Z (ρ.set i (.own (uPunch mg w rd (wrT rd t x) (n + (wrC rd t x).getD 0)) (pP))) σ H (Dt.sc (vO (wrC rd t x))) := x_meth ok hi hsel_ (by decide +kernel) h rfl fun vs H1 hp => ⟨rd, w, t, x, n, hp, ⟨p0, p1, p2, trivial⟩, rfl, rfl, rfl, rfl, rfl⟩
theorem ok_Punch_write (T : Txt K mg) : OkM P wW K mg base CX0 (cA mg "Punch") "write" 6 (sp_Punch_write K mg) := by
  have O_check_text : OkF P wW K mg base CX0 "check_text" 1 (sp_check_text K) := ok_check_text T
  have O_written : OkF P wW K mg base CX0 "written" 5 (sp_written K mg) := ok_written T
  have S_become := hsel_become (P := P) (wW := wW) (base := base) T
  refine OkM.of T.m_Punch_write sc_Punch_write (fun vs H Q E h => h.1) (fun f cdv A outer s Hb vs Q E hr h => ?_)
  obtain ⟨-, F, x_, r_, bs0, d0, p0_, d1, p1_, d_, rfl, nb, nf, al, w0, ⟨rd, w, t, x, n, ⟨v1, r1, rfl, q1, rfl⟩, ⟨p0, p1, p2, -⟩, rfl, rfl, rfl, rfl, rfl⟩, k⟩ := h
  have ok : Ok F (fun H' O' => Lt Hb (· ∈ bs0) H' O') [.own (uPunch mg w rd t n) (pP), st (uS x), .una] _ Hb (Mb F bs0) := Ok.startX al nf nb w0.al ⟨_, _, bs0, [], rfl, (List.append_nil _).symm, w0, ⟨_, _, [], [], rfl, rfl, ow_sh.mpr ⟨rfl, q1⟩, ⟨_, rfl, ⟨rfl, rfl⟩⟩⟩⟩
  have zz : ∀ (H' : Hp) (O' : Addr → Prop), Lt Hb (· ∈ bs0) H' O' → Lt Hb (· ∈ bs0) H' O' := fun _ _ z => z
  have hu := hu_of hr
  refine ⟨_, (pss_cons (ps_expr (pe_callO O_check_text hr (by rfl) pass0 (pa_cons (pv 1) pa_nil)))
 (pss_cons (ps_set (i := 2) sc_Punch_write.nd rfl (.inl rfl) (pe_callO O_written hr (by rfl) pass0 (pa_cons (pe_fld (pv 0) rfl) (pa_cons (pe_fld (pv 0) rfl) (pa_cons (pv 1) pa_nil)))))
 (pss_cons (ps_if (pt_val (pe_callB (kcall_isi (K := K)) (by rfl) T.z_isinstance (by decide +kernel) (pa_cons (pv 2) (pa_cons (pe_glob (v := .ref (cA mg "Barred")) (by rfl) T.k_Barred.at_ rfl) pa_nil))))
  (pss_one (ps_ret pe_non))
  pss_nil)
 (pss_one (ps_ret (pe_methU S_become hr pass0 (pv 0) (pa_cons (pe_fld (pv 2) rfl) pa_nil))))))), ?_⟩
  have htl := p1.len
  refine b_dropS ok (p_ev (ev_check_text (ag_V (ok.ev rfl) ag_nil) (by walk_at "side"))) fun M H ok => ?_
  refine b_asgS ok (d := wrD mg rd t x) (p := wrP rd t x) (eo_written (ag_R (r_o (EvR.is (r_fld (ns := ["width", "reader", "rows", "made"]) uN (ok.nn rfl) T.k_Punch.cl T.f_Punch_reader 1 rfl (by decide +kernel) rfl) (by rfl))) (ag_R (r_o (EvR.is (r_fld (ns := ["width", "reader", "rows", "made"]) uN (ok.nn rfl) T.k_Punch.cl T.f_Punch_rows 2 rfl (by decide +kernel) rfl) (by rfl))) (ag_R (r_ev (ok.ev rfl)) ag_nil))) p0 p1 p2.len) fun v M H ok => ?_
  cases hB : wrB rd t x with
  | true =>
    have e1 : wrD mg rd t x = uBarred mg (marksL rd t x) := by unfold wrD; rw [hB]; rfl
    have e2 : wrP rd t x = pB := by unfold wrP; rw [hB]; rfl
    have e3 : wrT rd t x = t := by unfold wrT; rw [hB]; rfl
    have e4 : wrC rd t x = none := by unfold wrC; rw [hB]; rfl
    rw [e1, e2] at ok
    rw [e3, e4] at k
    refine b_whenE (b := true) ok (et_B (ev_isiO (ok.nn rfl) T.k_Barred ev_c (.own _) T.q_Barred_Barred)) (fun _ M H ok => ?_) (fun e => nomatch e)
    have k : RetX F Hb x_ bs0 (uPunch mg w rd t n) pP uN Q := by
      have e : n + (none : Option Int).getD 0 = n := by show n + 0 = n; omega
      rw [e] at k
      exact k
    exact c_retY (i := 0) (D := { nx := _, rt := Q }) ok (r_ev ev_c) rfl rfl k zz
  | false =>
    have e1 : wrD mg rd t x = uWritten mg (tpL rd t x) (heightsL rd t x) := by unfold wrD; rw [hB]; rfl
    have e2 : wrP rd t x = pW := by unfold wrP; rw [hB]; rfl
    have e3 : wrT rd t x = tpL rd t x := by unfold wrT; rw [hB]; rfl
    have e4 : wrC rd t x = some (takenL t (tpL rd t x)) := by unfold wrC; rw [hB]; rfl
    rw [e1, e2] at ok
    rw [e3, e4] at k
    refine b_whenE (b := false) ok (et_B (ev_isiO (ok.nn rfl) T.k_Written ev_c (.own _) T.q_Written_Barred)) (fun e => nomatch e) (fun _ M H ok => ?_)
    obtain ⟨M, ok⟩ := ok.share 2 rfl
    exact c_retYY (i := 0) (xv_Punch_become ok rfl (by walk_at "sel") (ag_R (EvR.is (r_fld (ns := ["tape", "heights"]) uN (ok.nx rfl rfl) T.k_Written.cl T.f_Written_tape 0 rfl (by decide +kernel) rfl) (by rfl)) ag_nil) (by omega)) rfl rfl k zz
def sel_write (K : PySem.W.Frag) (mg : Str → Option Value) : Addr → Sp → Prop := fun C sp => (C = cA mg "Punch" ∧ sp = sp_Punch_write K mg)
theorem hsel_write (T : Txt K mg) : ∀ C sp, sel_write K mg C sp → Cls K C ∧ OkM P wW K mg base CX0 C "write" 6 sp := by
  intro C sp h
  obtain ⟨rfl, rfl⟩ := h
  · exact ⟨T.k_Punch.cl, (ok_Punch_write T).mono (by decide)⟩
def R__law_can (K : PySem.W.Frag) : List V → Hp → V → Prop := fun vs H z => ∃ (t o : List Row) (w : Nat), AllP [isL K (Txts t), isL K (Txts o)] vs H ∧ ((TpOk t w) ∧ (TpOk o w) ∧ (w ≤ 4) ∧ True) ∧ z = .bl (overB t o)
def sp__law_can (K : PySem.W.Frag) : Sp := spV  2 (R__law_can K)
theorem ev__law_can {K : PySem.W.Frag} {σ : L2.St} {H : Hp} {tr : TA} {E : XK} {t o : List Row} {w : Nat} (h : EvAG tr σ H [isL K (Txts t), isL K (Txts o)]) (p0 : TpOk t w) (p1 : TpOk o w) (p2 : w ≤ 4) : Ev (tCallO (sp__law_can K) E tr) σ H (.bl (overB t o)) := ev_callG h rfl fun vs H1 e hp => ⟨t, o, w, hp, ⟨p0, p1, p2, trivial⟩, rfl⟩
theorem ok__law_can (T : Txt K mg) : OkF P wW K mg base CX0 "_law_can" 2 (sp__law_can K) := by
  have O__law_over : OkF P wW K mg base CX0 "_law_over" 1 (sp__law_over K) := ok__law_over T
  refine OkF.of T.d__law_can sc__law_can (fun vs H Q E h => h.1) (fun f cdv A outer s H vs Q E hr h => ?_)
  obtain ⟨-, z, H0, e0, ⟨t, o, w, ⟨v0, r0, rfl, ⟨a0, rfl, q0⟩, ⟨v1, r1, rfl, ⟨a1, rfl, q1⟩, rfl⟩⟩, ⟨p0, p1, p2, -⟩, rfl⟩, k⟩ := h
  have h0 := exl e0 q0
  clear q0
  have h1 := exl e0 q1
  clear q1
  clear e0 H0
  have hu := hu_of hr
  refine ⟨_, (pss_one (ps_ret (pe_and (pe_cmpR op_eq (pe_callB (kcb_lenQ (K := K)) (by rfl) T.z_len (by decide +kernel) (pa_cons (pv 0) pa_nil)) (pe_callB (kcb_lenQ (K := K)) (by rfl) T.z_len (by decide +kernel) (pa_cons (pv 1) pa_nil)) (nomark _)) (pe_one (pe_callB (kcr_all (K := K) rfl) (by rfl) T.z_all (by decide +kernel) (pa_cons (pe_lc (own := [("_law_row", 2), ("_law_new", 3)]) (g := gTup K 2 (gCons (gName 2) (gCons (gName 3) gNil))) rfl sc__law_can.nd (kpi_zip (K := K) (by rfl) T.z_zip (pa_cons (pv 0) (pa_cons (pv 1) pa_nil))) (blkOk_by (N := N__law_can) (sc := defScope s__law_can) (by decide +kernel)) (fun _ _ _ _ _ => (pg_tup rfl (pgs_cons (pg_name (i := 2) sc__law_can.nd rfl (.inl rfl)) (pgs_cons (pg_name (i := 3) sc__law_can.nd rfl (.inl rfl)) pgs_nil)))) (fun _ _ _ _ _ => pts_nil) (fun _ _ _ _ _ => (pe_callO O__law_over hr (by rfl) pass0 (pa_cons (pv 2) (pa_cons (pv 3) pa_nil))))) pa_nil)))))), ?_⟩
  have hl : t.length ≤ 30 := p0.len
  have hz1 : ∀ p ∈ t.zip o, isRow p.1 (w : Int) = true := fun p h => p0.row _ (List.of_mem_zip h).1
  have hz2 : ∀ p ∈ t.zip o, isRow p.2 (w : Int) = true := fun p h => p1.row _ (List.of_mem_zip h).2
  exact s_ret2 (Ev.is (ev_andV (ev_eqI (ev_lenQ (q_old (ev_var rfl) (by walk_at "fact"))) (ev_lenQ (q_old (ev_var rfl) (by walk_at "fact")))) (fun hb48 => (ev_allQ (q_new (el_lc1 (i_zip (qa_old (ev_var rfl) (by walk_at "fact") trivial) (qa_old (ev_var rfl) (by walk_at "fact") trivial)) (by walk_at "len") (fun _ => wipe_two _ (by decide) _ _) (fun x47 hx47 H147 e147 => (ev__law_over (ag_V (ev_var rfl) (ag_V (ev_var rfl) ag_nil)) (by walk_at "side") (by walk_at "side") (by walk_at "side")))))))) rfl) k
def R__law_reads (K : PySem.W.Frag) : List V → Hp → V → Prop := fun vs H z => ∃ (rd : Dic) (w : Nat) (t : List Row), AllP [isD (DS rd), isL K (Txts t)] vs H ∧ ((RdOk rd w) ∧ (t.length ≤ 30) ∧ True) ∧ z = VS (textOf rd t)
def sp__law_reads (K : PySem.W.Frag) : Sp := spV  2 (R__law_reads K)
theorem ev__law_reads {K : PySem.W.Frag} {σ : L2.St} {H : Hp} {tr : TA} {E : XK} {rd : Dic} {w : Nat} {t : List Row} (h : EvAG tr σ H [isD (DS rd), isL K (Txts t)]) (p0 : RdOk rd w) (p1 : t.length ≤ 30) : Ev (tCallO (sp__law_reads K) E tr) σ H (VS (textOf rd t)) := ev_callG h rfl fun vs H1 e hp => ⟨rd, w, t, hp, ⟨p0, p1, trivial⟩, rfl⟩
theorem ok__law_reads (T : Txt K mg) : OkF P wW K mg base CX0 "_law_reads" 2 (sp__law_reads K) := by
  have O__law_means : OkF P wW K mg base CX0 "_law_means" 1 (sp__law_means K) := ok__law_means T
  refine OkF.of T.d__law_reads sc__law_reads (fun vs H Q E h => h.1) (fun f cdv A outer s H vs Q E hr h => ?_)
  obtain ⟨-, z, H0, e0, ⟨rd, w, t, ⟨v0, r0, rfl, ⟨a0, rfl, q0⟩, ⟨v1, r1, rfl, ⟨a1, rfl, q1⟩, rfl⟩⟩, ⟨p0, p1, -⟩, rfl⟩, k⟩ := h
  have h0 := exh e0 q0
  clear q0
  have h1 := exl e0 q1
  clear q1
  clear e0 H0
  have hu := hu_of hr
  refine ⟨_, (pss_one (ps_ret (kpe_joinQ (K := K) pe_str (pe_lc (own := [("_law_row", 2)]) (g := gName 2) rfl sc__law_reads.nd (kpi_list (K := K) (pv 1)) (blkOk_by (N := N__law_reads) (sc := defScope s__law_reads) (by decide +kernel)) (fun _ _ _ _ _ => (pg_name (i := 2) sc__law_reads.nd rfl (.inl rfl))) (fun _ _ _ _ _ => pts_nil) (fun _ _ _ _ _ => (pe_callO O__law_means hr (by rfl) pass0 (pa_cons (pv 0) (pa_cons (pv 2) pa_nil)))))))), ?_⟩
  have hz : (t.map (mean rd)).flatten.length ≤ 100000 := by have := textOf_len p0 t; omega
  exact s_ret2 (Ev.is (ev_joinQ (ev_cS lit_nil) (q_new (el_lc1 (i_list (qa_old (ev_var rfl) (by walk_at "fact") trivial)) (by walk_at "len") (fun _ => wipe_one _ _ _) (fun x49 hx49 H149 e149 => (ev__law_means (ag_D (g_Dold (ev_var rfl) (by walk_at "facth")) (ag_V (ev_var rfl) ag_nil)))))) (by walk_at "len")) rfl) k
def R__law_written (K : PySem.W.Frag) (mg : Str → Option Value) : (Addr → Prop) → List V → Hp → Dt → Pat → Dt → Pat → Dt → Prop := fun F vs H d0 q0 d1 q1 d => ∃ (rd : Dic) (w : Nat) (t : List Row) (x : Row) (n : Int), AllP [isR F (uD rd), isR F (uL uS t), isR F (uS x)] vs H ∧ ((RdOk rd w) ∧ (TpOk t w) ∧ (TxOk x) ∧ True) ∧ d0 = uPunch mg w rd t n ∧ q0 = pP ∧ d1 = uPunch mg w rd (wrT rd t x) (n + (wrC rd t x).getD 0) ∧ q1 = pP ∧ d = (uL uS (wrT rd t x))
def sp__law_written (K : PySem.W.Frag) (mg : Str → Option Value) : Sp := spX 3 (R__law_written K mg)
theorem xv__law_written {K : PySem.W.Frag} {mg : Str → Option Value} {F : Addr → Prop} {Z : Hp → (Addr → Prop) → Prop} {ρ : List Sl} {σ : L2.St} {H : Hp} {M : Addr → Prop} {i : Nat} {tr : TA} {E : XK} {rd : Dic} {w : Nat} {t : List Row} {x : Row} {n : Int} (ok : Ok F Z ρ σ H M) (hi : ρ[i]? = some (.own (uPunch mg w rd t n) (pP))) (h : EvAG tr σ H [isR M (uD rd), isR M (uL uS t), isR M (uS x)]) (p0 : RdOk rd w) (p1 : TpOk t w) (p2 : TxOk x) : XV (tCallO (sp__law_written K mg) E (tCons (tVar i) tr)) F Z (ρ.set i (.own (uPunch mg w rd (wrT rd t x) (n + (wrC rd t x).getD 0)) (pP))) σ H (uL uS (wrT rd t x)) := x_callX ok hi h rfl fun vs H1 hp => ⟨rd, w, t, x, n, hp, ⟨p0, p1, p2, trivial⟩, rfl, rfl, rfl, rfl, rfl⟩
theorem ok__law_written (T : Txt K mg) : OkF P wW K mg base CX0 "_law_written" 7 (sp__law_written K mg) := by
  have S_standing := hsel_standing (P := P) (wW := wW) (base := base) T
  have O__law_fewest : OkF P wW K mg base CX0 "_law_fewest" 3 (sp__law_fewest K mg) := ok__law_fewest T
  have S_write := hsel_write (P := P) (wW := wW) (base := base) T
  have O__law_can : OkF P wW K mg base CX0 "_law_can" 2 (sp__law_can K) := ok__law_can T
  have O__law_reads : OkF P wW K mg base CX0 "_law_reads" 2 (sp__law_reads K) := ok__law_reads T
  have O__law_holes : OkF P wW K mg base CX0 "_law_holes" 1 (sp__law_holes K) := ok__law_holes T
  refine OkF.of T.d__law_written sc__law_written (fun vs H Q E h => h.1) (fun f cdv A outer s Hb vs Q E hr h => ?_)
  obtain ⟨-, F, x_, r_, bs0, d0, p0_, d1, p1_, d_, rfl, nb, nf, al, w0, ⟨rd, w, t, x, n, ⟨v1, r1, rfl, q1, ⟨v2, r2, rfl, q2, ⟨v3, r3, rfl, q3, rfl⟩⟩⟩, ⟨p0, p1, p2, -⟩, rfl, rfl, rfl, rfl, rfl⟩, k⟩ := h
  have ok : Ok F (fun H' O' => Lt Hb (· ∈ bs0) H' O') [.own (uPunch mg w rd t n) (pP), st (uD rd), st (uL uS t), st (uS x), .una, .una, .una] _ Hb (Mb F bs0) := Ok.startX al nf nb w0.al ⟨_, _, bs0, [], rfl, (List.append_nil _).symm, w0, ⟨_, _, [], [], rfl, rfl, ow_sh.mpr ⟨rfl, q1⟩, ⟨_, _, [], [], rfl, rfl, ow_sh.mpr ⟨rfl, q2⟩, ⟨_, _, [], [], rfl, rfl, ow_sh.mpr ⟨rfl, q3⟩, ⟨_, rfl, ⟨_, rfl, ⟨_, rfl, ⟨rfl, rfl⟩⟩⟩⟩⟩⟩⟩⟩
  have zz : ∀ (H' : Hp) (O' : Addr → Prop), Lt Hb (· ∈ bs0) H' O' → Lt Hb (· ∈ bs0) H' O' := fun _ _ z => z
  have hu := hu_of hr
  refine ⟨_, (pss_cons (ps_par (i := 4) (j := 6) rfl sc__law_written.nd rfl rfl (by decide) rfl rfl (pa_cons (pe_callO O__law_fewest hr (by rfl) pass0 (pa_cons (pv 1) (pa_cons (pv 2) (pa_cons (pv 3) pa_nil)))) (pa_cons (pe_methU S_write hr pass0 (pv 0) (pa_cons (pv 3) pa_nil)) pa_nil)) (by rfl))
 (pss_cons (ps_set (i := 5) sc__law_written.nd rfl (.inl rfl) (pe_methU0 S_standing hr pass0 (pv 0)))
 (pss_cons (ps_if (pt_cmpR op_isNo (pv 4) pe_non (nomark _))
  (pss_one (ps_ret (pe_ifExp (PW.pt (pw_and (pt_cmpR op_isNo (pv 6) pe_non (nomark _)) (pw_and1 (pt_cmpR (kop_eqD (K := K) hr.units) (pv 5) (pv 2) (nomark _))))) (pv 5) pe_non)))
  pss_nil)
 (pss_cons (ps_if (PW.pt (pw_or (pt_val (pe_callB (kcall_isi (K := K)) (by rfl) T.z_isinstance (by decide +kernel) (pa_cons (pv 6) (pa_cons (pe_bltn (v := .ty "bool") (by rfl) T.z_bool (by decide +kernel) rfl) pa_nil)))) (pw_or (pt_cmpR op_ne (pv 6) (pv 4) (nomark _)) (pw_or (pt_not (pt_val (pe_callO O__law_can hr (by rfl) pass0 (pa_cons (pv 2) (pa_cons (pv 5) pa_nil))))) (pw_or1 (pt_cmpR op_ne (pe_callO O__law_reads hr (by rfl) pass0 (pa_cons (pv 1) (pa_cons (pv 5) pa_nil))) (pv 3) (nomark _)))))))
  (pss_one (ps_ret pe_non))
  pss_nil)
 (pss_one (ps_ret (pe_ifExp (pt_cmpR op_eq (pe_op op_sub (pe_callO O__law_holes hr (by rfl) pass0 (pa_cons (pv 5) pa_nil)) (pe_callO O__law_holes hr (by rfl) pass0 (pa_cons (pv 2) pa_nil))) (pv 4) (nomark _)) (pv 5) pe_non))))))), ?_⟩
  have hw := p0.w4
  have htl := p1.len
  obtain ⟨q1, q2⟩ := wrT_tp (x := x) p0 p1
  refine b_parZ (v := vO (prc rd t x)) ok (ev__law_fewest (ag_R (ok.ro rfl) (ag_R (ok.ro rfl) (ag_R (r_ev (ok.ev rfl)) ag_nil))) p0 p1 p2.len) (fun M H ok => xv_Punch_write ok rfl (by walk_at "sel") (ag_R (r_ev (ok.ev rfl)) ag_nil) p0 p1 p2) fun v M H ok => ?_
  rw [wrC_prc p0 p1] at ok
  rw [wrC_prc p0 p1] at k
  refine b_asgS (d := uL uS (wrT rd t x)) (p := .ow .sh) ok (eo_Punch_standing (by walk_at "sel") (ok.ro (i := 0) rfl) ag_nil) fun v M H ok => ?_
  obtain ⟨M, ok⟩ := ok.share 5 rfl
  cases hv : prc rd t x with
  | none =>
    obtain ⟨e1, -⟩ := wr_none11 hv
    rw [e1, hv] at ok
    rw [e1, hv] at k
    refine b_whenE (b := true) ok (et_test (ev_isNoO (o := none) (ok.ev rfl) ev_c)) (fun _ M H ok => ?_) (fun e => nomatch e)
    exact c_retY (i := 0) (D := { nx := _, rt := Q }) ok (EvR.is (r_if (d2 := uN) (et_and (et_test (ev_isNoO (o := none) (ok.ev rfl) ev_c)) (fun hb1 => (et_test (ev_eqLS (ok.q (i := 5) rfl) (ok.q (i := 2) rfl) p1.small p1.small)))) (fun hb2 => (ok.r (i := 5) rfl)) (fun hb2 => (r_ev ev_c))) (by simp)) rfl rfl k zz
  | some c =>
    have b := prc_get p0 p1 hv
    obtain ⟨e1, -⟩ := wr_some11 p0 p1 hv
    have htp : TpOk (tpL rd t x) w := by rw [← e1]; exact q1
    have hpl := htp.len
    rw [e1, hv] at ok
    rw [e1, hv] at k
    refine b_skipE ok (EvT.is (et_test (ev_isNoO (o := some c) (ok.ev rfl) ev_c)) rfl) fun M H ok => ?_
    refine b_skipE ok (EvT.is (et_or (et_B (ev_isiI (b := false) (i := c) (ok.ev rfl) ev_c (by decide +kernel))) (fun hb5 => (et_or (et_test (ev_neO (a := some c) (b := some c) (ok.ev rfl) (ok.ev rfl))) (fun hb4 => (et_or (et_not (et_B (ev__law_can (ag_L (ok.q (i := 2) rfl) (ag_L (ok.q (i := 5) rfl) ag_nil)) p1 htp hw))) (fun hb3 => (et_test (ev_neS (ev__law_reads (ag_D (ok.dd rfl) (ag_L (ok.q (i := 5) rfl) ag_nil)) p0 hpl) (ok.ev rfl))))))))) (by rw [b.ov, b.tx]; simp)) fun M H ok => ?_
    exact c_retY (i := 0) (D := { nx := _, rt := Q }) ok (EvR.is (r_if (d2 := uN) (et_test (ev_eqI (ev_sub (ev__law_holes (ag_L (ok.q (i := 5) rfl) ag_nil) htp hw) (ev__law_holes (ag_L (ok.q (i := 2) rfl) ag_nil) p1 hw)) (ok.ev rfl))) (fun hb6 => (ok.r (i := 5) rfl)) (fun hb6 => (r_ev ev_c))) (by rw [b.cost]; simp)) rfl rfl k zz
def R_is_whole (K : PySem.W.Frag) : List V → Hp → V → Prop := fun vs H z => ∃ (n : Int), AllP [isV (.int n)] vs H ∧ (True) ∧ z = .bl true
def sp_is_whole (K : PySem.W.Frag) : Sp := spV  1 (R_is_whole K)
theorem ev_is_whole {K : PySem.W.Frag} {σ : L2.St} {H : Hp} {tr : TA} {E : XK} {n : Int} (h : EvAG tr σ H [isV (.int n)])  : Ev (tCallO (sp_is_whole K) E tr) σ H (.bl true) := ev_callG h rfl fun vs H1 e hp => ⟨n, hp, trivial, rfl⟩
theorem ok_is_whole (T : Txt K mg) : OkF P wW K mg base CX0 "is_whole" 1 (sp_is_whole K) := by
  refine OkF.of T.d_is_whole sc_is_whole (fun vs H Q E h => h.1) (fun f cdv A outer s H vs Q E hr h => ?_)
  obtain ⟨-, z, H0, e0, ⟨n, ⟨v0, r0, rfl, rfl, rfl⟩, -, rfl⟩, k⟩ := h
  clear e0 H0
  have hu := hu_of hr
  refine ⟨_, (pss_one (ps_ret (pe_and (pe_callB (kcall_isi (K := K)) (by rfl) T.z_isinstance (by decide +kernel) (pa_cons (pv 0) (pa_cons (pe_bltn (v := .ty "int") (by rfl) T.z_int (by decide +kernel) rfl) pa_nil))) (pe_one (pe_not (pe_callB (kcall_isi (K := K)) (by rfl) T.z_isinstance (by decide +kernel) (pa_cons (pv 0) (pa_cons (pe_bltn (v := .ty "bool") (by rfl) T.z_bool (by decide +kernel) rfl) pa_nil)))))))), ?_⟩
  exact s_ret2 (Ev.is (ev_andV (ev_isiI (b := true) (ev_var rfl) ev_c (by decide +kernel)) (fun hb56 => (ev_notV (ev_isiI (b := false) (ev_var rfl) ev_c (by decide +kernel))))) rfl) k
def R_Punch_feed (K : PySem.W.Frag) (mg : Str → Option Value) : (Addr → Prop) → List V → Hp → Dt → Pat → Dt → Pat → Dt → Prop := fun F vs H d0 q0 d1 q1 d => ∃ (rd : Dic) (w : Nat) (t : List Row) (n many : Int), AllP [isR F (uI many)] vs H ∧ ((w ≤ 4) ∧ (0 ≤ many) ∧ ((t.length : Int) + many ≤ 30) ∧ True) ∧ d0 = uPunch mg w rd t n ∧ q0 = pP ∧ d1 = uPunch mg w rd (t ++ List.replicate many.toNat (List.replicate w 46)) n ∧ q1 = pP ∧ d = (Dt.sc (.non))
def sp_Punch_feed (K : PySem.W.Frag) (mg : Str → Option Value) : Sp := spX 1 (R_Punch_feed K mg)
theorem xv_Punch_feed {K : PySem.W.Frag} {mg : Str → Option Value} {F : Addr → Prop} {Z : Hp → (Addr → Prop) → Prop} {ρ : List Sl} {σ : L2.St} {H : Hp} {M : Addr → Prop} {i : Nat} {tr : TA} {E : XK} {rd : Dic} {w : Nat} {t : List Row} {n many : Int} (ok : Ok F Z ρ σ H M) (hi : ρ[i]? = some (.own (uPunch mg w rd t n) (pP))) {sel : Addr → Sp → Prop} (hsel_ : sel (cA mg "Punch") (sp_Punch_feed K mg)) (h : EvAG tr σ H [isR M (uI many)]) (p0 : w ≤ 4) (p1 : 0 ≤ many) (p2 : (t.length : Int) + many ≤ 30) : XV (tMethU sel "feed" E (tVar i) tr) F Z (ρ.set i (.own (uPunch mg w rd (t ++ List.replicate many.toNat (List.replicate w 46)) n) (pP))) σ H (Dt.sc (.non)) := x_meth ok hi hsel_ (by decide +kernel) h rfl fun vs H1 hp => ⟨rd, w, t, n, many, hp, ⟨p0, p1, p2, trivial⟩, rfl, rfl, rfl, rfl, rfl⟩
theorem ok_Punch_feed (T : Txt K mg) : OkMD P wW K mg base CX0 (cA mg "Punch") "feed" 2 (sp_Punch_feed K mg) [.int 1] := by
  have O_is_whole : OkF P wW K mg base CX0 "is_whole" 1 (sp_is_whole K) := ok_is_whole T
  refine OkMD.of T.m_Punch_feed sc_Punch_feed (fun vs H Q E h => h.1) (fun f cdv A outer s Hb vs Q E hr h => ?_)
  obtain ⟨-, F, x_, r_, bs0, d0, p0_, d1, p1_, d_, rfl, nb, nf, al, w0, ⟨rd, w, t, n, many, ⟨v1, r1, rfl, q1, rfl⟩, ⟨p0, p1, p2, -⟩, rfl, rfl, rfl, rfl, rfl⟩, k⟩ := h
  have ok : Ok F (fun H' O' => Lt Hb (· ∈ bs0) H' O') [.own (uPunch mg w rd t n) (pP), st (uI many)] _ Hb (Mb F bs0) := Ok.startX al nf nb w0.al ⟨_, _, bs0, [], rfl, (List.append_nil _).symm, w0, ⟨_, _, [], [], rfl, rfl, ow_sh.mpr ⟨rfl, q1⟩, ⟨rfl, rfl⟩⟩⟩
  have zz : ∀ (H' : Hp) (O' : Addr → Prop), Lt Hb (· ∈ bs0) H' O' → Lt Hb (· ∈ bs0) H' O' := fun _ _ z => z
  have hu := hu_of hr
  refine ⟨_, (pss_cons (ps_if (PW.pt (pw_or (pt_not (pt_val (pe_callO O_is_whole hr (by rfl) pass0 (pa_cons (pv 1) pa_nil)))) (pw_or1 (pt_cmpR op_lt (pv 1) pe_int (nomark _)))))
  (pss_one ps_never)
  pss_nil)
 (pss_cons (ps_if (pt_cmpR op_gt (pe_op op_add (pe_callB (kcb_lenQ (K := K)) (by rfl) T.z_len (by decide +kernel) (pa_cons (pe_fld (pv 0) rfl) pa_nil)) (pv 1)) (pe_gi (by rfl) T.c_MOST) (nomark _))
  (pss_one ps_never)
  pss_nil)
 (pss_one (ps_expr (pe_bm PySem.F.plainAttrs_list PySem.F.slot_list_extend PySem.F.type_list_extend mt_extend (pe_fld (pv 0) rfl) (pa_cons (pe_op op_rep (pe_lst (pa_cons (pe_op op_mulS (pe_gs (by rfl) T.c_BLANK) (pe_fld (pv 0) rfl)) pa_nil)) (pv 1)) pa_nil)))))), ?_⟩
  refine b_skipE ok (EvT.is (et_or (et_not (et_B (ev_is_whole (ag_V (ok.ev rfl) ag_nil)))) (fun hb1 => (et_test (ev_lt (ok.ev rfl) ev_c)))) (by simp; omega)) fun M H ok => ?_
  refine b_skipE ok (EvT.is (et_test (ev_gt (ev_add (ev_lenQ (l := t) (q_r (g := VS) (EvR.is (r_fld (ns := ["width", "reader", "rows", "made"]) uN (ok.nn rfl) T.k_Punch.cl T.f_Punch_rows 2 rfl (by decide +kernel) rfl) (by rfl)))) (ok.ev rfl)) ev_c)) (by simp; omega)) fun M H ok => ?_
  refine c_extS (g := VS) (xs := t) (zs := List.replicate many.toNat (List.replicate w 46)) ok (i := 0) rfl (Rch.fld Rch.var T.k_Punch.cl T.f_Punch_rows 2 rfl (by decide +kernel) rfl rfl) (EvH.is (h_new (el_repH (h_new (el_lst (emS_cons (ev_mulS (ev_cS lit_dot) (ev_r (EvR.is (r_fld (ns := ["width", "reader", "rows", "made"]) uN (ok.nn rfl) T.k_Punch.cl T.f_Punch_width 0 rfl (by decide +kernel) rfl) (by rfl))) (by omega) (by omega) (by decide)) emS_nil) (by simp))) (ok.ev rfl) (by omega) (by omega) (by simp; omega))) (by
    rw [show (List.replicate (w : Int).toNat [46]).flatten = List.replicate w 46 by simp]
    exact congrArg (List.map VS) (by simp))) (by rw [List.length_replicate]; omega) fun M H ok => ?_
  exact c_endY (i := 0) ok rfl rfl (by unfold Rp; rfl) k zz
def sel_feed (K : PySem.W.Frag) (mg : Str → Option Value) : Addr → Sp → Prop := fun C sp => (C = cA mg "Punch" ∧ sp = sp_Punch_feed K mg)
theorem hsel_feed (T : Txt K mg) : ∀ C sp, sel_feed K mg C sp → Cls K C ∧ OkM P wW K mg base CX0 C "feed" 2 sp := by
  intro C sp h
  obtain ⟨rfl, rfl⟩ := h
  · exact ⟨T.k_Punch.cl, (ok_Punch_feed T).full.mono (by decide)⟩
def R_Punch_check_place (K : PySem.W.Frag) (mg : Str → Option Value) : (Addr → Prop) → List V → Hp → Dt → Pat → Prop := fun F vs H d p => ∃ (rd : Dic) (w : Nat) (t : List Row) (n pc : Int), AllP [isR F (uPunch mg w rd t n), isR F (uI pc)] vs H ∧ ((0 ≤ pc) ∧ (pc < (t.length : Int)) ∧ True) ∧ d = (Dt.sc (.non)) ∧ p = .sh
def sp_Punch_check_place (K : PySem.W.Frag) (mg : Str → Option Value) : Sp := spR 2 (R_Punch_check_place K mg)
theorem ev_Punch_check_place {K : PySem.W.Frag} {mg : Str → Option Value} {σ : L2.St} {H : Hp} {tr : TA} {E : XK} {rd : Dic} {w : Nat} {t : List Row} {n pc : Int} {sel : Addr → Sp → Prop} (hsel_ : sel (cA mg "Punch") (sp_Punch_check_place K mg)) {ta : TE} (h0 : EvR Mo ta σ H (uPunch mg w rd t n)) (h : EvAG tr σ H [isR Mo (uI pc)]) (p0 : 0 ≤ pc) (p1 : pc < (t.length : Int)) : Ev (tMethU sel "check_place" E ta tr) σ H (.non) := ev_p (M := Mo) (p := .sh) (p_methR (Mo_al H) h0 h hsel_ (by decide +kernel) rfl fun vs H1 hp => ⟨rd, w, t, n, pc, hp, ⟨p0, p1, trivial⟩, rfl, rfl⟩)
theorem ok_Punch_check_place (T : Txt K mg) : OkM P wW K mg base CX0 (cA mg "Punch") "check_place" 2 (sp_Punch_check_place K mg) := by
  have O_is_whole : OkF P wW K mg base CX0 "is_whole" 1 (sp_is_whole K) := ok_is_whole T
  refine OkM.of T.m_Punch_check_place sc_Punch_check_place (fun vs H Q E h => h.1) (fun f cdv A outer s Hb vs Q E hr h => ?_)
  obtain ⟨-, F, d0, p0_, al, ⟨rd, w, t, n, pc, ⟨v0, r0, rfl, q0, ⟨v1, r1, rfl, q1, rfl⟩⟩, ⟨p0, p1, -⟩, rfl, rfl⟩, k⟩ := h
  have ok : Ok F (fun H' O' => Lt Hb Mo H' O') [st (uPunch mg w rd t n), st (uI pc)] _ Hb F := Ok.start al ⟨_, _, [], [], rfl, rfl, ow_sh.mpr ⟨rfl, q0⟩, ⟨_, _, [], [], rfl, rfl, ow_sh.mpr ⟨rfl, q1⟩, ⟨rfl, rfl⟩⟩⟩
  have zz : ∀ (H' : Hp) (O' : Addr → Prop), Lt Hb Mo H' O' → Lt Hb Mo H' O' := fun _ _ z => z
  have hu := hu_of hr
  refine ⟨_, (pss_one (ps_if (PW.pt (pw_or (pt_not (pt_val (pe_callO O_is_whole hr (by rfl) pass0 (pa_cons (pv 1) pa_nil)))) (pw_or1 (pt_not (pt_chain op_le op_lt pe_int (pv 1) (pe_callB (kcb_lenQ (K := K)) (by rfl) T.z_len (by decide +kernel) (pa_cons (pe_fld (pv 0) rfl) pa_nil)))))))
  (pss_one ps_never)
  pss_nil)), ?_⟩
  refine c_skip ok (EvT.is (et_or (et_not (et_B (ev_is_whole (ag_V (ok.ev rfl) ag_nil)))) (fun hb58 => (et_not (et_test (ev_chain ev_c (ok.ev rfl) (ev_lenQ (q_r (EvR.is (r_fld (ns := ["width", "reader", "rows", "made"]) uN (ok.nx rfl rfl) T.k_Punch.cl T.f_Punch_rows 2 rfl (by decide +kernel) rfl) (by rfl))))))))) (by simp; omega)) fun M σ H ok => ?_
  exact c_end ok k zz
def sel_check_place (K : PySem.W.Frag) (mg : Str → Option Value) : Addr → Sp → Prop := fun C sp => (C = cA mg "Punch" ∧ sp = sp_Punch_check_place K mg)
theorem hsel_check_place (T : Txt K mg) : ∀ C sp, sel_check_place K mg C sp → Cls K C ∧ OkM P wW K mg base CX0 C "check_place" 2 sp := by
  intro C sp h
  obtain ⟨rfl, rfl⟩ := h
  · exact ⟨T.k_Punch.cl, (ok_Punch_check_place T).mono (by decide)⟩
def R_Punch_strike (K : PySem.W.Frag) (mg : Str → Option Value) : (Addr → Prop) → List V → Hp → Dt → Pat → Dt → Pat → Dt → Prop := fun F vs H d0 q0 d1 q1 d => ∃ (rd : Dic) (w : Nat) (t : List Row) (n pc : Int) (r : Row), AllP [isR F (uI pc), isR F (uS r)] vs H ∧ ((t.length ≤ 1000) ∧ (0 ≤ pc) ∧ (pc < (t.length : Int)) ∧ (r.length ≤ 4) ∧ (isRow r (w : Int) = true) ∧ (goes (t.getD pc.toNat []) r = true) ∧ ((t.getD pc.toNat []).length ≤ 4) ∧ True) ∧ d0 = uPunch mg w rd t n ∧ q0 = pP ∧ d1 = uPunch mg w rd (strT t pc r) (n + takenL t (strT t pc r)) ∧ q1 = pP ∧ d = (Dt.sc (.non))
def sp_Punch_strike (K : PySem.W.Frag) (mg : Str → Option Value) : Sp := spX 2 (R_Punch_strike K mg)
theorem xv_Punch_strike {K : PySem.W.Frag} {mg : Str → Option Value} {F : Addr → Prop} {Z : Hp → (Addr → Prop) → Prop} {ρ : List Sl} {σ : L2.St} {H : Hp} {M : Addr → Prop} {i : Nat} {tr : TA} {E : XK} {rd : Dic} {w : Nat} {t : List Row} {n pc : Int} {r : Row} (ok : Ok F Z ρ σ H M) (hi : ρ[i]? = some (.own (uPunch mg w rd t n) (pP))) {sel : Addr → Sp → Prop} (hsel_ : sel (cA mg "Punch") (sp_Punch_strike K mg)) (h : EvAG tr σ H [isR M (uI pc), isR M (uS r)]) (p0 : t.length ≤ 1000) (p1 : 0 ≤ pc) (p2 : pc < (t.length : Int)) (p3 : r.length ≤ 4) (p4 : isRow r (w : Int) = true) (p5 : goes (t.getD pc.toNat []) r = true) (p6 : (t.getD pc.toNat []).length ≤ 4) : XV (tMethU sel "strike" E (tVar i) tr) F Z (ρ.set i (.own (uPunch mg w rd (strT t pc r) (n + takenL t (strT t pc r))) (pP))) σ H (Dt.sc (.non)) := x_meth ok hi hsel_ (by decide +kernel) h rfl fun vs H1 hp => ⟨rd, w, t, n, pc, r, hp, ⟨p0, p1, p2, p3, p4, p5, p6, trivial⟩, rfl, rfl, rfl, rfl, rfl⟩
theorem ok_Punch_strike (T : Txt K mg) : OkM P wW K mg base CX0 (cA mg "Punch") "strike" 4 (sp_Punch_strike K mg) := by
  have S_check_place := hsel_check_place (P := P) (wW := wW) (base := base) T
  have S_become := hsel_become (P := P) (wW := wW) (base := base) T
  have O_is_row : OkF P wW K mg base CX0 "is_row" 1 (sp_is_row K) := ok_is_row T
  have O_goes_over : OkF P wW K mg base CX0 "goes_over" 1 (sp_goes_over K) := ok_goes_over T
  refine OkM.of T.m_Punch_strike sc_Punch_strike (fun vs H Q E h => h.1) (fun f cdv A outer s Hb vs Q E hr h => ?_)
  obtain ⟨-, F, x_, r_, bs0, d0, p0_, d1, p1_, d_, rfl, nb, nf, al, w0, ⟨rd, w, t, n, pc, r, ⟨v1, r1, rfl, q1, ⟨v2, r2, rfl, q2, rfl⟩⟩, ⟨p0, p1, p2, p3, p4, p5, p6, -⟩, rfl, rfl, rfl, rfl, rfl⟩, k⟩ := h
  have ok : Ok F (fun H' O' => Lt Hb (· ∈ bs0) H' O') [.own (uPunch mg w rd t n) (pP), st (uI pc), st (uS r)] _ Hb (Mb F bs0) := Ok.startX al nf nb w0.al ⟨_, _, bs0, [], rfl, (List.append_nil _).symm, w0, ⟨_, _, [], [], rfl, rfl, ow_sh.mpr ⟨rfl, q1⟩, ⟨_, _, [], [], rfl, rfl, ow_sh.mpr ⟨rfl, q2⟩, ⟨rfl, rfl⟩⟩⟩⟩
  have zz : ∀ (H' : Hp) (O' : Addr → Prop), Lt Hb (· ∈ bs0) H' O' → Lt Hb (· ∈ bs0) H' O' := fun _ _ z => z
  have hu := hu_of hr
  refine ⟨_, (pss_cons (ps_expr (pe_methU S_check_place hr pass0 (pv 0) (pa_cons (pv 1) pa_nil)))
 (pss_cons (ps_if (pt_not (pt_val (pe_callO O_is_row hr (by rfl) pass0 (pa_cons (pv 2) (pa_cons (pe_fld (pv 0) rfl) pa_nil)))))
  (pss_one ps_never)
  pss_nil)
 (pss_cons (ps_if (pt_not (pt_val (pe_callO O_goes_over hr (by rfl) pass0 (pa_cons (pe_ix (kix_list (K := K)) (pe_fld (pv 0) rfl) (pv 1) (fun _ _ => rfl)) (pa_cons (pv 2) pa_nil)))))
  (pss_one ps_never)
  pss_nil)
 (pss_one (ps_expr (pe_methU S_become hr pass0 (pv 0) (pa_cons (pe_op op_cat (pe_op op_cat (pe_slice (ksl_list (K := K)) (pe_fld (pv 0) rfl) po_none (po_some (pv 1))) (pe_lst (pa_cons (pv 2) pa_nil))) (pe_slice (ksl_list (K := K)) (pe_fld (pv 0) rfl) (po_some (pe_op op_add (pv 1) pe_int)) po_none)) pa_nil))))))), ?_⟩
  have hc1 : (cutG t none (some pc)).length ≤ 1000 := by rw [cutG_to _ p1, List.length_take]; omega
  have hc2 : (cutG t (some (pc + 1)) none).length ≤ 1000 := by rw [cutG_from _ (by omega), List.length_drop]; omega
  refine b_dropS ok (p_ev (ev_Punch_check_place (by walk_at "sel") (ok.ro rfl) (ag_R (r_ev (ok.ev rfl)) ag_nil) p1 p2)) fun M H ok => ?_
  refine b_skipE ok (EvT.is (et_not (et_B (ev_is_row (ag_V (ok.ev rfl) (ag_V (ev_r (EvR.is (r_fld (ns := ["width", "reader", "rows", "made"]) uN (ok.nn rfl) T.k_Punch.cl T.f_Punch_width 0 rfl (by decide +kernel) rfl) (by rfl))) ag_nil)) (by omega)))) (by rw [p4]; rfl)) fun M H ok => ?_
  refine b_skipE ok (EvT.is (et_not (et_B (ev_goes_over (ag_V (ev_ixQ ([] : Row) (q_r (EvR.is (r_fld (ns := ["width", "reader", "rows", "made"]) uN (ok.nn rfl) T.k_Punch.cl T.f_Punch_rows 2 rfl (by decide +kernel) rfl) (by rfl))) (ok.ev rfl) p1 p2) (ag_V (ok.ev rfl) ag_nil)) (by omega)))) (by rw [p5]; rfl)) fun M H ok => ?_
  refine c_dropY (xv_Punch_become (o := strT t pc r) ok rfl (by walk_at "sel") (ag_R (r_p ok.al (p_cat (f := uS) (xs := cutG t none (some pc) ++ [r]) (ys := cutG t (some (pc + 1)) none) (n_p ok.al (p_cat (f := uS) (xs := cutG t none (some pc)) (ys := [r]) (n_p ok.al (p_scal (p_sl (f := uS) (xs := t) (r_n (EvR.is (r_fld (ns := ["width", "reader", "rows", "made"]) uN (ok.nn rfl) T.k_Punch.cl T.f_Punch_rows 2 rfl (by decide +kernel) rfl) (by rfl))) eo_none (eo_some (ok.ev rfl))) scal_LS)) (n_p ok.al (p_L (el_lst (emS_cons (ok.ev rfl) emS_nil) (by simp)))) (by simp; omega))) (n_p ok.al (p_scal (p_sl (f := uS) (xs := t) (r_n (EvR.is (r_fld (ns := ["width", "reader", "rows", "made"]) uN (ok.nn rfl) T.k_Punch.cl T.f_Punch_rows 2 rfl (by decide +kernel) rfl) (by rfl))) (eo_some (ev_add (ok.ev rfl) ev_c)) eo_none) scal_LS)) (by simp; omega))) ag_nil) (by omega)) fun M H ok => ?_
  exact c_endY (i := 0) ok rfl rfl (by unfold Rp; rfl) k zz
def sel_strike (K : PySem.W.Frag) (mg : Str → Option Value) : Addr → Sp → Prop := fun C sp => (C = cA mg "Punch" ∧ sp = sp_Punch_strike K mg)
theorem hsel_strike (T : Txt K mg) : ∀ C sp, sel_strike K mg C sp → Cls K C ∧ OkM P wW K mg base CX0 C "strike" 4 sp := by
  intro C sp h
  obtain ⟨rfl, rfl⟩ := h
  · exact ⟨T.k_Punch.cl, (ok_Punch_strike T).mono (by decide)⟩
def R_Punch_rub (K : PySem.W.Frag) (mg : Str → Option Value) : (Addr → Prop) → List V → Hp → Dt → Pat → Dt → Pat → Dt → Prop := fun F vs H d0 q0 d1 q1 d => ∃ (rd : Dic) (w : Nat) (t : List Row) (n pc : Int), AllP [isR F (uI pc)] vs H ∧ ((TpOk t w) ∧ (w ≤ 4) ∧ (0 ≤ pc) ∧ (pc < (t.length : Int)) ∧ True) ∧ d0 = uPunch mg w rd t n ∧ q0 = pP ∧ d1 = uPunch mg w rd (strT t pc (List.replicate w 111)) (n + takenL t (strT t pc (List.replicate w 111))) ∧ q1 = pP ∧ d = (Dt.sc (.non))
def sp_Punch_rub (K : PySem.W.Frag) (mg : Str → Option Value) : Sp := spX 1 (R_Punch_rub K mg)
theorem xv_Punch_rub {K : PySem.W.Frag} {mg : Str → Option Value} {F : Addr → Prop} {Z : Hp → (Addr → Prop) → Prop} {ρ : List Sl} {σ : L2.St} {H : Hp} {M : Addr → Prop} {i : Nat} {tr : TA} {E : XK} {rd : Dic} {w : Nat} {t : List Row} {n pc : Int} (ok : Ok F Z ρ σ H M) (hi : ρ[i]? = some (.own (uPunch mg w rd t n) (pP))) {sel : Addr → Sp → Prop} (hsel_ : sel (cA mg "Punch") (sp_Punch_rub K mg)) (h : EvAG tr σ H [isR M (uI pc)]) (p0 : TpOk t w) (p1 : w ≤ 4) (p2 : 0 ≤ pc) (p3 : pc < (t.length : Int)) : XV (tMethU sel "rub" E (tVar i) tr) F Z (ρ.set i (.own (uPunch mg w rd (strT t pc (List.replicate w 111)) (n + takenL t (strT t pc (List.replicate w 111)))) (pP))) σ H (Dt.sc (.non)) := x_meth ok hi hsel_ (by decide +kernel) h rfl fun vs H1 hp => ⟨rd, w, t, n, pc, hp, ⟨p0, p1, p2, p3, trivial⟩, rfl, rfl, rfl, rfl, rfl⟩
theorem ok_Punch_rub (T : Txt K mg) : OkM P wW K mg base CX0 (cA mg "Punch") "rub" 5 (sp_Punch_rub K mg) := by
  have S_check_place := hsel_check_place (P := P) (wW := wW) (base := base) T
  have S_strike := hsel_strike (P := P) (wW := wW) (base := base) T
  refine OkM.of T.m_Punch_rub sc_Punch_rub (fun vs H Q E h => h.1) (fun f cdv A outer s Hb vs Q E hr h => ?_)
  obtain ⟨-, F, x_, r_, bs0, d0, p0_, d1, p1_, d_, rfl, nb, nf, al, w0, ⟨rd, w, t, n, pc, ⟨v1, r1, rfl, q1, rfl⟩, ⟨p0, p1, p2, p3, -⟩, rfl, rfl, rfl, rfl, rfl⟩, k⟩ := h
  have ok : Ok F (fun H' O' => Lt Hb (· ∈ bs0) H' O') [.own (uPunch mg w rd t n) (pP), st (uI pc)] _ Hb (Mb F bs0) := Ok.startX al nf nb w0.al ⟨_, _, bs0, [], rfl, (List.append_nil _).symm, w0, ⟨_, _, [], [], rfl, rfl, ow_sh.mpr ⟨rfl, q1⟩, ⟨rfl, rfl⟩⟩⟩
  have zz : ∀ (H' : Hp) (O' : Addr → Prop), Lt Hb (· ∈ bs0) H' O' → Lt Hb (· ∈ bs0) H' O' := fun _ _ z => z
  have hu := hu_of hr
  refine ⟨_, (pss_cons (ps_expr (pe_methU S_check_place hr pass0 (pv 0) (pa_cons (pv 1) pa_nil)))
 (pss_one (ps_expr (pe_methU S_strike hr pass0 (pv 0) (pa_cons (pv 1) (pa_cons (pe_op op_mulS (pe_gs (by rfl) T.c_HOLE) (pe_fld (pv 0) rfl)) pa_nil)))))), ?_⟩
  have htl := p0.len
  have hrow : isRow (t.getD pc.toNat []) (w : Int) = true := by
    rw [List.getD_eq_getElem?_getD, List.getElem?_eq_getElem (by omega)]
    exact p0.row _ (List.getElem_mem _)
  have hrl := isRow_len hrow
  refine b_dropS ok (p_ev (ev_Punch_check_place (by walk_at "sel") (ok.ro rfl) (ag_R (r_ev (ok.ev rfl)) ag_nil) p2 p3)) fun M H ok => ?_
  refine c_dropY (xv_Punch_strike (r := List.replicate w 111) ok rfl (by walk_at "sel") (ag_R (r_ev (ok.ev rfl)) (ag_R (r_ev (Ev.is (ev_mulS ev_c (ev_r (EvR.is (r_fld (ns := ["width", "reader", "rows", "made"]) uN (ok.nn rfl) T.k_Punch.cl T.f_Punch_width 0 rfl (by decide +kernel) rfl) (by rfl))) (by omega) (by omega) (by decide)) (by rw [all_o w p1]))) ag_nil)) (by omega) p2 p3 (by simp; omega) (isRow_all_o p1) (by have := goes_all_o (t.getD pc.toNat []); rwa [hrl] at this) (by omega)) fun M H ok => ?_
  exact c_endY (i := 0) ok rfl rfl (by unfold Rp; rfl) k zz
def sel_rub (K : PySem.W.Frag) (mg : Str → Option Value) : Addr → Sp → Prop := fun C sp => (C = cA mg "Punch" ∧ sp = sp_Punch_rub K mg)
theorem hsel_rub (T : Txt K mg) : ∀ C sp, sel_rub K mg C sp → Cls K C ∧ OkM P wW K mg base CX0 C "rub" 5 sp := by
  intro C sp h
  obtain ⟨rfl, rfl⟩ := h
  · exact ⟨T.k_Punch.cl, (ok_Punch_rub T).mono (by decide)⟩
def R__law_done (K : PySem.W.Frag) (mg : Str → Option Value) : (Addr → Prop) → List V → Hp → Dt → Pat → Dt → Pat → Dt → Prop := fun F vs H d0 q0 d1 q1 d => ∃ (rd : Dic) (w : Nat) (t : List Row) (num : Int) (x : Row) (n : Int), AllP [isR F (uD rd), isR F (uL uS t), isR F (uI num), isR F (uS x)] vs H ∧ ((RdOk rd w) ∧ (TpOk t w) ∧ (t.length ≤ 10) ∧ (TxOk x) ∧ True) ∧ d0 = uPunch mg w rd t n ∧ q0 = pP ∧ d1 = uPunch mg w rd (doneT rd w t num x) (n + (holesOf (doneT rd w t num x) - holesOf t)) ∧ q1 = pP ∧ d = (uL uS (doneT rd w t num x))
def sp__law_done (K : PySem.W.Frag) (mg : Str → Option Value) : Sp := spX 4 (R__law_done K mg)
theorem xv__law_done {K : PySem.W.Frag} {mg : Str → Option Value} {F : Addr → Prop} {Z : Hp → (Addr → Prop) → Prop} {ρ : List Sl} {σ : L2.St} {H : Hp} {M : Addr → Prop} {i : Nat} {tr : TA} {E : XK} {rd : Dic} {w : Nat} {t : List Row} {num : Int} {x : Row} {n : Int} (ok : Ok F Z ρ σ H M) (hi : ρ[i]? = some (.own (uPunch mg w rd t n) (pP))) (h : EvAG tr σ H [isR M (uD rd), isR M (uL uS t), isR M (uI num), isR M (uS x)]) (p0 : RdOk rd w) (p1 : TpOk t w) (p2 : t.length ≤ 10) (p3 : TxOk x) : XV (tCallO (sp__law_done K mg) E (tCons (tVar i) tr)) F Z (ρ.set i (.own (uPunch mg w rd (doneT rd w t num x) (n + (holesOf (doneT rd w t num x) - holesOf t))) (pP))) σ H (uL uS (doneT rd w t num x)) := x_callX ok hi h rfl fun vs H1 hp => ⟨rd, w, t, num, x, n, hp, ⟨p0, p1, p2, p3, trivial⟩, rfl, rfl, rfl, rfl, rfl⟩
theorem ok__law_done (T : Txt K mg) : OkF P wW K mg base CX0 "_law_done" 8 (sp__law_done K mg) := by
  have O__law_width : OkF P wW K mg base CX0 "_law_width" 1 (sp__law_width K) := ok__law_width T
  have O__law_written : OkF P wW K mg base CX0 "_law_written" 7 (sp__law_written K mg) := ok__law_written T
  have S_feed := hsel_feed (P := P) (wW := wW) (base := base) T
  have D_Punch_feed : OkMD P wW K mg base CX0 (cA mg "Punch") "feed" 2 (sp_Punch_feed K mg) [.int 1] := ok_Punch_feed T
  have S_rub := hsel_rub (P := P) (wW := wW) (base := base) T
  have O__law_rows : OkF P wW K mg base CX0 "_law_rows" 1 (sp__law_rows K) := ok__law_rows T
  have O__law_over : OkF P wW K mg base CX0 "_law_over" 1 (sp__law_over K) := ok__law_over T
  have S_strike := hsel_strike (P := P) (wW := wW) (base := base) T
  refine OkF.of T.d__law_done sc__law_done (fun vs H Q E h => h.1) (fun f cdv A outer s Hb vs Q E hr h => ?_)
  obtain ⟨-, F, x_, r_, bs0, d0, p0_, d1, p1_, d_, rfl, nb, nf, al, w0, ⟨rd, w, t, num, x, n, ⟨v1, r1, rfl, q1, ⟨v2, r2, rfl, q2, ⟨v3, r3, rfl, q3, ⟨v4, r4, rfl, q4, rfl⟩⟩⟩⟩, ⟨p0, p1, p2, p3, -⟩, rfl, rfl, rfl, rfl, rfl⟩, k⟩ := h
  have ok : Ok F (fun H' O' => Lt Hb (· ∈ bs0) H' O') [.own (uPunch mg w rd t n) (pP), st (uD rd), st (uL uS t), st (uI num), st (uS x), .una, .una, .una, .una, .una, .una, .una] _ Hb (Mb F bs0) := Ok.startX al nf nb w0.al ⟨_, _, bs0, [], rfl, (List.append_nil _).symm, w0, ⟨_, _, [], [], rfl, rfl, ow_sh.mpr ⟨rfl, q1⟩, ⟨_, _, [], [], rfl, rfl, ow_sh.mpr ⟨rfl, q2⟩, ⟨_, _, [], [], rfl, rfl, ow_sh.mpr ⟨rfl, q3⟩, ⟨_, _, [], [], rfl, rfl, ow_sh.mpr ⟨rfl, q4⟩, ⟨_, rfl, ⟨_, rfl, ⟨_, rfl, ⟨_, rfl, ⟨_, rfl, ⟨_, rfl, ⟨_, rfl, ⟨rfl, rfl⟩⟩⟩⟩⟩⟩⟩⟩⟩⟩⟩⟩⟩
  have zz : ∀ (H' : Hp) (O' : Addr → Prop), Lt Hb (· ∈ bs0) H' O' → Lt Hb (· ∈ bs0) H' O' := fun _ _ z => z
  have hu := hu_of hr
  refine ⟨_, (pss_cons (ps_par (i := 11) (j := 9) rfl sc__law_done.nd rfl rfl (by decide) rfl rfl (pa_cons (pe_callO O__law_width hr (by rfl) pass0 (pa_cons (pv 1) pa_nil)) (pa_cons (pe_callB (kcb_lenQ (K := K)) (by rfl) T.z_len (by decide +kernel) (pa_cons (pv 2) pa_nil)) pa_nil)) (by rfl))
 (pss_cons (ps_set (i := 5) sc__law_done.nd rfl (.inr rfl) (pe_ifExp (pt_cmpR op_gt (pv 9) pe_int (nomark _)) (pe_op op_mod (pe_op op_fdiv (pv 3) pe_int) (pv 9)) pe_int))
 (pss_cons (ps_if (PW.pt (pw_or (PW.pt (pw_and (pt_cmpR op_eq (pe_op op_mod (pv 3) pe_int) pe_int (nomark _)) (pw_and1 (pt_cmpR op_lt (pv 9) pe_int (nomark _))))) (pw_or1 (pt_cmpR op_eq (pv 9) pe_int (nomark _)))))
  (pss_cons (ps_set (i := 6) sc__law_done.nd rfl (.inl rfl) (pe_op op_add pe_int (pe_op op_mod (pe_op op_fdiv (pv 3) pe_int) pe_int)))
 (pss_cons (ps_set (i := 10) sc__law_done.nd rfl (.inl rfl) (pe_ifExp (pt_cmpR op_eq (pv 6) pe_int (nomark _)) (pe_methD0 T.k_Punch.cl (fun _ _ h => h) D_Punch_feed hr pass0 (pv 0)) (pe_methU S_feed hr pass0 (pv 0) (pa_cons (pv 6) pa_nil))))
 (pss_one (ps_ret (pe_ifExp (pt_cmpR op_isNo (pv 10) pe_non (nomark _)) (pe_op op_cat (pv 2) (pe_op op_rep (pe_lst (pa_cons (pe_op op_mulS pe_str (pv 11)) pa_nil)) (pv 6))) pe_non)))))
  pss_nil)
 (pss_cons (ps_if (pt_cmpR op_lt (pe_op op_mod (pv 3) pe_int) pe_int (nomark _))
  (pss_one (ps_ret (pe_callO O__law_written hr (by rfl) pass0 (pa_cons (pv 0) (pa_cons (pv 1) (pa_cons (pv 2) (pa_cons (pv 4) pa_nil)))))))
  pss_nil)
 (pss_cons (ps_if (pt_cmpR op_eq (pe_op op_mod (pv 3) pe_int) pe_int (nomark _))
  (pss_cons (ps_setLc (i := 8) (own := [("_law_row", 7)]) (g := gName 7) rfl sc__law_done.nd rfl rfl (sw_true rfl rfl rfl (by decide +kernel)) (kpi_list (K := K) (pe_callO O__law_rows hr (by rfl) pass0 (pa_cons (pv 11) pa_nil))) (blkOk_by (N := N__law_done) (sc := defScope s__law_done) (by decide +kernel)) (fun _ _ _ _ _ => (pg_name (i := 7) sc__law_done.nd rfl (.inl rfl))) (fun _ _ _ _ _ => (pts_one (pt_val (pe_callO O__law_over hr (by rfl) pass0 (pa_cons (pe_ix (kix_list (K := K)) (pv 2) (pv 5) (fun _ _ => rfl)) (pa_cons (pv 7) pa_nil)))))) (fun _ _ _ _ _ => (pv 7)))
 (pss_cons (ps_set (i := 7) sc__law_done.nd rfl (.inl rfl) (pe_ix (kix_list (K := K)) (pv 8) (pe_op op_mod (pe_op op_fdiv (pv 3) pe_int) (pe_callB (kcb_lenQ (K := K)) (by rfl) T.z_len (by decide +kernel) (pa_cons (pv 8) pa_nil))) (fun _ _ => rfl)))
 (pss_one (ps_ret (pe_ifExp (pt_cmpR op_isNo (pe_methU S_strike hr pass0 (pv 0) (pa_cons (pv 5) (pa_cons (pv 7) pa_nil))) pe_non (nomark _)) (pe_op op_cat (pe_op op_cat (pe_slice (ksl_list (K := K)) (pv 2) po_none (po_some (pv 5))) (pe_lst (pa_cons (pv 7) pa_nil))) (pe_slice (ksl_list (K := K)) (pv 2) (po_some (pe_op op_add (pv 5) pe_int)) po_none)) pe_non)))))
  pss_nil)
 (pss_one (ps_ret (pe_ifExp (pt_cmpR op_isNo (pe_methU S_rub hr pass0 (pv 0) (pa_cons (pv 5) pa_nil)) pe_non (nomark _)) (pe_op op_cat (pe_op op_cat (pe_slice (ksl_list (K := K)) (pv 2) po_none (po_some (pv 5))) (pe_lst (pa_cons (pe_op op_mulS pe_str (pv 11)) pa_nil))) (pe_slice (ksl_list (K := K)) (pv 2) (po_some (pe_op op_add (pv 5) pe_int)) po_none)) pe_non)))))))), ?_⟩
  have hw := p0.w4
  have htl := p1.len
  refine b_parS (d := uI (w : Int)) (p := .sh) (d2 := uI (t.length : Int)) (p2 := .sh) ok (p_ev (ev__law_width (ag_D (ok.dd rfl) ag_nil) p0)) (fun M H ok => (p_ev (ev_lenQ (l := t) (ok.q (g := VS) (i := 2) rfl)))) fun v v2 M H ok => ?_
  refine b_asgS (d := uI (doneA t num)) (p := .sh) ok (p_ev (Ev.is (ev_ifI (et_test (ev_gt (ok.ev rfl) ev_c)) (fun hb1 => (ev_mod (ev_fdiv (ok.ev rfl) ev_c ⟨by decide, by decide⟩) (ok.ev rfl) (by have := of_decide_eq_true hb1; omega))) (fun hb1 => ev_c)) (by
    unfold doneA
    by_cases h : (0 : Int) < t.length
    · rw [if_pos h, if_pos (by simpa using h)]
    · rw [if_neg h, if_neg (by simpa using h)]))) fun v M H ok => ?_
  have ok : Ok F (fun H' O' => Lt Hb (· ∈ bs0) H' O') [.own (uPunch mg w rd t n) pP, st (uD rd), st (uL uS t), st (uI num), st (uS x), st (uI (doneA t num)), .una, .una, .una, st (uI (t.length : Int)), .una, st (uI (w : Int))] _ H M := ok
  refine b_whenE (b := doneF t num) ok (EvT.is (et_or (et_and (et_test (ev_eqI (ev_mod (ok.ev rfl) ev_c (by decide)) ev_c)) (fun hb2 => (et_test (ev_lt (ok.ev rfl) ev_c)))) (fun hb3 => (et_test (ev_eqI (ok.ev rfl) ev_c)))) rfl) (fun hf M H ok => ?_) (fun hf M H ok => ?_)
  · have hT : doneT rd w t num x = fedT w t (1 + num / 5 % 3).toNat := by unfold doneT; rw [hf, if_pos rfl]
    have hk := Int.emod_nonneg (num / 5) (show (3 : Int) ≠ 0 by decide)
    have hk2 := Int.emod_lt_of_pos (num / 5) (show (0 : Int) < 3 by decide)
    rw [hT, fedT_holes, show n + (holesOf t - holesOf t) = n by omega] at k
    refine b_asgS (d := uI (1 + num / 5 % 3)) (p := .sh) ok (p_ev (ev_add ev_c (ev_mod (ev_fdiv (ok.ev rfl) ev_c ⟨by decide, by decide⟩) ev_c (by decide)))) fun v M H ok => ?_
    generalize hm : 1 + num / 5 % 3 = m at ok k
    have hm1 : 1 ≤ m ∧ m ≤ 3 := by omega
    have ok : Ok F (fun H' O' => Lt Hb (· ∈ bs0) H' O') [.own (uPunch mg w rd t n) pP, st (uD rd), st (uL uS t), st (uI num), st (uS x), st (uI (doneA t num)), st (uI m), .una, .una, st (uI (t.length : Int)), .una, st (uI (w : Int))] _ H M := ok
    refine b_asgY (d := uN) (ρ := [.own (uPunch mg w rd (fedT w t m.toNat) n) pP, st (uD rd), st (uL uS t), st (uI num), st (uS x), st (uI (doneA t num)), st (uI m), .una, .una, st (uI (t.length : Int)), .una, st (uI (w : Int))]) (xv_if (b := decide (m = 1)) ok (et_test (ev_eqI (ok.ev rfl) ev_c)) (fun hb M H ok => ?_) (fun hb M H ok => ?_)) fun v M H ok => ?_
    · rw [decide_eq_true_eq] at hb
      subst hb
      exact xv_Punch_feed (i := 0) (many := 1) ok rfl (by walk_at "sel") (ag_dfl ag_nil) hw (by decide) (by omega)
    · exact xv_Punch_feed (i := 0) (many := m) ok rfl (by walk_at "sel") (ag_R (r_ev (ok.ev rfl)) ag_nil) hw (by omega) (by omega)
    · exact c_retY (i := 0) (D := { nx := _, rt := Q }) ok (EvR.is (r_if (d1 := uL uS (fedT w t m.toNat)) (d2 := uN) (et_test (ev_isNo (x := .non) (ok.ev rfl) ev_c)) (fun hb5 => EvR.is (r_p ok.al (p_L (g := VS) (EvL.is (el_catH (ok.h (g := VS) (i := 2) rfl) (h_new (el_repH (h_new (el_lst (emS_cons (ev_mulS (ev_cS lit_dot) (ok.ev rfl) (by omega) (by omega) (by decide)) emS_nil) (by simp))) (ok.ev rfl) (by omega) (by omega) (by simp; omega))) (by simp; omega)) (by
        rw [show (List.replicate (w : Int).toNat [46]).flatten = List.replicate w 46 by simp]
        refine congrArg (fun z => List.map VS (t ++ z)) ?_
        show _ = List.replicate m.toNat (List.replicate w 46)
        simp)))) rfl) (fun hb5 => (r_ev ev_c))) (by simp)) rfl rfl k zz
  obtain ⟨a0, a1⟩ := doneA_ok hf
  refine b_whenE (b := decide (num % 5 < 3)) ok (EvT.is (et_test (ev_lt (ev_mod (ok.ev rfl) ev_c (by decide)) ev_c)) rfl) (fun h3 M H ok => ?_) (fun h3 M H ok => ?_)
  · rw [decide_eq_true_eq] at h3
    have hT : doneT rd w t num x = wrT rd t x := by unfold doneT; rw [hf, if_neg (by decide), if_pos h3]
    rw [hT, ← wrC_holes p0 p1] at k
    exact c_retYY (i := 0) (D := { nx := _, rt := Q }) (xv__law_written ok (i := 0) rfl (ag_R (ok.r (i := 1) rfl) (ag_R (ok.r (i := 2) rfl) (ag_R (r_ev (ok.ev rfl)) ag_nil))) p0 p1 p3) rfl rfl k zz
  rw [decide_eq_false_iff_not] at h3
  have hrow := getD_row p1 a0 a1
  have hrl := isRow_len hrow
  refine b_whenE (b := decide (num % 5 = 3)) ok (EvT.is (et_test (ev_eqI (ev_mod (ok.ev rfl) ev_c (by decide)) ev_c)) rfl) (fun h4 M H ok => ?_) (fun h4 M H ok => ?_)
  · rw [decide_eq_true_eq] at h4
    have hT : doneT rd w t num x = strT t (doneA t num) (doneR w t num) := by unfold doneT; rw [hf, if_neg (by decide), if_neg h3, if_pos h4]
    obtain ⟨r1, r2⟩ := doneR_ok hw p1 hf
    have hpos := doneRs_pos hw p1 hf
    rw [hT, ← str_taken a0 a1] at k
    have hle := rowsL_le (w := (w : Int)) (by omega)
    have hrows : ∀ o ∈ rowsL (w : Int), isRow o (w : Int) = true := fun o ho => rowsL_row _ _ ho
    refine b_asgS (d := uL uS (doneRs w t num)) (p := .ow .sh) ok (EvP.is (p_lc ok (j_listN (n_p ok.al (p_L (ev__law_rows (ag_V (ok.ev rfl) ag_nil) (by omega) (by omega))))) (by omega) (by simp) (fun x6 hx6 M σ H ok => (et_B (ev__law_over (ag_V (ev_ixQ ([] : Row) (ok.q (g := VS) rfl) (ok.ev rfl) a0 a1) (ag_V (ok.ev rfl) ag_nil)) hrow (hrows x6 hx6) hw))) (fun x6 hx6 hy6 M σ H ok => (p_ev (ok.ev rfl)))) rfl) fun v M H ok => ?_
    have ok : Ok F (fun H' O' => Lt Hb (· ∈ bs0) H' O') [.own (uPunch mg w rd t n) pP, st (uD rd), st (uL uS t), st (uI num), st (uS x), st (uI (doneA t num)), .una, .una, mu (uL uS (doneRs w t num)), st (uI (t.length : Int)), .una, st (uI (w : Int))] _ H M := ok
    have i0 := Int.emod_nonneg (num / 40) (show ((doneRs w t num).length : Int) ≠ 0 by omega)
    have i1 := Int.emod_lt_of_pos (num / 40) (show (0 : Int) < (doneRs w t num).length by omega)
    refine b_asgS (d := uS (doneR w t num)) (p := .sh) ok (p_ev (ev_ixQ ([] : Row) (ok.q (g := VS) (i := 8) rfl) (ev_mod (ev_fdiv (ok.ev rfl) ev_c ⟨by decide, by decide⟩) (ev_lenQ (ok.q (g := VS) (xs := doneRs w t num) (i := 8) rfl)) (by omega)) i0 i1)) fun v M H ok => ?_
    have hcut : ∀ (lo hi : Option Int), (cutG t lo hi).length ≤ 1000 := fun lo hi => by
      have := cutG_len t lo hi
      omega
    refine c_retYY (i := 0) (d := uL uS (strT t (doneA t num) (doneR w t num))) (D := { nx := _, rt := Q }) (xv_ifY (b := true) (ρ := [.own (uPunch mg w rd (strT t (doneA t num) (doneR w t num)) (n + takenL t (strT t (doneA t num) (doneR w t num)))) pP, st (uD rd), st (uL uS t), st (uI num), st (uS x), st (uI (doneA t num)), .una, st (uS (doneR w t num)), mu (uL uS (doneRs w t num)), st (uI (t.length : Int)), .una, st (uI (w : Int))]) (XT.is (xt_B (x_op (v := .non) (w := .bl true) (xv_Punch_strike (i := 0) (pc := doneA t num) (r := doneR w t num) ok rfl (by walk_at "sel") (ag_R (r_ev (ok.ev rfl)) (ag_R (r_ev (ok.ev rfl)) ag_nil)) (by omega) a0 a1 (by rw [isRow_len r1]; exact hw) r1 r2 (by omega)) (fun H M ok => Ev.is (ev_isNo (x := .non) ev_c ev_c) rfl))) rfl) (fun _ M H ok => ?_) (fun e => nomatch e)) rfl rfl k zz
    exact r_p ok.al (p_cat (f := uS) (xs := cutG t none (some (doneA t num)) ++ [doneR w t num]) (ys := cutG t (some (doneA t num + 1)) none) (n_p ok.al (p_cat (f := uS) (xs := cutG t none (some (doneA t num))) (ys := [doneR w t num]) (n_p ok.al (p_sl (f := uS) (xs := t) (ok.nx (i := 2) rfl rfl) eo_none (eo_some (ok.ev rfl)))) (n_p ok.al (p_L (el_lst (emS_cons (ok.ev rfl) emS_nil) (by simp)))) (by have := hcut none (some (doneA t num)); simp; omega))) (n_p ok.al (p_sl (f := uS) (xs := t) (ok.nx (i := 2) rfl rfl) (eo_some (ev_add (ok.ev rfl) ev_c)) eo_none)) (by have := hcut none (some (doneA t num)); have := hcut (some (doneA t num + 1)) none; simp; omega))
  rw [decide_eq_false_iff_not] at h4
  have hT : doneT rd w t num x = strT t (doneA t num) (List.replicate w 111) := by unfold doneT; rw [hf, if_neg (by decide), if_neg h3, if_neg h4]
  rw [hT, ← str_taken a0 a1] at k
  have hcut : ∀ (lo hi : Option Int), (cutG t lo hi).length ≤ 1000 := fun lo hi => by
    have := cutG_len t lo hi
    omega
  refine c_retYY (i := 0) (d := uL uS (strT t (doneA t num) (List.replicate w 111))) (D := { nx := _, rt := Q }) (xv_ifY (b := true) (ρ := [.own (uPunch mg w rd (strT t (doneA t num) (List.replicate w 111)) (n + takenL t (strT t (doneA t num) (List.replicate w 111)))) pP, st (uD rd), st (uL uS t), st (uI num), st (uS x), st (uI (doneA t num)), .una, .una, .una, st (uI (t.length : Int)), .una, st (uI (w : Int))]) (XT.is (xt_B (x_op (v := .non) (w := .bl true) (xv_Punch_rub (i := 0) (pc := doneA t num) ok rfl (by walk_at "sel") (ag_R (r_ev (ok.ev rfl)) ag_nil) p1 hw a0 a1) (fun H M ok => Ev.is (ev_isNo (x := .non) ev_c ev_c) rfl))) rfl) (fun _ M H ok => ?_) (fun e => nomatch e)) rfl rfl k zz
  exact r_p ok.al (p_cat (f := uS) (xs := cutG t none (some (doneA t num)) ++ [List.replicate w 111]) (ys := cutG t (some (doneA t num + 1)) none) (n_p ok.al (p_cat (f := uS) (xs := cutG t none (some (doneA t num))) (ys := [List.replicate w 111]) (n_p ok.al (p_sl (f := uS) (xs := t) (ok.nx (i := 2) rfl rfl) eo_none (eo_some (ok.ev rfl)))) (n_is (n_p ok.al (p_L (el_lst (emS_cons (ev_mulS (ev_cS lit_o) (ok.ev rfl) (by omega) (by omega) (by decide)) emS_nil) (by simp)))) (by rw [show (List.replicate (w : Int).toNat [111]).flatten = List.replicate w 111 by simp])) (by have := hcut none (some (doneA t num)); simp; omega))) (n_p ok.al (p_sl (f := uS) (xs := t) (ok.nx (i := 2) rfl rfl) (eo_some (ev_add (ok.ev rfl) ev_c)) eo_none)) (by have := hcut none (some (doneA t num)); have := hcut (some (doneA t num + 1)) none; simp; omega))
def R_below (K : PySem.W.Frag) : List V → Hp → List V → Prop := fun vs H z => ∃ (r : Row), AllP [isV (VS r)] vs H ∧ ((r.length ≤ 4) ∧ True) ∧ z = Txts (belowL r)
def sp_below (K : PySem.W.Frag) : Sp := spL  1 (R_below K)
theorem ev_below {K : PySem.W.Frag} {σ : L2.St} {H : Hp} {tr : TA} {E : XK} {r : Row} (h : EvAG tr σ H [isV (VS r)]) (p0 : r.length ≤ 4) : EvL (tCallO (sp_below K) E tr) σ H (Txts (belowL r)) := el_callG h rfl fun vs H1 e hp => ⟨r, hp, ⟨p0, trivial⟩, rfl⟩
theorem ok_below (T : Txt K mg) : OkF P wW K mg base CX0 "below" 2 (sp_below K) := by
  have O_rows_of : OkF P wW K mg base CX0 "rows_of" 1 (sp_rows_of K) := ok_rows_of T
  have O_goes_over : OkF P wW K mg base CX0 "goes_over" 1 (sp_goes_over K) := ok_goes_over T
  refine OkF.of T.d_below sc_below (fun vs H Q E h => h.1) (fun f cdv A outer s H vs Q E hr h => ?_)
  obtain ⟨-, z, H0, e0, ⟨r, ⟨v0, r0, rfl, rfl, rfl⟩, ⟨p0, -⟩, rfl⟩, k⟩ := h
  clear e0 H0
  have hu := hu_of hr
  refine ⟨_, (pss_one (ps_ret (pe_lc (own := [("other", 1)]) (g := gName 1) rfl sc_below.nd (kpi_list (K := K) (pe_callO O_rows_of hr (by rfl) pass0 (pa_cons (pe_callB cb_lenS (by rfl) T.z_len (by decide +kernel) (pa_cons (pv 0) pa_nil)) pa_nil))) (blkOk_by (N := N_below) (sc := defScope s_below) (by decide +kernel)) (fun _ _ _ _ _ => (pg_name (i := 1) sc_below.nd rfl (.inl rfl))) (fun _ _ _ _ _ => (pts_one (pt_val (pe_callO O_goes_over hr (by rfl) pass0 (pa_cons (pv 1) (pa_cons (pv 0) pa_nil)))))) (fun _ _ _ _ _ => (pv 1))))), ?_⟩
  have hl := rowsL_le (w := (r.length : Int)) (by omega)
  have hrl : ∀ o ∈ rowsL (r.length : Int), o.length ≤ 40000 := fun o ho => by have := isRow_len (rowsL_row _ o ho); omega
  exact s_retL2 (EvL.is (el_lc (i_list (qa_new (ev_rows_of (ag_V (ev_lenS (ev_var rfl) (by walk_at "side")) ag_nil) (by walk_at "side")))) (by walk_at "len") (fun _ => wipe_one _ _ _) (fun x67 hx67 H167 e167 => (et_B (ev_goes_over (ag_V (ev_var rfl) (ag_V (ev_var rfl) ag_nil)) (by walk_at "side")))) (fun x67 hx67 hy67 H167 e167 => (ev_var rfl))) rfl) k
def R_means_of (K : PySem.W.Frag) (mg : Str → Option Value) : (Addr → Prop) → List V → Hp → Dt → Pat → Prop := fun F vs H d p => ∃ (rd : Dic) (r : Row), AllP [isR F (uD rd), isR F (uS r)] vs H ∧ ((r.length ≤ 4) ∧ True) ∧ d = (uD (meansL rd r)) ∧ p = (.ow .sh)
def sp_means_of (K : PySem.W.Frag) (mg : Str → Option Value) : Sp := spR 2 (R_means_of K mg)
theorem ev_means_of {K : PySem.W.Frag} {mg : Str → Option Value} {σ : L2.St} {H : Hp} {tr : TA} {E : XK} {M : Addr → Prop} {rd : Dic} {r : Row} (al : Al M H) (h : EvAG tr σ H [isR M (uD rd), isR M (uS r)]) (p0 : r.length ≤ 4) : EvP M (tCallO (sp_means_of K mg) E tr) σ H (uD (meansL rd r)) (.ow .sh) := p_callR al h rfl fun vs H1 hp => ⟨rd, r, hp, ⟨p0, trivial⟩, rfl, rfl⟩
theorem eo_means_of {K : PySem.W.Frag} {mg : Str → Option Value} {σ : L2.St} {H : Hp} {tr : TA} {E : XK} {M : Addr → Prop} {rd : Dic} {r : Row} (h : EvAG tr σ H [isR Mo (uD rd), isR Mo (uS r)]) (p0 : r.length ≤ 4) : EvP M (tCallO (sp_means_of K mg) E tr) σ H (uD (meansL rd r)) (.ow .sh) := p_scal (ev_means_of (Mo_al H) h p0) (scal_D)
theorem ok_means_of (T : Txt K mg) : OkF P wW K mg base CX0 "means_of" 3 (sp_means_of K mg) := by
  have O_below : OkF P wW K mg base CX0 "below" 2 (sp_below K) := ok_below T
  have O_meaning : OkF P wW K mg base CX0 "meaning" 1 (sp_meaning K) := ok_meaning T
  refine OkF.of T.d_means_of sc_means_of (fun vs H Q E h => h.1) (fun f cdv A outer s Hb vs Q E hr h => ?_)
  obtain ⟨-, F, d0, p0_, al, ⟨rd, r, ⟨v0, r0, rfl, q0, ⟨v1, r1, rfl, q1, rfl⟩⟩, ⟨p0, -⟩, rfl, rfl⟩, k⟩ := h
  have ok : Ok F (fun H' O' => Lt Hb Mo H' O') [st (uD rd), st (uS r), .una, .una] _ Hb F := Ok.start al ⟨_, _, [], [], rfl, rfl, ow_sh.mpr ⟨rfl, q0⟩, ⟨_, _, [], [], rfl, rfl, ow_sh.mpr ⟨rfl, q1⟩, ⟨_, rfl, ⟨_, rfl, ⟨rfl, rfl⟩⟩⟩⟩⟩
  have zz : ∀ (H' : Hp) (O' : Addr → Prop), Lt Hb Mo H' O' → Lt Hb Mo H' O' := fun _ _ z => z
  have hu := hu_of hr
  refine ⟨_, (pss_cons (ps_set (i := 2) sc_means_of.nd rfl (.inl rfl) pe_dnewK)
 (pss_cons (ps_for PassesOwn.never rfl (kpi_list (K := K) (pe_callO O_below hr (by rfl) pass0 (pa_cons (pv 1) pa_nil))) (pg_name (i := 3) sc_means_of.nd rfl (.inl rfl))
  (pss_one (ps_expr (pe_dsetd (pv 2) (pe_callO O_meaning hr (by rfl) pass0 (pa_cons (pv 0) (pa_cons (pv 3) pa_nil))) (pv 3) ⟨rfl, rfl, rfl, rfl⟩))))
 (pss_one (ps_ret (pv 2))))), ?_⟩
  have hl := belowL_len p0
  refine b_asg (d := uD []) ok (p_D (r := []) ed_new) fun M σ H ok => ?_
  refine b_for (fun i ρ => ∃ a, ρ = [st (uD rd), st (uS r), mu (uD (meansF rd ((belowL r).take i))), a]) ok (j_listR (r_p ok.al (p_L (ev_below (ag_V (ok.ev rfl) ag_nil) (by walk_at "side"))))) ⟨_, rfl⟩ ?_ ?_
  · rintro Z1 z1 i o ρ M σ H hi ⟨a, rfl⟩ ok
    have hi0 : (belowL r)[i]? = some o := hi
    have hlen : (meansF rd ((belowL r).take i)).length ≤ 16 := by
      have := meansF_len rd ((belowL r).take i) []
      have h2 : ((belowL r).take i).length ≤ 16 := by rw [List.length_take]; omega
      rw [List.length_nil, Nat.zero_add] at this
      exact Nat.le_trans this h2
    exact c_setdS (f := uS) (r := meansF rd ((belowL r).take i)) (a := mean rd o) (b := o) ok rfl (r_ev (ok.ev rfl)) (ev_meaning (ag_D (ok.dd rfl) (ag_V (ok.ev rfl) ag_nil))) (by omega) fun M σ H ok => ⟨_, _, ok, _, by
      rw [show meansF rd ((belowL r).take (i + 1)) = setG (meansF rd ((belowL r).take i)) (mean rd o) o by
        unfold meansF
        rw [List.take_succ, hi0]
        exact List.foldl_append]
      rfl⟩
  · rintro ρ M σ H ⟨a, rfl⟩ ok
    have ok : Ok F _ [st (uD rd), st (uS r), mu (uD (meansF rd ((belowL r).take (belowL r).length))), a] σ H M := ok
    rw [List.take_length] at ok
    exact c_retv ok rfl k zz
def R_counts_of (K : PySem.W.Frag) (mg : Str → Option Value) : (Addr → Prop) → List V → Hp → Dt → Pat → Prop := fun F vs H d p => ∃ (rd : Dic) (w : Nat) (t : List Row) (x : Row), AllP [isR F (uD rd), isR F (uL uS t), isR F (uS x)] vs H ∧ ((RdOk rd w) ∧ (TpOk t w) ∧ (x.length ≤ 30) ∧ True) ∧ d = (uL (uL uI) (countsL rd t x)) ∧ p = (.ow .sh)
def sp_counts_of (K : PySem.W.Frag) (mg : Str → Option Value) : Sp := spR 3 (R_counts_of K mg)
theorem ev_counts_of {K : PySem.W.Frag} {mg : Str → Option Value} {σ : L2.St} {H : Hp} {tr : TA} {E : XK} {M : Addr → Prop} {rd : Dic} {w : Nat} {t : List Row} {x : Row} (al : Al M H) (h : EvAG tr σ H [isR M (uD rd), isR M (uL uS t), isR M (uS x)]) (p0 : RdOk rd w) (p1 : TpOk t w) (p2 : x.length ≤ 30) : EvP M (tCallO (sp_counts_of K mg) E tr) σ H (uL (uL uI) (countsL rd t x)) (.ow .sh) := p_callR al h rfl fun vs H1 hp => ⟨rd, w, t, x, hp, ⟨p0, p1, p2, trivial⟩, rfl, rfl⟩
theorem ok_counts_of (T : Txt K mg) : OkF P wW K mg base CX0 "counts_of" 4 (sp_counts_of K mg) := by
  have O_means_of : OkF P wW K mg base CX0 "means_of" 3 (sp_means_of K mg) := ok_means_of T
  refine OkF.of T.d_counts_of sc_counts_of (fun vs H Q E h => h.1) (fun f cdv A outer s Hb vs Q E hr h => ?_)
  obtain ⟨-, F, d0, p0_, al, ⟨rd, w, t, x, ⟨v0, r0, rfl, q0, ⟨v1, r1, rfl, q1, ⟨v2, r2, rfl, q2, rfl⟩⟩⟩, ⟨p0, p1, p2, -⟩, rfl, rfl⟩, k⟩ := h
  have ok : Ok F (fun H' O' => Lt Hb Mo H' O') [st (uD rd), st (uL uS t), st (uS x), .una, .una, .una, .una, .una] _ Hb F := Ok.start al ⟨_, _, [], [], rfl, rfl, ow_sh.mpr ⟨rfl, q0⟩, ⟨_, _, [], [], rfl, rfl, ow_sh.mpr ⟨rfl, q1⟩, ⟨_, _, [], [], rfl, rfl, ow_sh.mpr ⟨rfl, q2⟩, ⟨_, rfl, ⟨_, rfl, ⟨_, rfl, ⟨_, rfl, ⟨_, rfl, ⟨rfl, rfl⟩⟩⟩⟩⟩⟩⟩⟩⟩
  have zz : ∀ (H' : Hp) (O' : Addr → Prop), Lt Hb Mo H' O' → Lt Hb Mo H' O' := fun _ _ z => z
  have hu := hu_of hr
  refine ⟨_, (pss_cons (ps_set (i := 3) sc_counts_of.nd rfl (.inl rfl) (pe_lst (pa_cons (pe_lst (pa_cons pe_int pa_nil)) pa_nil)))
 (pss_cons (ps_for PassesOwn.never rfl (kpi_list (K := K) (pv 1)) (pg_name (i := 6) sc_counts_of.nd rfl (.inl rfl))
  (pss_cons (ps_par (i := 5) (j := 7) rfl sc_counts_of.nd rfl rfl (by decide) rfl rfl (pa_cons (pe_callO O_means_of hr (by rfl) pass0 (pa_cons (pv 0) (pa_cons (pv 6) pa_nil))) (pa_cons pe_dnewK pa_nil)) (by rfl))
 (pss_cons (ps_for PassesOwn.never rfl (kpi_list (K := K) (pe_ix (kix_list (K := K)) (pv 3) (pe_un un_neg pe_int) (fun _ _ => rfl))) (pg_name (i := 4) sc_counts_of.nd rfl (.inl rfl))
  (pss_cons (ps_if (pt_cmp (pc_din hu pe_str (pv 5)))
  (pss_one (ps_dput hu (pv 7) (pv 4) pe_bl rfl))
  pss_nil)
 (pss_one (ps_if (PW.pt (pw_and (pt_cmpR op_lt (pv 4) (pe_callB cb_lenS (by rfl) T.z_len (by decide +kernel) (pa_cons (pv 2) pa_nil)) (nomark _)) (pw_and1 (pt_cmp (pc_din hu (pe_ix ix_str (pv 2) (pv 4) (fun _ _ => rfl)) (pv 5))))))
  (pss_one (ps_dput hu (pv 7) (pe_op op_add (pv 4) pe_int) pe_bl rfl))
  pss_nil))))
 (pss_one (ps_expr (pe_bm PySem.F.plainAttrs_list PySem.F.slot_list_append PySem.F.type_list_append mt_append (pv 3) (pa_cons (pe_callB (cr_sortedDI rfl) (by rfl) T.z_sorted (by decide +kernel) (pa_cons (pv 7) pa_nil)) pa_nil)))))))
 (pss_one (ps_ret (pv 3))))), ?_⟩
  have hw := p0.w4
  have htl := p1.len
  refine b_asg (d := uL (uL uI) (cntP rd t x 0)) ok (EvP.is (p_lst (rs_cons (r_p ok.al (p_L (el_lst (emI_cons ev_c emI_nil) (by simp)))) rs_nil) (by simp)) rfl) fun M σ H ok => ?_
  refine b_for (fun i ρ => ∃ a b c d, ρ = [st (uD rd), st (uL uS t), st (uS x), mu (uL (uL uI) (cntP rd t x i)), a, b, c, d]) ok (j_listR (ok.r rfl)) ⟨_, _, _, _, rfl⟩ ?_ ?_
  · rintro Z1 z1 i r ρ M σ H hi ⟨a, b, c, d, rfl⟩ ok
    have hil := (List.getElem?_eq_some_iff.mp hi).1
    have hg : t.getD i [] = r := by rw [List.getD_eq_getElem?_getD, hi]; rfl
    have hr4 : r.length ≤ 4 := by have := isRow_len (p1.row r (List.mem_of_getElem? hi)); omega
    have hlast := cntP_last rd t x i
    have hcl := cnt_len (rd := rd) (t := t) (x := x) i
    have hfold : ∀ j, (((cntAt rd t x i).take j).foldl (cD rd x r) []).length ≤ 62 := fun j => by
      have := (cD_all rd x r ((cntAt rd t x i).take j) [] (by simp)).2.1
      rw [List.length_take] at this
      simp at this
      omega
    refine b_par (d2 := uDI uB []) ok (eo_means_of (ag_R (ok.ro rfl) (ag_R (r_ev (ok.ev rfl)) ag_nil)) hr4) (fun M σ H ok => (p_nilDI ed_new)) fun M σ H ok => ?_
    refine b_for (fun j ρ => ∃ a, ρ = [st (uD rd), st (uL uS t), st (uS x), mu (uL (uL uI) (cntP rd t x i)), a, mu (uD (meansL rd r)), st (uS r), mu (uDI uB (((cntAt rd t x i).take j).foldl (cD rd x r) []))]) ok (j_listR (r_last (f := (uL uI)) (ok.nx rfl rfl) (ev_neg ev_c) (by walk_at "side"))) ⟨_, rfl⟩ ?_ ?_
    · rintro Z2 z2 j m ρ M σ H hj ⟨a, rfl⟩ ok
      have hj0 : (cntAt rd t x i)[j]? = some m := hj
      have hmb := cnt_mem (List.mem_of_getElem? hj0)
      have hf := hfold j
      have hp := putIf_len (eB rd r) (((cntAt rd t x i).take j).foldl (cD rd x r) []) m
      have ok : Ok F Z2 [st (uD rd), st (uL uS t), st (uS x), mu (uL (uL uI) (cntP rd t x i)), st (uI m), mu (uD (meansL rd r)), st (uS r), mu (uDI uB (((cntAt rd t x i).take j).foldl (cD rd x r) []))] σ H M := ok
      have hs : ((cntAt rd t x i).take (j + 1)).foldl (cD rd x r) [] = cD rd x r (((cntAt rd t x i).take j).foldl (cD rd x r) []) m := by
        rw [List.take_succ, hj0]
        exact List.foldl_append
      refine b_whenJ (fun ρ => ρ = [st (uD rd), st (uL uS t), st (uS x), mu (uL (uL uI) (cntP rd t x i)), st (uI m), mu (uD (meansL rd r)), st (uS r), mu (uDI uB (putIf (eB rd r) (((cntAt rd t x i).take j).foldl (cD rd x r) []) m))]) (b := eB rd r) ok (et_B (ev_dinG (ev_cS lit_nil) (ok.dd rfl))) (fun hb M σ H ok kk => ?_) (fun hb => by rw [hb]; rfl) ?_
      · exact c_putI (f := uB) (b := true) ok rfl (r_ev ev_c) (ok.ev rfl) (by omega) fun M σ H ok => kk _ _ _ _ (by rw [hb]; rfl) ok
      · rintro ρ M σ H rfl ok
        refine c_when (b := decide (m < (x.length : Int)) && lB rd r (x.getD m.toNat 0)) ok (EvT.is (et_and (et_test (ev_lt (ok.ev rfl) (ev_lenS (ok.ev rfl) (by omega)))) (fun hb1 => (et_B (ev_dinG (ev_ixS (ok.ev rfl) (ok.ev rfl) (by omega) hmb.1 (of_decide_eq_true hb1)) (ok.dd rfl))))) rfl) (fun hb M σ H ok => ?_) (fun hb M σ H ok => ⟨_, _, ok, _, by rw [hs]; unfold cD; rw [hb]; rfl⟩)
        exact c_putI (f := uB) (b := true) ok rfl (r_ev ev_c) (ev_add (ok.ev rfl) ev_c) (by omega) fun M σ H ok => ⟨_, _, ok, _, by rw [hs]; unfold cD; rw [hb]; rfl⟩
    · rintro ρ M σ H ⟨a, rfl⟩ ok
      have ok : Ok F Z1 [st (uD rd), st (uL uS t), st (uS x), mu (uL (uL uI) (cntP rd t x i)), a, mu (uD (meansL rd r)), st (uS r), mu (uDI uB (((cntAt rd t x i).take (cntAt rd t x i).length).foldl (cD rd x r) []))] σ H M := ok
      have hf := hfold (cntAt rd t x i).length
      rw [List.take_length] at ok hf
      have hpm := cnt_perm (rd := rd) (t := t) (x := x) (i := i)
      rw [hg] at hpm
      exact c_app (x := cntAt rd t x (i + 1)) ok rfl (r_p ok.al (p_sortedDI (ok.nn rfl) (by omega) hpm ((cnt_inc (i + 1)).imp fun h => Int.le_of_lt h))) (by rw [cntP_len]; omega) fun M σ H ok => ⟨_, _, ok, _, _, _, _, by rw [cntP_succ]; rfl⟩
  · rintro ρ M σ H ⟨a, b, c, d, rfl⟩ ok
    exact c_retv ok rfl k zz
def R_Never___init__ (K : PySem.W.Frag) (mg : Str → Option Value) : (Addr → Prop) → List V → Hp → Addr → Dt → Pat → Prop := fun F vs H C d p => ∃ (cs : List (List Int)), AllP [isR F (uL (uL uI) cs)] vs H ∧ C = cA mg "Never" ∧ ((cs.length ≤ 40000) ∧ True) ∧ d = (uNever mg cs) ∧ p = (pN)
def sp_Never___init__ (K : PySem.W.Frag) (mg : Str → Option Value) : Sp := spI 1 (R_Never___init__ K mg)
theorem ev_new_Never {K : PySem.W.Frag} {mg : Str → Option Value} {σ : L2.St} {H : Hp} {tr : TA} {E : XK} {M : Addr → Prop} {cs : List (List Int)} (al : Al M H) (h : EvAG tr σ H [isR M (uL (uL uI) cs)]) (p0 : cs.length ≤ 40000) : EvP M (tMakeO (cA mg "Never") (sp_Never___init__ K mg) E tr) σ H (uNever mg cs) (pN) := p_makeR (ds := [uL (uL uI) cs]) al h rfl fun M vs H1 hp => ⟨cs, hp, rfl, ⟨p0, trivial⟩, rfl, rfl⟩
theorem eo_new_Never {K : PySem.W.Frag} {mg : Str → Option Value} {σ : L2.St} {H : Hp} {tr : TA} {E : XK} {M : Addr → Prop} {cs : List (List Int)} (h : EvAG tr σ H [isR Mo (uL (uL uI) cs)]) (p0 : cs.length ≤ 40000) : EvP M (tMakeO (cA mg "Never") (sp_Never___init__ K mg) E tr) σ H (uNever mg cs) (pN) := p_scal (ev_new_Never (Mo_al H) h p0) (scal_N)
theorem ok_Never___init__ (T : Txt K mg) : OkI P wW K mg base CX0 (cA mg "Never") 1 (sp_Never___init__ K mg) := by
  refine OkI.of T.i_Never sc_Never___init__ (fun vs H Q E h => h.1) (fun f cdv A outer s Hb vs Q E hr h => ?_)
  obtain ⟨-, F, x_, dx_, C, r_, d0, p0_, rfl, hx, al, nf, ⟨cs, ⟨v0, r0, rfl, q0, rfl⟩, rfl, ⟨p0, -⟩, rfl, rfl⟩, k⟩ := h
  have ok : Ok F (fun H' O' => Lt Hb (· = x_) H' O') [.own (.node (.i (cA mg "Never") []) []) (.fs []), st (uL (uL uI) cs), .una] _ Hb (Mb F [x_]) := Ok.startI al nf (by rw [hx]; simp) ⟨_, _, [x_], [], rfl, rfl, ow_new hx, ⟨_, _, [], [], rfl, rfl, ow_sh.mpr ⟨rfl, q0⟩, ⟨_, rfl, ⟨rfl, rfl⟩⟩⟩⟩
  have zz : ∀ (H' : Hp) (O' : Addr → Prop), Lt Hb (· = x_) H' O' → Lt Hb (· = x_) H' O' := fun _ _ z => z
  have hu := hu_of hr
  refine ⟨_, (pss_one (ps_fld (pv 0) (pe_lc (own := [("some", 2)]) (g := gName 2) rfl sc_Never___init__.nd (kpi_list (K := K) (pv 1)) (blkOk_by (N := N_Never___init__) (sc := defScope s_Never___init__) (by decide +kernel)) (fun _ _ _ _ _ => (pg_name (i := 2) sc_Never___init__.nd rfl (.inl rfl))) (fun _ _ _ _ _ => pts_nil) (fun _ _ _ _ _ => (pe_callTy (kct_list (K := K)) (by rfl) T.z_list (by decide +kernel) (pa_cons (pv 2) pa_nil)))) rfl)), ?_⟩
  refine c_fld ok rfl (p := .ow (.ow .sh)) (p_lc1 ok (j_listN (ok.nx rfl rfl)) (by walk_at "len") (by simp) (fun x69 hx69 M σ H ok => (p_list (ok.nx rfl rfl)))) T.k_Never.cl T.f_Never_counts (by decide +kernel) (by decide) fun M H ok => ?_
  exact c_endI (i := 0) (x := x_) ok rfl rfl k zz
def R_Stood___init__ (K : PySem.W.Frag) (mg : Str → Option Value) : (Addr → Prop) → List V → Hp → Addr → Dt → Pat → Prop := fun F vs H C d p => ∃ (tp : List Row), AllP [isR F (uL uS tp)] vs H ∧ C = cA mg "Stood" ∧ (True) ∧ d = (uStood mg tp) ∧ p = (pS)
def sp_Stood___init__ (K : PySem.W.Frag) (mg : Str → Option Value) : Sp := spI 1 (R_Stood___init__ K mg)
theorem ev_new_Stood {K : PySem.W.Frag} {mg : Str → Option Value} {σ : L2.St} {H : Hp} {tr : TA} {E : XK} {M : Addr → Prop} {tp : List Row} (al : Al M H) (h : EvAG tr σ H [isR M (uL uS tp)])  : EvP M (tMakeO (cA mg "Stood") (sp_Stood___init__ K mg) E tr) σ H (uStood mg tp) (pS) := p_makeR (ds := [uL uS tp]) al h rfl fun M vs H1 hp => ⟨tp, hp, rfl, trivial, rfl, rfl⟩
theorem eo_new_Stood {K : PySem.W.Frag} {mg : Str → Option Value} {σ : L2.St} {H : Hp} {tr : TA} {E : XK} {M : Addr → Prop} {tp : List Row} (h : EvAG tr σ H [isR Mo (uL uS tp)])  : EvP M (tMakeO (cA mg "Stood") (sp_Stood___init__ K mg) E tr) σ H (uStood mg tp) (pS) := p_scal (ev_new_Stood (Mo_al H) h ) (scal_S)
theorem ok_Stood___init__ (T : Txt K mg) : OkI P wW K mg base CX0 (cA mg "Stood") 1 (sp_Stood___init__ K mg) := by
  refine OkI.of T.i_Stood sc_Stood___init__ (fun vs H Q E h => h.1) (fun f cdv A outer s Hb vs Q E hr h => ?_)
  obtain ⟨-, F, x_, dx_, C, r_, d0, p0_, rfl, hx, al, nf, ⟨tp, ⟨v0, r0, rfl, q0, rfl⟩, rfl, -, rfl, rfl⟩, k⟩ := h
  have ok : Ok F (fun H' O' => Lt Hb (· = x_) H' O') [.own (.node (.i (cA mg "Stood") []) []) (.fs []), st (uL uS tp)] _ Hb (Mb F [x_]) := Ok.startI al nf (by rw [hx]; simp) ⟨_, _, [x_], [], rfl, rfl, ow_new hx, ⟨_, _, [], [], rfl, rfl, ow_sh.mpr ⟨rfl, q0⟩, ⟨rfl, rfl⟩⟩⟩
  have zz : ∀ (H' : Hp) (O' : Addr → Prop), Lt Hb (· = x_) H' O' → Lt Hb (· = x_) H' O' := fun _ _ z => z
  have hu := hu_of hr
  refine ⟨_, (pss_one (ps_fld (pv 0) (pe_callTy (kct_list (K := K)) (by rfl) T.z_list (by decide +kernel) (pa_cons (pv 1) pa_nil)) rfl)), ?_⟩
  refine c_fld ok rfl (p_list (ok.nx rfl rfl)) T.k_Stood.cl T.f_Stood_tape (by decide +kernel) (by decide) fun M H ok => ?_
  exact c_endI (i := 0) (x := x_) ok rfl rfl k zz
def R_elder (K : PySem.W.Frag) (mg : Str → Option Value) : (Addr → Prop) → List V → Hp → Dt → Pat → Prop := fun F vs H d p => ∃ (rd : Dic) (w : Nat) (t : List Row) (x : Row), AllP [isR F (uD rd), isR F (uL uS t), isR F (uS x), isR F (uL (uL uI) (countsL rd t x))] vs H ∧ ((RdOk rd w) ∧ (TpOk t w) ∧ (x.length ≤ 30) ∧ ((x.length : Int) ∈ cntAt rd t x t.length) ∧ True) ∧ d = (uL uS (elL rd t x)) ∧ p = (.ow .sh)
def sp_elder (K : PySem.W.Frag) (mg : Str → Option Value) : Sp := spR 4 (R_elder K mg)
theorem ev_elder {K : PySem.W.Frag} {mg : Str → Option Value} {σ : L2.St} {H : Hp} {tr : TA} {E : XK} {M : Addr → Prop} {rd : Dic} {w : Nat} {t : List Row} {x : Row} (al : Al M H) (h : EvAG tr σ H [isR M (uD rd), isR M (uL uS t), isR M (uS x), isR M (uL (uL uI) (countsL rd t x))]) (p0 : RdOk rd w) (p1 : TpOk t w) (p2 : x.length ≤ 30) (p3 : (x.length : Int) ∈ cntAt rd t x t.length) : EvP M (tCallO (sp_elder K mg) E tr) σ H (uL uS (elL rd t x)) (.ow .sh) := p_callR al h rfl fun vs H1 hp => ⟨rd, w, t, x, hp, ⟨p0, p1, p2, p3, trivial⟩, rfl, rfl⟩
theorem eo_elder {K : PySem.W.Frag} {mg : Str → Option Value} {σ : L2.St} {H : Hp} {tr : TA} {E : XK} {M : Addr → Prop} {rd : Dic} {w : Nat} {t : List Row} {x : Row} (h : EvAG tr σ H [isR Mo (uD rd), isR Mo (uL uS t), isR Mo (uS x), isR Mo (uL (uL uI) (countsL rd t x))]) (p0 : RdOk rd w) (p1 : TpOk t w) (p2 : x.length ≤ 30) (p3 : (x.length : Int) ∈ cntAt rd t x t.length) : EvP M (tCallO (sp_elder K mg) E tr) σ H (uL uS (elL rd t x)) (.ow .sh) := p_scal (ev_elder (Mo_al H) h p0 p1 p2 p3) (scal_LS)
theorem ok_elder (T : Txt K mg) : OkF P wW K mg base CX0 "elder" 4 (sp_elder K mg) := by
  have O_means_of : OkF P wW K mg base CX0 "means_of" 3 (sp_means_of K mg) := ok_means_of T
  refine OkF.of T.d_elder sc_elder (fun vs H Q E h => h.1) (fun f cdv A outer s Hb vs Q E hr h => ?_)
  obtain ⟨-, F, d0, p0_, al, ⟨rd, w, t, x, ⟨v0, r0, rfl, q0, ⟨v1, r1, rfl, q1, ⟨v2, r2, rfl, q2, ⟨v3, r3, rfl, q3, rfl⟩⟩⟩⟩, ⟨p0, p1, p2, p3, -⟩, rfl, rfl⟩, k⟩ := h
  have ok : Ok F (fun H' O' => Lt Hb Mo H' O') [st (uD rd), st (uL uS t), st (uS x), st (uL (uL uI) (countsL rd t x)), .una, .una, .una, .una] _ Hb F := Ok.start al ⟨_, _, [], [], rfl, rfl, ow_sh.mpr ⟨rfl, q0⟩, ⟨_, _, [], [], rfl, rfl, ow_sh.mpr ⟨rfl, q1⟩, ⟨_, _, [], [], rfl, rfl, ow_sh.mpr ⟨rfl, q2⟩, ⟨_, _, [], [], rfl, rfl, ow_sh.mpr ⟨rfl, q3⟩, ⟨_, rfl, ⟨_, rfl, ⟨_, rfl, ⟨_, rfl, ⟨rfl, rfl⟩⟩⟩⟩⟩⟩⟩⟩⟩
  have zz : ∀ (H' : Hp) (O' : Addr → Prop), Lt Hb Mo H' O' → Lt Hb Mo H' O' := fun _ _ z => z
  have hu := hu_of hr
  refine ⟨_, (pss_cons (ps_par (i := 5) (j := 6) rfl sc_elder.nd rfl rfl (by decide) rfl rfl (pa_cons (pe_lst pa_nil) (pa_cons (pe_callB cb_lenS (by rfl) T.z_len (by decide +kernel) (pa_cons (pv 2) pa_nil)) pa_nil)) (by rfl))
 (pss_cons (ps_for PassesOwn.never rfl (pi_rev1 rfl T.z_reversed rfl T.z_range (pe_callB (kcb_lenQ (K := K)) (by rfl) T.z_len (by decide +kernel) (pa_cons (pv 1) pa_nil))) (pg_name (i := 4) sc_elder.nd rfl (.inl rfl))
  (pss_cons (ps_set (i := 7) sc_elder.nd rfl (.inl rfl) (pe_callO O_means_of hr (by rfl) pass0 (pa_cons (pv 0) (pa_cons (pe_ix (kix_list (K := K)) (pv 1) (pv 4) (fun _ _ => rfl)) pa_nil))))
 (pss_one (ps_if (PW.pt (pw_and (pt_cmp (pc_din hu pe_str (pv 7))) (pw_and1 (pt_cmpR (kop_in (K := K)) (pv 6) (pe_ix (kix_list (K := K)) (pv 3) (pv 4) (fun _ _ => rfl)) rfl))))
  (pss_one (ps_expr (pe_bm PySem.F.plainAttrs_list PySem.F.slot_list_append PySem.F.type_list_append mt_append (pv 5) (pa_cons (pe_dget hu (pv 7) pe_str (fun _ _ => rfl)) pa_nil))))
  (pss_cons (ps_aug (i := 6) sc_elder.nd rfl (.inl rfl) pe_int ip_sub)
 (pss_one (ps_expr (pe_bm PySem.F.plainAttrs_list PySem.F.slot_list_append PySem.F.type_list_append mt_append (pv 5) (pa_cons (pe_dget hu (pv 7) (pe_ix ix_str (pv 2) (pv 6) (fun _ _ => rfl)) (fun _ _ => rfl)) pa_nil)))))))))
 (pss_one (ps_ret (kpe_revL (K := K) (pv 5)))))), ?_⟩
  have hw := p0.w4
  have htl := p1.len
  have hcl : (countsL rd t x).length = t.length + 1 := cntP_len rd t x t.length
  refine b_par (d := uL uS []) (p := .ow .sh) ok (p_lst (ds := []) rs_nil (by simp)) (fun M σ H ok => (p_ev (ev_lenS (ok.ev rfl) (by walk_at "side")))) fun M σ H ok => ?_
  refine b_for (fun j ρ => ∃ a b f m, ρ = [st (uD rd), st (uL uS t), st (uS x), st (uL (uL uI) (countsL rd t x)), a, mu (uL uS f), st (uI (m : Nat)), b] ∧ m ≤ x.length ∧ (m : Int) ∈ cntAt rd t x (t.length - j) ∧ f.length = j ∧ elL rd t x = elAt rd t x (t.length - j) m ++ f.reverse) ok (j_rev1 (ev_lenQ (ok.q rfl)) (by walk_at "rng")) ⟨_, _, [], x.length, rfl, Nat.le_refl _, p3, rfl, by simp [elL]⟩ ?_ ?_
  · rintro Z1 z1 j j' ρ M σ H hj ⟨a, b, f, m, rfl, hm, hmc, hfl, htp⟩ ok
    have hj2 : j' = j ∧ j < t.length := by
      obtain ⟨h1, h2⟩ := List.getElem?_eq_some_iff.mp hj
      rw [List.length_range] at h1
      rw [List.getElem_range] at h2
      exact ⟨h2.symm, by omega⟩
    obtain ⟨rfl, hjl⟩ := hj2
    obtain ⟨i, hi⟩ : ∃ i, t.length - j' = i + 1 := ⟨t.length - j' - 1, by omega⟩
    have hii : (t.length : Int) - 1 - (j' : Int) = (i : Int) := by omega
    rw [hii] at ok
    have hil : i < t.length := by omega
    rw [hi] at htp hmc
    have hrm : t.getD i [] ∈ t := by rw [List.getD_eq_getElem?_getD, List.getElem?_eq_getElem hil]; exact List.getElem_mem _
    have hr4 : (t.getD i []).length ≤ 4 := by have := isRow_len (p1.row _ hrm); omega
    have hnx : t.length - (j' + 1) = i := by omega
    refine b_asg (d := uD (meansL rd (t.getD (i : Int).toNat []))) ok (eo_means_of (ag_R (ok.ro rfl) (ag_R (r_ev (ev_ixQ ([] : Row) (ok.q rfl) (ok.ev rfl) (by omega) (by omega))) ag_nil)) hr4) fun M σ H ok => ?_
    have ok : Ok F Z1 [st (uD rd), st (uL uS t), st (uS x), st (uL (uL uI) (countsL rd t x)), st (uI (i : Nat)), mu (uL uS f), st (uI (m : Nat)), mu (uD (meansL rd (t.getD i [])))] σ H M := ok
    have hdn := fun h => cnt_down (rd := rd) (t := t) (x := x) (i := i) (m := m) hmc h
    have hel : elAt rd t x (i + 1) m = if eB rd (t.getD i []) && decide ((m : Int) ∈ cntAt rd t x i) then elAt rd t x i m ++ [fstB rd (t.getD i []) []] else elAt rd t x i (m - 1) ++ [fstB rd (t.getD i []) [x.getD (m - 1) 0]] := rfl
    generalize t.getD i [] = r at hr4 ok hdn hel
    have ok : Ok F Z1 [st (uD rd), st (uL uS t), st (uS x), st (uL (uL uI) (countsL rd t x)), st (uI (i : Nat)), mu (uL uS f), st (uI (m : Nat)), mu (uD (meansL rd r))] σ H M := ok
    refine c_if (b := eB rd r && decide ((m : Int) ∈ cntAt rd t x i)) ok (EvT.is (et_and (et_B (ev_dinG (ev_cS lit_nil) (ok.dd rfl))) (fun hb1 => (et_test (ev_inI (ok.ev rfl) (q_r (r_ixL (f := (uL uI)) [] (ok.nx rfl rfl) (ok.ev rfl) (by omega) (by omega))))))) ?_) (fun hb M σ H ok => ?_) (fun hb M σ H ok => ?_)
    · rw [show (countsL rd t x).getD (i : Int).toNat [] = cntAt rd t x i from cntP_at (by omega)]
      rfl
    · have hb2 := hb
      rw [Bool.and_eq_true, decide_eq_true_eq] at hb2
      refine c_app (x := fstB rd r []) ok rfl (EvR.is (r_ev (ev_dgetG (ok.dd rfl) (ev_cS lit_nil) hb2.1)) rfl) (by omega) fun M σ H ok => ⟨_, _, ok, _, _, f ++ [fstB rd r []], m, rfl, hm, by rw [hnx]; exact hb2.2, by simp [hfl], ?_⟩
      rw [htp, hel, hb, hnx]
      simp
    · obtain ⟨h0, hc, hl⟩ := hdn hb
      refine b_aug ok rfl ev_c fun M σ H ok => ?_
      have hm1 : ((m : Int) - 1).toNat = m - 1 := by omega
      refine c_app (x := fstB rd r [x.getD (m - 1) 0]) ok rfl (EvR.is (r_ev (ev_dgetG (ok.dd rfl) (ev_ixS (ok.ev rfl) (ok.ev rfl) (by omega) (by omega) (by omega)) (by rw [hm1]; exact hl))) (by rw [hm1]; rfl)) (by omega) fun M σ H ok => ⟨_, _, ok, _, _, f ++ [fstB rd r [x.getD (m - 1) 0]], m - 1, by rw [show ((m - 1 : Nat) : Int) = (m : Int) - 1 by omega]; rfl, by omega, by rw [hnx]; exact hc, by simp [hfl], ?_⟩
      rw [htp, hel, hb, hnx]
      simp
  · rintro ρ M σ H ⟨a, b, f, m, rfl, hm, hmc, hfl, htp⟩ ok
    have htp : elL rd t x = elAt rd t x (t.length - (List.range (t.length : Int).toNat).length) m ++ f.reverse := htp
    rw [List.length_range, show t.length - (t.length : Int).toNat = 0 by omega] at htp
    exact c_ret ok (EvP.is (p_revL (ok.nx rfl rfl)) (by rw [htp]; rfl)) k zz
def R_stood_of (K : PySem.W.Frag) (mg : Str → Option Value) : (Addr → Prop) → List V → Hp → Dt → Pat → Prop := fun F vs H d p => ∃ (rd : Dic) (w : Nat) (t : List Row) (x : Row), AllP [isR F (uD rd), isR F (uL uS t), isR F (uS x)] vs H ∧ ((RdOk rd w) ∧ (TpOk t w) ∧ (x.length ≤ 30) ∧ True) ∧ d = (stD mg rd t x) ∧ p = (stP rd t x)
def sp_stood_of (K : PySem.W.Frag) (mg : Str → Option Value) : Sp := spR 3 (R_stood_of K mg)
theorem ev_stood_of {K : PySem.W.Frag} {mg : Str → Option Value} {σ : L2.St} {H : Hp} {tr : TA} {E : XK} {M : Addr → Prop} {rd : Dic} {w : Nat} {t : List Row} {x : Row} (al : Al M H) (h : EvAG tr σ H [isR M (uD rd), isR M (uL uS t), isR M (uS x)]) (p0 : RdOk rd w) (p1 : TpOk t w) (p2 : x.length ≤ 30) : EvP M (tCallO (sp_stood_of K mg) E tr) σ H (stD mg rd t x) (stP rd t x) := p_callR al h rfl fun vs H1 hp => ⟨rd, w, t, x, hp, ⟨p0, p1, p2, trivial⟩, rfl, rfl⟩
theorem eo_stood_of {K : PySem.W.Frag} {mg : Str → Option Value} {σ : L2.St} {H : Hp} {tr : TA} {E : XK} {M : Addr → Prop} {rd : Dic} {w : Nat} {t : List Row} {x : Row} (h : EvAG tr σ H [isR Mo (uD rd), isR Mo (uL uS t), isR Mo (uS x)]) (p0 : RdOk rd w) (p1 : TpOk t w) (p2 : x.length ≤ 30) : EvP M (tCallO (sp_stood_of K mg) E tr) σ H (stD mg rd t x) (stP rd t x) := p_scal (ev_stood_of (Mo_al H) h p0 p1 p2) (scal_st)
theorem ok_stood_of (T : Txt K mg) : OkF P wW K mg base CX0 "stood_of" 5 (sp_stood_of K mg) := by
  have O_counts_of : OkF P wW K mg base CX0 "counts_of" 4 (sp_counts_of K mg) := ok_counts_of T
  have O_Never___init__ : OkI P wW K mg base CX0 (cA mg "Never") 1 (sp_Never___init__ K mg) := ok_Never___init__ T
  have O_Stood___init__ : OkI P wW K mg base CX0 (cA mg "Stood") 1 (sp_Stood___init__ K mg) := ok_Stood___init__ T
  have O_elder : OkF P wW K mg base CX0 "elder" 4 (sp_elder K mg) := ok_elder T
  refine OkF.of T.d_stood_of sc_stood_of (fun vs H Q E h => h.1) (fun f cdv A outer s Hb vs Q E hr h => ?_)
  obtain ⟨-, F, d0, p0_, al, ⟨rd, w, t, x, ⟨v0, r0, rfl, q0, ⟨v1, r1, rfl, q1, ⟨v2, r2, rfl, q2, rfl⟩⟩⟩, ⟨p0, p1, p2, -⟩, rfl, rfl⟩, k⟩ := h
  have ok : Ok F (fun H' O' => Lt Hb Mo H' O') [st (uD rd), st (uL uS t), st (uS x), .una] _ Hb F := Ok.start al ⟨_, _, [], [], rfl, rfl, ow_sh.mpr ⟨rfl, q0⟩, ⟨_, _, [], [], rfl, rfl, ow_sh.mpr ⟨rfl, q1⟩, ⟨_, _, [], [], rfl, rfl, ow_sh.mpr ⟨rfl, q2⟩, ⟨_, rfl, ⟨rfl, rfl⟩⟩⟩⟩⟩
  have zz : ∀ (H' : Hp) (O' : Addr → Prop), Lt Hb Mo H' O' → Lt Hb Mo H' O' := fun _ _ z => z
  have hu := hu_of hr
  refine ⟨_, (pss_cons (ps_set (i := 3) sc_stood_of.nd rfl (.inl rfl) (pe_callO O_counts_of hr (by rfl) pass0 (pa_cons (pv 0) (pa_cons (pv 1) (pa_cons (pv 2) pa_nil)))))
 (pss_cons (ps_if (pt_cmpR (kop_in (K := K)) (pe_callB cb_lenS (by rfl) T.z_len (by decide +kernel) (pa_cons (pv 2) pa_nil)) (pe_ix (kix_list (K := K)) (pv 3) (pe_un un_neg pe_int) (fun _ _ => rfl)) rfl)
  (pss_one (ps_ret (pe_makeO O_Stood___init__ T.k_Stood.at_ hr (by rfl) pass0 (pa_cons (pe_callO O_elder hr (by rfl) pass0 (pa_cons (pv 0) (pa_cons (pv 1) (pa_cons (pv 2) (pa_cons (pv 3) pa_nil))))) pa_nil))))
  pss_nil)
 (pss_one (ps_ret (pe_makeO O_Never___init__ T.k_Never.at_ hr (by rfl) pass0 (pa_cons (pv 3) pa_nil)))))), ?_⟩
  have hlast : (countsL rd t x).getLast? = some (cntAt rd t x t.length) := cntP_last rd t x t.length
  have hcl : (countsL rd t x).length = t.length + 1 := cntP_len rd t x t.length
  have htl := p1.len
  refine b_asg ok (ev_counts_of ok.al (ag_R (ok.r rfl) (ag_R (ok.r rfl) (ag_R (r_ev (ok.ev rfl)) ag_nil))) p0 p1 p2) fun M σ H ok => ?_
  refine b_when (b := stB rd t x) ok (EvT.is (et_test (ev_inI (ev_lenS (ok.ev rfl) (by omega)) (q_r (r_last (f := (uL uI)) (ok.nx rfl rfl) (ev_neg ev_c) hlast)))) rfl) (fun hb M σ H ok => ?_) (fun hb M σ H ok => ?_)
  · unfold stD stP at k
    rw [hb] at k
    exact c_ret ok (eo_new_Stood (ag_R (r_o (r_p ok.al (eo_elder (ag_R (ok.ro rfl) (ag_R (ok.ro rfl) (ag_R (r_ev (ok.ev rfl)) (ag_R (ok.ro rfl) ag_nil)))) p0 p1 p2 (of_decide_eq_true hb)))) ag_nil)) k zz
  unfold stD stP at k
  rw [hb] at k
  exact c_ret ok (eo_new_Never (ag_R (ok.ro rfl) ag_nil) (by omega)) k zz
def R_Punch_once (K : PySem.W.Frag) (mg : Str → Option Value) : (Addr → Prop) → List V → Hp → Dt → Pat → Prop := fun F vs H d p => ∃ (rd : Dic) (w : Nat) (t : List Row) (x : Row) (n : Int), AllP [isR F (uPunch mg w rd t n), isR F (uS x)] vs H ∧ ((RdOk rd w) ∧ (TpOk t w) ∧ (TxOk x) ∧ True) ∧ d = (Dt.sc (.bl (stB rd t x))) ∧ p = .sh
def sp_Punch_once (K : PySem.W.Frag) (mg : Str → Option Value) : Sp := spR 2 (R_Punch_once K mg)
theorem ev_Punch_once {K : PySem.W.Frag} {mg : Str → Option Value} {σ : L2.St} {H : Hp} {tr : TA} {E : XK} {rd : Dic} {w : Nat} {t : List Row} {x : Row} {n : Int} {sel : Addr → Sp → Prop} (hsel_ : sel (cA mg "Punch") (sp_Punch_once K mg)) {ta : TE} (h0 : EvR Mo ta σ H (uPunch mg w rd t n)) (h : EvAG tr σ H [isR Mo (uS x)]) (p0 : RdOk rd w) (p1 : TpOk t w) (p2 : TxOk x) : Ev (tMethU sel "once" E ta tr) σ H (.bl (stB rd t x)) := ev_p (M := Mo) (p := .sh) (p_methR (Mo_al H) h0 h hsel_ (by decide +kernel) rfl fun vs H1 hp => ⟨rd, w, t, x, n, hp, ⟨p0, p1, p2, trivial⟩, rfl, rfl⟩)
theorem ok_Punch_once (T : Txt K mg) : OkM P wW K mg base CX0 (cA mg "Punch") "once" 6 (sp_Punch_once K mg) := by
  have O_check_text : OkF P wW K mg base CX0 "check_text" 1 (sp_check_text K) := ok_check_text T
  have O_stood_of : OkF P wW K mg base CX0 "stood_of" 5 (sp_stood_of K mg) := ok_stood_of T
  refine OkM.of T.m_Punch_once sc_Punch_once (fun vs H Q E h => h.1) (fun f cdv A outer s Hb vs Q E hr h => ?_)
  obtain ⟨-, F, d0, p0_, al, ⟨rd, w, t, x, n, ⟨v0, r0, rfl, q0, ⟨v1, r1, rfl, q1, rfl⟩⟩, ⟨p0, p1, p2, -⟩, rfl, rfl⟩, k⟩ := h
  have ok : Ok F (fun H' O' => Lt Hb Mo H' O') [st (uPunch mg w rd t n), st (uS x)] _ Hb F := Ok.start al ⟨_, _, [], [], rfl, rfl, ow_sh.mpr ⟨rfl, q0⟩, ⟨_, _, [], [], rfl, rfl, ow_sh.mpr ⟨rfl, q1⟩, ⟨rfl, rfl⟩⟩⟩
  have zz : ∀ (H' : Hp) (O' : Addr → Prop), Lt Hb Mo H' O' → Lt Hb Mo H' O' := fun _ _ z => z
  have hu := hu_of hr
  refine ⟨_, (pss_cons (ps_expr (pe_callO O_check_text hr (by rfl) pass0 (pa_cons (pv 1) pa_nil)))
 (pss_one (ps_ret (pe_callB (kcall_isi (K := K)) (by rfl) T.z_isinstance (by decide +kernel) (pa_cons (pe_callO O_stood_of hr (by rfl) pass0 (pa_cons (pe_fld (pv 0) rfl) (pa_cons (pe_fld (pv 0) rfl) (pa_cons (pv 1) pa_nil)))) (pa_cons (pe_glob (v := .ref (cA mg "Stood")) (by rfl) T.k_Stood.at_ rfl) pa_nil)))))), ?_⟩
  refine b_drop ok (p_ev (ev_check_text (ag_V (ok.ev rfl) ag_nil) (by walk_at "side"))) fun M σ H ok => ?_
  cases hB : stB rd t x with
  | true =>
    have e1 : stD mg rd t x = uStood mg (elL rd t x) := by unfold stD; rw [hB]; rfl
    rw [hB] at k
    exact c_ret ok (p_ev (ev_isiO (n_p ok.al (EvP.is (eo_stood_of (ag_R (r_o (EvR.is (r_fld (ns := ["width", "reader", "rows", "made"]) uN (ok.nn rfl) T.k_Punch.cl T.f_Punch_reader 1 rfl (by decide +kernel) rfl) (by rfl))) (ag_R (r_o (EvR.is (r_fld (ns := ["width", "reader", "rows", "made"]) uN (ok.nn rfl) T.k_Punch.cl T.f_Punch_rows 2 rfl (by decide +kernel) rfl) (by rfl))) (ag_R (r_ev (ok.ev rfl)) ag_nil))) p0 p1 p2.len) e1)) T.k_Stood ev_c (.own _) T.q_Stood_Stood)) k zz
  | false =>
    have e1 : stD mg rd t x = uNever mg (countsL rd t x) := by unfold stD; rw [hB]; rfl
    rw [hB] at k
    exact c_ret ok (p_ev (ev_isiO (n_p ok.al (EvP.is (eo_stood_of (ag_R (r_o (EvR.is (r_fld (ns := ["width", "reader", "rows", "made"]) uN (ok.nn rfl) T.k_Punch.cl T.f_Punch_reader 1 rfl (by decide +kernel) rfl) (by rfl))) (ag_R (r_o (EvR.is (r_fld (ns := ["width", "reader", "rows", "made"]) uN (ok.nn rfl) T.k_Punch.cl T.f_Punch_rows 2 rfl (by decide +kernel) rfl) (by rfl))) (ag_R (r_ev (ok.ev rfl)) ag_nil))) p0 p1 p2.len) e1)) T.k_Never ev_c (.own _) T.q_Never_Stood)) k zz
def sel_once (K : PySem.W.Frag) (mg : Str → Option Value) : Addr → Sp → Prop := fun C sp => (C = cA mg "Punch" ∧ sp = sp_Punch_once K mg)
theorem hsel_once (T : Txt K mg) : ∀ C sp, sel_once K mg C sp → Cls K C ∧ OkM P wW K mg base CX0 C "once" 6 sp := by
  intro C sp h
  obtain ⟨rfl, rfl⟩ := h
  · exact ⟨T.k_Punch.cl, (ok_Punch_once T).mono (by decide)⟩
def R_text_of (K : PySem.W.Frag) : List V → Hp → V → Prop := fun vs H z => ∃ (rd : Dic) (w : Nat) (t : List Row), AllP [isD (DS rd), isL K (Txts t)] vs H ∧ ((RdOk rd w) ∧ (t.length ≤ 40000) ∧ True) ∧ z = VS (textOf rd t)
def sp_text_of (K : PySem.W.Frag) : Sp := spV  2 (R_text_of K)
theorem ev_text_of {K : PySem.W.Frag} {σ : L2.St} {H : Hp} {tr : TA} {E : XK} {rd : Dic} {w : Nat} {t : List Row} (h : EvAG tr σ H [isD (DS rd), isL K (Txts t)]) (p0 : RdOk rd w) (p1 : t.length ≤ 40000) : Ev (tCallO (sp_text_of K) E tr) σ H (VS (textOf rd t)) := ev_callG h rfl fun vs H1 e hp => ⟨rd, w, t, hp, ⟨p0, p1, trivial⟩, rfl⟩
theorem ok_text_of (T : Txt K mg) : OkF P wW K mg base CX0 "text_of" 2 (sp_text_of K) := by
  have O_meaning : OkF P wW K mg base CX0 "meaning" 1 (sp_meaning K) := ok_meaning T
  refine OkF.of T.d_text_of sc_text_of (fun vs H Q E h => h.1) (fun f cdv A outer s H vs Q E hr h => ?_)
  obtain ⟨-, z, H0, e0, ⟨rd, w, t, ⟨v0, r0, rfl, ⟨a0, rfl, q0⟩, ⟨v1, r1, rfl, ⟨a1, rfl, q1⟩, rfl⟩⟩, ⟨p0, p1, -⟩, rfl⟩, k⟩ := h
  have h0 := exh e0 q0
  clear q0
  have h1 := exl e0 q1
  clear q1
  clear e0 H0
  have hu := hu_of hr
  refine ⟨_, (pss_one (ps_ret (kpe_joinQ (K := K) pe_str (pe_lc (own := [("row", 2)]) (g := gName 2) rfl sc_text_of.nd (kpi_list (K := K) (pv 1)) (blkOk_by (N := N_text_of) (sc := defScope s_text_of) (by decide +kernel)) (fun _ _ _ _ _ => (pg_name (i := 2) sc_text_of.nd rfl (.inl rfl))) (fun _ _ _ _ _ => pts_nil) (fun _ _ _ _ _ => (pe_callO O_meaning hr (by rfl) pass0 (pa_cons (pv 0) (pa_cons (pv 2) pa_nil)))))))), ?_⟩
  have hz : (t.map (mean rd)).flatten.length ≤ 100000 := by have := textOf_len p0 t; omega
  exact s_ret2 (Ev.is (ev_joinQ (ev_cS lit_nil) (q_new (el_lc1 (i_list (qa_old (ev_var rfl) (by walk_at "fact") trivial)) (by walk_at "len") (fun _ => wipe_one _ _ _) (fun x71 hx71 H171 e171 => (ev_meaning (ag_D (g_Dold (ev_var rfl) (by walk_at "facth")) (ag_V (ev_var rfl) ag_nil)))))) (by walk_at "len")) rfl) k
def R_Punch_text (K : PySem.W.Frag) (mg : Str → Option Value) : (Addr → Prop) → List V → Hp → Dt → Pat → Prop := fun F vs H d p => ∃ (rd : Dic) (w : Nat) (t : List Row) (n : Int), AllP [isR F (uPunch mg w rd t n)] vs H ∧ ((RdOk rd w) ∧ (t.length ≤ 40000) ∧ True) ∧ d = (Dt.sc (VS (textOf rd t))) ∧ p = .sh
def sp_Punch_text (K : PySem.W.Frag) (mg : Str → Option Value) : Sp := spR 1 (R_Punch_text K mg)
theorem ev_Punch_text {K : PySem.W.Frag} {mg : Str → Option Value} {σ : L2.St} {H : Hp} {tr : TA} {E : XK} {rd : Dic} {w : Nat} {t : List Row} {n : Int} {sel : Addr → Sp → Prop} (hsel_ : sel (cA mg "Punch") (sp_Punch_text K mg)) {ta : TE} (h0 : EvR Mo ta σ H (uPunch mg w rd t n)) (h : EvAG tr σ H []) (p0 : RdOk rd w) (p1 : t.length ≤ 40000) : Ev (tMethU sel "text" E ta tr) σ H (VS (textOf rd t)) := ev_p (M := Mo) (p := .sh) (p_methR (Mo_al H) h0 h hsel_ (by decide +kernel) rfl fun vs H1 hp => ⟨rd, w, t, n, hp, ⟨p0, p1, trivial⟩, rfl, rfl⟩)
theorem ok_Punch_text (T : Txt K mg) : OkM P wW K mg base CX0 (cA mg "Punch") "text" 3 (sp_Punch_text K mg) := by
  have O_text_of : OkF P wW K mg base CX0 "text_of" 2 (sp_text_of K) := ok_text_of T
  refine OkM.of T.m_Punch_text sc_Punch_text (fun vs H Q E h => h.1) (fun f cdv A outer s Hb vs Q E hr h => ?_)
  obtain ⟨-, F, d0, p0_, al, ⟨rd, w, t, n, ⟨v0, r0, rfl, q0, rfl⟩, ⟨p0, p1, -⟩, rfl, rfl⟩, k⟩ := h
  have ok : Ok F (fun H' O' => Lt Hb Mo H' O') [st (uPunch mg w rd t n)] _ Hb F := Ok.start al ⟨_, _, [], [], rfl, rfl, ow_sh.mpr ⟨rfl, q0⟩, ⟨rfl, rfl⟩⟩
  have zz : ∀ (H' : Hp) (O' : Addr → Prop), Lt Hb Mo H' O' → Lt Hb Mo H' O' := fun _ _ z => z
  have hu := hu_of hr
  refine ⟨_, (pss_one (ps_ret (pe_callO O_text_of hr (by rfl) pass0 (pa_cons (pe_fld (pv 0) rfl) (pa_cons (pe_fld (pv 0) rfl) pa_nil))))), ?_⟩
  exact c_ret ok (p_ev (ev_text_of (ag_D (d_n (r_n (EvR.is (r_fld (ns := ["width", "reader", "rows", "made"]) uN (ok.nx rfl rfl) T.k_Punch.cl T.f_Punch_reader 1 rfl (by decide +kernel) rfl) (by rfl)))) (ag_L (q_r (EvR.is (r_fld (ns := ["width", "reader", "rows", "made"]) uN (ok.nx rfl rfl) T.k_Punch.cl T.f_Punch_rows 2 rfl (by decide +kernel) rfl) (by rfl))) ag_nil)) p0 p1)) k zz
def sel_text (K : PySem.W.Frag) (mg : Str → Option Value) : Addr → Sp → Prop := fun C sp => (C = cA mg "Punch" ∧ sp = sp_Punch_text K mg)
theorem hsel_text (T : Txt K mg) : ∀ C sp, sel_text K mg C sp → Cls K C ∧ OkM P wW K mg base CX0 C "text" 3 sp := by
  intro C sp h
  obtain ⟨rfl, rfl⟩ := h
  · exact ⟨T.k_Punch.cl, (ok_Punch_text T).mono (by decide)⟩
def R_Punch_took (K : PySem.W.Frag) (mg : Str → Option Value) : (Addr → Prop) → List V → Hp → Dt → Pat → Prop := fun F vs H d p => ∃ (rd : Dic) (w : Nat) (t : List Row) (n : Int), AllP [isR F (uPunch mg w rd t n)] vs H ∧ (True) ∧ d = (Dt.sc (.int n)) ∧ p = .sh
def sp_Punch_took (K : PySem.W.Frag) (mg : Str → Option Value) : Sp := spR 1 (R_Punch_took K mg)
theorem ev_Punch_took {K : PySem.W.Frag} {mg : Str → Option Value} {σ : L2.St} {H : Hp} {tr : TA} {E : XK} {rd : Dic} {w : Nat} {t : List Row} {n : Int} {sel : Addr → Sp → Prop} (hsel_ : sel (cA mg "Punch") (sp_Punch_took K mg)) {ta : TE} (h0 : EvR Mo ta σ H (uPunch mg w rd t n)) (h : EvAG tr σ H [])  : Ev (tMethU sel "took" E ta tr) σ H (.int n) := ev_p (M := Mo) (p := .sh) (p_methR (Mo_al H) h0 h hsel_ (by decide +kernel) rfl fun vs H1 hp => ⟨rd, w, t, n, hp, trivial, rfl, rfl⟩)
theorem ok_Punch_took (T : Txt K mg) : OkM P wW K mg base CX0 (cA mg "Punch") "took" 1 (sp_Punch_took K mg) := by
  refine OkM.of T.m_Punch_took sc_Punch_took (fun vs H Q E h => h.1) (fun f cdv A outer s Hb vs Q E hr h => ?_)
  obtain ⟨-, F, d0, p0_, al, ⟨rd, w, t, n, ⟨v0, r0, rfl, q0, rfl⟩, -, rfl, rfl⟩, k⟩ := h
  have ok : Ok F (fun H' O' => Lt Hb Mo H' O') [st (uPunch mg w rd t n)] _ Hb F := Ok.start al ⟨_, _, [], [], rfl, rfl, ow_sh.mpr ⟨rfl, q0⟩, ⟨rfl, rfl⟩⟩
  have zz : ∀ (H' : Hp) (O' : Addr → Prop), Lt Hb Mo H' O' → Lt Hb Mo H' O' := fun _ _ z => z
  have hu := hu_of hr
  refine ⟨_, (pss_one (ps_ret (pe_fld (pv 0) rfl))), ?_⟩
  exact c_ret ok (p_ev (ev_r (EvR.is (r_fld (ns := ["width", "reader", "rows", "made"]) uN (ok.nx rfl rfl) T.k_Punch.cl T.f_Punch_made 3 rfl (by decide +kernel) rfl) (by rfl)))) k zz
def sel_took (K : PySem.W.Frag) (mg : Str → Option Value) : Addr → Sp → Prop := fun C sp => (C = cA mg "Punch" ∧ sp = sp_Punch_took K mg)
theorem hsel_took (T : Txt K mg) : ∀ C sp, sel_took K mg C sp → Cls K C ∧ OkM P wW K mg base CX0 C "took" 1 sp := by
  intro C sp h
  obtain ⟨rfl, rfl⟩ := h
  · exact ⟨T.k_Punch.cl, (ok_Punch_took T).mono (by decide)⟩
def R__law_can_have (K : PySem.W.Frag) (mg : Str → Option Value) : (Addr → Prop) → List V → Hp → Dt → Pat → Prop := fun F vs H d p => ∃ (rd : Dic) (w : Nat) (t : List Row) (x : Row), AllP [isR F (uD rd), isR F (uL uS t), isR F (uS x)] vs H ∧ ((RdOk rd w) ∧ (TpOk t w) ∧ (x.length ≤ 30) ∧ True) ∧ d = (Dt.sc (.bl (stB rd t x))) ∧ p = .sh
def sp__law_can_have (K : PySem.W.Frag) (mg : Str → Option Value) : Sp := spR 3 (R__law_can_have K mg)
theorem ev__law_can_have {K : PySem.W.Frag} {mg : Str → Option Value} {σ : L2.St} {H : Hp} {tr : TA} {E : XK} {rd : Dic} {w : Nat} {t : List Row} {x : Row} (h : EvAG tr σ H [isR Mo (uD rd), isR Mo (uL uS t), isR Mo (uS x)]) (p0 : RdOk rd w) (p1 : TpOk t w) (p2 : x.length ≤ 30) : Ev (tCallO (sp__law_can_have K mg) E tr) σ H (.bl (stB rd t x)) := ev_p (M := Mo) (p := .sh) (p_callR (Mo_al H) h rfl fun vs H1 hp => ⟨rd, w, t, x, hp, ⟨p0, p1, p2, trivial⟩, rfl, rfl⟩)
theorem ok__law_can_have (T : Txt K mg) : OkF P wW K mg base CX0 "_law_can_have" 2 (sp__law_can_have K mg) := by
  have O__law_means : OkF P wW K mg base CX0 "_law_means" 1 (sp__law_means K) := ok__law_means T
  have O__law_rows : OkF P wW K mg base CX0 "_law_rows" 1 (sp__law_rows K) := ok__law_rows T
  have O__law_over : OkF P wW K mg base CX0 "_law_over" 1 (sp__law_over K) := ok__law_over T
  refine OkF.of T.d__law_can_have sc__law_can_have (fun vs H Q E h => h.1) (fun f cdv A outer s Hb vs Q E hr h => ?_)
  obtain ⟨-, F, d0, p0_, al, ⟨rd, w, t, x, ⟨v0, r0, rfl, q0, ⟨v1, r1, rfl, q1, ⟨v2, r2, rfl, q2, rfl⟩⟩⟩, ⟨p0, p1, p2, -⟩, rfl, rfl⟩, k⟩ := h
  have ok : Ok F (fun H' O' => Lt Hb Mo H' O') [st (uD rd), st (uL uS t), st (uS x), .una, .una, .una, .una, .una, .una] _ Hb F := Ok.start al ⟨_, _, [], [], rfl, rfl, ow_sh.mpr ⟨rfl, q0⟩, ⟨_, _, [], [], rfl, rfl, ow_sh.mpr ⟨rfl, q1⟩, ⟨_, _, [], [], rfl, rfl, ow_sh.mpr ⟨rfl, q2⟩, ⟨_, rfl, ⟨_, rfl, ⟨_, rfl, ⟨_, rfl, ⟨_, rfl, ⟨_, rfl, ⟨rfl, rfl⟩⟩⟩⟩⟩⟩⟩⟩⟩⟩
  have zz : ∀ (H' : Hp) (O' : Addr → Prop), Lt Hb Mo H' O' → Lt Hb Mo H' O' := fun _ _ z => z
  have hu := hu_of hr
  refine ⟨_, (pss_cons (ps_set (i := 6) sc__law_can_have.nd rfl (.inl rfl) (pe_lst (pa_cons pe_int pa_nil)))
 (pss_cons (ps_for PassesOwn.never rfl (kpi_list (K := K) (pv 1)) (pg_name (i := 5) sc__law_can_have.nd rfl (.inr rfl))
  (pss_cons (ps_set (i := 3) sc__law_can_have.nd rfl (.inr rfl) (pe_lc (own := [("_law_other", 7)]) (g := gName 7) rfl sc__law_can_have.nd (kpi_list (K := K) (pe_callO O__law_rows hr (by rfl) pass0 (pa_cons (pe_callB cb_lenS (by rfl) T.z_len (by decide +kernel) (pa_cons (pv 5) pa_nil)) pa_nil))) (blkOk_by (N := N__law_can_have) (sc := defScope s__law_can_have) (by decide +kernel)) (fun _ _ _ _ _ => (pg_name (i := 7) sc__law_can_have.nd rfl (.inl rfl))) (fun _ _ _ _ _ => (pts_one (pt_val (pe_callO O__law_over hr (by rfl) pass0 (pa_cons (pv 7) (pa_cons (pv 5) pa_nil)))))) (fun _ _ _ _ _ => (pe_callO O__law_means hr (by rfl) pass0 (pa_cons (pv 0) (pa_cons (pv 7) pa_nil))))))
 (pss_cons (ps_set (i := 4) sc__law_can_have.nd rfl (.inl rfl) (pe_ifExp (pt_cmpR (kop_in (K := K)) pe_str (pv 3) rfl) (pv 6) (pe_lst pa_nil)))
 (pss_cons (ps_set (i := 6) sc__law_can_have.nd rfl (.inl rfl) (pe_op op_cat (pv 4) (pe_lc (own := [("_law_many", 8)]) (g := gName 8) rfl sc__law_can_have.nd (kpi_list (K := K) (pv 6)) (blkOk_by (N := N__law_can_have) (sc := defScope s__law_can_have) (by decide +kernel)) (fun _ _ _ _ _ => (pg_name (i := 8) sc__law_can_have.nd rfl (.inl rfl))) (fun _ _ _ _ _ => (pts_one (PW.pt (pw_and (pt_cmpR op_lt (pv 8) (pe_callB cb_lenS (by rfl) T.z_len (by decide +kernel) (pa_cons (pv 2) pa_nil)) (nomark _)) (pw_and1 (pt_cmpR (kop_in (K := K)) (pe_ix ix_str (pv 2) (pv 8) (fun _ _ => rfl)) (pv 3) rfl)))))) (fun _ _ _ _ _ => (pe_op op_add (pv 8) pe_int)))))
 (pss_one (ps_set (i := 6) sc__law_can_have.nd rfl (.inl rfl) (pe_callB (cr_sortKI (w := wW) rfl hr.units) (by rfl) T.z_sorted (by decide +kernel) (pa_cons (pe_callTy (cr_setL (K := K) (w := wW) rfl) (by rfl) T.z_set (by decide +kernel) (pa_cons (pv 6) pa_nil)) pa_nil))))))))
 (pss_one (ps_ret (pe_cmpR (kop_in (K := K)) (pe_callB cb_lenS (by rfl) T.z_len (by decide +kernel) (pa_cons (pv 2) pa_nil)) (pv 6) rfl))))), ?_⟩
  have hw := p0.w4
  have htl := p1.len
  refine b_asg (d := uL uI (cntAt rd t x 0)) (p := .ow .sh) ok (EvP.is (p_L (el_lst (emI_cons ev_c emI_nil) (by simp))) rfl) fun M σ H ok => ?_
  refine b_for (fun i ρ => ∃ a b c d e, ρ = [st (uD rd), st (uL uS t), st (uS x), a, b, c, mu (uL uI (cntAt rd t x i)), d, e]) ok (j_listR (ok.r rfl)) ⟨_, _, _, _, _, rfl⟩ ?_ ?_
  · rintro Z1 z1 i r ρ M σ H hi ⟨a, b, c, d, e, rfl⟩ ok
    have hg : t.getD i [] = r := by rw [List.getD_eq_getElem?_getD, hi]; rfl
    have hrw := p1.row r (List.mem_of_getElem? hi)
    have hrl := isRow_len hrw
    have hrow : ∀ o ∈ rowsL (r.length : Int), isRow o (w : Int) = true := fun o ho => by rw [← hrl]; exact rowsL_row _ _ ho
    have hle := rowsL_le (w := (r.length : Int)) (by omega)
    have hcl := cnt_len (rd := rd) (t := t) (x := x) i
    have ok : Ok F Z1 [st (uD rd), st (uL uS t), st (uS x), a, b, st (uS r), mu (uL uI (cntAt rd t x i)), d, e] σ H M := ok
    obtain ⟨M, ok⟩ := ok.share 6 rfl
    refine b_asg (d := uL uS ((belowL r).map (mean rd))) (p := .ow .sh) ok (EvP.is (p_lc ok (j_listN (n_p ok.al (p_L (ev__law_rows (ag_V (ev_lenS (ok.ev rfl) (by omega)) ag_nil) (by omega) (by omega))))) (by omega) (by simp) (fun x1 hx1 M σ H ok => (et_B (ev__law_over (ag_V (ok.ev rfl) (ag_V (ok.ev rfl) ag_nil)) (hrow x1 hx1) hrw hw))) (fun x1 hx1 hy1 M σ H ok => (p_ev (ev__law_means (ag_D (ok.dd rfl) (ag_V (ok.ev rfl) ag_nil)))))) (nd_map (f := uS))) fun M σ H ok => ?_
    have ok : Ok F Z1 [st (uD rd), st (uL uS t), st (uS x), mu (uL uS ((belowL r).map (mean rd))), b, st (uS r), st (uL uI (cntAt rd t x i)), d, e] σ H M := ok
    refine b_asg (d := uL uI (if mB rd r [] then cntAt rd t x i else [])) (p := .sh) ok (EvP.is (p_r (r_if (d1 := uL uI (cntAt rd t x i)) (d2 := uL uI []) (et_test (ev_inS (ev_cS lit_nil) (ok.q rfl))) (fun hb2 => (ok.r rfl)) (fun hb2 => (r_p ok.al (p_lst (ds := []) rs_nil (by simp)))))) (by
      unfold mB
      split <;> rfl)) fun M σ H ok => ?_
    have ok : Ok F Z1 [st (uD rd), st (uL uS t), st (uS x), mu (uL uS ((belowL r).map (mean rd))), st (uL uI (if mB rd r [] then cntAt rd t x i else [])), st (uS r), st (uL uI (cntAt rd t x i)), d, e] σ H M := ok
    have hc0 : ∀ m ∈ cntAt rd t x i, 0 ≤ m := fun m hm => (cnt_mem hm).1
    have hfl : ((cntAt rd t x i).filter fun m => decide (m < (x.length : Int)) && mB rd r [x.getD m.toNat 0]).length ≤ 31 := Nat.le_trans (List.length_filter_le _ _) (by omega)
    have hil : (if mB rd r [] = true then cntAt rd t x i else []).length ≤ 31 := by
      split
      · omega
      · simp
    refine b_asg (d := uL uI ((if mB rd r [] then cntAt rd t x i else []) ++ ((cntAt rd t x i).filter fun m => decide (m < (x.length : Int)) && mB rd r [x.getD m.toNat 0]).map (· + 1))) (p := .ow .sh) ok (p_cat (f := uI) (xs := (if mB rd r [] then cntAt rd t x i else [])) (ys := ((cntAt rd t x i).filter fun m => decide (m < (x.length : Int)) && mB rd r [x.getD m.toNat 0]).map (· + 1)) (ok.nx rfl rfl) (n_is (n_p ok.al (p_lc (b := fun m => decide (m < (x.length : Int)) && mB rd r [x.getD m.toNat 0]) (f := fun m => uI (m + 1)) ok (j_listN (ok.nx rfl rfl)) (by omega) (by simp) (fun x3 hx3 M σ H ok => EvT.is (et_and (et_test (ev_lt (ok.ev rfl) (ev_lenS (ok.ev rfl) (by omega)))) (fun hb4 => (et_test (ev_inS (ev_ixS (ok.ev rfl) (ok.ev rfl) (by omega) (hc0 _ hx3) (of_decide_eq_true hb4)) (ok.q rfl))))) rfl) (fun x3 hx3 hy3 M σ H ok => (p_ev (ev_add (ok.ev rfl) ev_c))))) (by rw [List.map_map]; rfl)) (by rw [List.length_map]; omega)) fun M σ H ok => ?_
    rw [← hg] at ok
    refine c_asg (d := uL uI (cntAt rd t x (i + 1))) (p := .ow .sh) ok (EvP.is (p_sortSetI (ok.q rfl) (by rw [hg, List.length_append, List.length_map]; omega)) (by rw [can_step])) fun M σ H ok => ⟨_, _, ok, _, _, _, _, _, rfl⟩
  · rintro ρ M σ H ⟨a, b, c, d, e, rfl⟩ ok
    exact c_ret ok (p_ev (ev_inI (ev_lenS (ok.ev rfl) (by omega)) (ok.q rfl))) k zz
def R__law_stands (K : PySem.W.Frag) (mg : Str → Option Value) : (Addr → Prop) → List V → Hp → Dt → Pat → Prop := fun F vs H d p => ∃ (rd : Dic) (w : Nat) (t : List Row) (n : Int) (xs : List Row), AllP [isR F (uPunch mg w rd t n), isR F (uD rd), isR F (uL uS t), isR F (uI n), isR F (uL uS xs)] vs H ∧ ((RdOk rd w) ∧ (TpOk t w) ∧ (∀ x ∈ xs, TxOk x) ∧ (xs.length ≤ 100) ∧ (TxOk (textOf rd t)) ∧ True) ∧ d = (Dt.sc (.bl true)) ∧ p = .sh
def sp__law_stands (K : PySem.W.Frag) (mg : Str → Option Value) : Sp := spR 5 (R__law_stands K mg)
theorem ev__law_stands {K : PySem.W.Frag} {mg : Str → Option Value} {σ : L2.St} {H : Hp} {tr : TA} {E : XK} {rd : Dic} {w : Nat} {t : List Row} {n : Int} {xs : List Row} (h : EvAG tr σ H [isR Mo (uPunch mg w rd t n), isR Mo (uD rd), isR Mo (uL uS t), isR Mo (uI n), isR Mo (uL uS xs)]) (p0 : RdOk rd w) (p1 : TpOk t w) (p2 : ∀ x ∈ xs, TxOk x) (p3 : xs.length ≤ 100) (p4 : TxOk (textOf rd t)) : Ev (tCallO (sp__law_stands K mg) E tr) σ H (.bl true) := ev_p (M := Mo) (p := .sh) (p_callR (Mo_al H) h rfl fun vs H1 hp => ⟨rd, w, t, n, xs, hp, ⟨p0, p1, p2, p3, p4, trivial⟩, rfl, rfl⟩)
theorem ok__law_stands (T : Txt K mg) : OkF P wW K mg base CX0 "_law_stands" 7 (sp__law_stands K mg) := by
  have S_standing := hsel_standing (P := P) (wW := wW) (base := base) T
  have S_once := hsel_once (P := P) (wW := wW) (base := base) T
  have S_text := hsel_text (P := P) (wW := wW) (base := base) T
  have O__law_reads : OkF P wW K mg base CX0 "_law_reads" 2 (sp__law_reads K) := ok__law_reads T
  have S_took := hsel_took (P := P) (wW := wW) (base := base) T
  have O__law_can_have : OkF P wW K mg base CX0 "_law_can_have" 2 (sp__law_can_have K mg) := ok__law_can_have T
  refine OkF.of T.d__law_stands sc__law_stands (fun vs H Q E h => h.1) (fun f cdv A outer s Hb vs Q E hr h => ?_)
  obtain ⟨-, F, d0, p0_, al, ⟨rd, w, t, n, xs, ⟨v0, r0, rfl, q0, ⟨v1, r1, rfl, q1, ⟨v2, r2, rfl, q2, ⟨v3, r3, rfl, q3, ⟨v4, r4, rfl, q4, rfl⟩⟩⟩⟩⟩, ⟨p0, p1, p2, p3, p4, -⟩, rfl, rfl⟩, k⟩ := h
  have ok : Ok F (fun H' O' => Lt Hb Mo H' O') [st (uPunch mg w rd t n), st (uD rd), st (uL uS t), st (uI n), st (uL uS xs), .una, .una, .una] _ Hb F := Ok.start al ⟨_, _, [], [], rfl, rfl, ow_sh.mpr ⟨rfl, q0⟩, ⟨_, _, [], [], rfl, rfl, ow_sh.mpr ⟨rfl, q1⟩, ⟨_, _, [], [], rfl, rfl, ow_sh.mpr ⟨rfl, q2⟩, ⟨_, _, [], [], rfl, rfl, ow_sh.mpr ⟨rfl, q3⟩, ⟨_, _, [], [], rfl, rfl, ow_sh.mpr ⟨rfl, q4⟩, ⟨_, rfl, ⟨_, rfl, ⟨_, rfl, ⟨rfl, rfl⟩⟩⟩⟩⟩⟩⟩⟩⟩
  have zz : ∀ (H' : Hp) (O' : Addr → Prop), Lt Hb Mo H' O' → Lt Hb Mo H' O' := fun _ _ z => z
  have hu := hu_of hr
  refine ⟨_, (pss_cons (ps_set (i := 7) sc__law_stands.nd rfl (.inl rfl) (pe_methU0 S_standing hr pass0 (pv 0)))
 (pss_cons (ps_if (PW.pt (pw_or (pt_not (pt_val (pe_callB (kcall_isi (K := K)) (by rfl) T.z_isinstance (by decide +kernel) (pa_cons (pv 7) (pa_cons (pe_bltn (v := .ty "list") (by rfl) T.z_list (by decide +kernel) rfl) pa_nil))))) (pw_or (pt_cmpR (kop_neD (K := K) hr.units) (pv 7) (pv 2) (nomark _)) (pw_or1 (pt_cmpR op_ne (pe_methU0 S_text hr pass0 (pv 0)) (pe_callO O__law_reads hr (by rfl) pass0 (pa_cons (pv 1) (pa_cons (pv 2) pa_nil))) (nomark _))))))
  (pss_one (ps_ret pe_bl))
  pss_nil)
 (pss_cons (ps_if (PW.pt (pw_or (pt_val (pe_callB (kcall_isi (K := K)) (by rfl) T.z_isinstance (by decide +kernel) (pa_cons (pe_methU0 S_took hr pass0 (pv 0)) (pa_cons (pe_bltn (v := .ty "bool") (by rfl) T.z_bool (by decide +kernel) rfl) pa_nil)))) (pw_or1 (pt_cmpR op_ne (pe_methU0 S_took hr pass0 (pv 0)) (pv 3) (nomark _)))))
  (pss_one (ps_ret pe_bl))
  pss_nil)
 (pss_cons (ps_for PassesOwn.never rfl (kpi_list (K := K) (pe_op op_cat (pv 4) (pe_lst (pa_cons (pe_callO O__law_reads hr (by rfl) pass0 (pa_cons (pv 1) (pa_cons (pv 2) pa_nil))) pa_nil)))) (pg_name (i := 6) sc__law_stands.nd rfl (.inl rfl))
  (pss_cons (ps_set (i := 5) sc__law_stands.nd rfl (.inl rfl) (pe_methU S_once hr pass0 (pv 0) (pa_cons (pv 6) pa_nil)))
 (pss_one (ps_if (PW.pt (pw_or (pt_not (pt_val (pe_callB (kcall_isi (K := K)) (by rfl) T.z_isinstance (by decide +kernel) (pa_cons (pv 5) (pa_cons (pe_bltn (v := .ty "bool") (by rfl) T.z_bool (by decide +kernel) rfl) pa_nil))))) (pw_or1 (pt_cmpR op_ne (pv 5) (pe_callO O__law_can_have hr (by rfl) pass0 (pa_cons (pv 1) (pa_cons (pv 2) (pa_cons (pv 6) pa_nil)))) (nomark _)))))
  (pss_one (ps_ret pe_bl))
  pss_nil))))
 (pss_cons (ps_expr (pe_bm PySem.F.plainAttrs_list PySem.F.slot_list_append PySem.F.type_list_append mt_append (pv 7) (pa_cons pe_str pa_nil)))
 (pss_one (ps_ret (pe_cmpR (kop_eqD (K := K) hr.units) (pe_methU0 S_standing hr pass0 (pv 0)) (pv 2) (nomark _))))))))), ?_⟩
  have hw := p0.w4
  have htl := p1.len
  refine b_asg (d := uL uS t) (p := .ow .sh) ok (eo_Punch_standing (by walk_at "sel") (ok.ro rfl) ag_nil) fun M σ H ok => ?_
  refine b_skip ok (EvT.is (et_or (et_not (et_B (ev_isiNL (b := true) (ok.nn (i := 7) rfl) ev_c (by decide +kernel)))) (fun hb2 => (et_or (et_test (ev_neLS (ok.q (i := 7) rfl) (ok.q (i := 2) rfl) p1.small p1.small)) (fun hb1 => (et_test (ev_neS (ev_Punch_text (by walk_at "sel") (ok.ro (i := 0) rfl) ag_nil p0 (by omega)) (ev__law_reads (ag_D (ok.dd rfl) (ag_L (ok.q (i := 2) rfl) ag_nil)) p0 htl))))))) (by simp)) fun M σ H ok => ?_
  refine b_skip ok (EvT.is (et_or (et_B (ev_isiI (b := false) (ev_Punch_took (by walk_at "sel") (ok.ro (i := 0) rfl) ag_nil) ev_c (by decide +kernel))) (fun hb3 => (et_test (ev_neI (ev_Punch_took (by walk_at "sel") (ok.ro (i := 0) rfl) ag_nil) (ok.ev rfl))))) (by simp)) fun M σ H ok => ?_
  have hall : ∀ y ∈ xs ++ [textOf rd t], TxOk y := fun y hy => by
    rcases List.mem_append.mp hy with h | h
    · exact p2 y h
    · rw [List.mem_singleton.mp h]; exact p4
  refine b_for (fun i ρ => ∃ a b, ρ = [st (uPunch mg w rd t n), st (uD rd), st (uL uS t), st (uI n), st (uL uS xs), a, b, mu (uL uS t)]) ok (j_listR (l := xs ++ [textOf rd t]) (f := uS) (r_p ok.al (p_L (g := VS) (el_catH (ok.h (i := 4) rfl) (h_new (el_lst (emS_cons (ev__law_reads (ag_D (ok.dd rfl) (ag_L (ok.q (i := 2) rfl) ag_nil)) p0 htl) emS_nil) (by simp))) (by simp; omega))))) ⟨_, _, rfl⟩ ?_ ?_
  · rintro Z1 z1 i y ρ M σ H hi ⟨a, b, rfl⟩ ok
    have hy := hall y (List.mem_of_getElem? hi)
    have ok : Ok F Z1 [st (uPunch mg w rd t n), st (uD rd), st (uL uS t), st (uI n), st (uL uS xs), a, st (uS y), mu (uL uS t)] σ H M := ok
    refine b_asg (d := uB (stB rd t y)) ok (p_ev (ev_Punch_once (by walk_at "sel") (ok.ro (i := 0) rfl) (ag_R (r_ev (ok.ev rfl)) ag_nil) p0 p1 hy)) fun M σ H ok => ?_
    exact c_skip ok (EvT.is (et_or (et_not (et_B (ev_isiB (b := true) (ok.ev rfl) ev_c (by decide +kernel)))) (fun hb4 => (et_test (ev_neB (ok.ev rfl) (ev__law_can_have (ag_R (ok.ro (i := 1) rfl) (ag_R (ok.ro (i := 2) rfl) (ag_R (r_ev (ok.ev rfl)) ag_nil))) p0 p1 hy.len))))) (by simp)) fun M σ H ok => ⟨_, _, ok, _, _, rfl⟩
  rintro ρ M σ H ⟨a, b, rfl⟩ ok
  refine b_app (f := uS) (xs := t) (x := [46]) ok rfl (r_ev (ev_cS lit_dot)) (by omega) fun M σ H ok => ?_
  exact c_ret ok (EvP.is (p_ev (ev_eqLS (q_p (M := M) (eo_Punch_standing (t := t) (n := n) (rd := rd) (by walk_at "sel") (ok.ro (i := 0) rfl) ag_nil)) (ok.q (i := 2) rfl) p1.small p1.small)) (by simp)) k zz
theorem told_made {Hb H1 : Hp} {a d C : Addr} {fs : List (Str × V)} (e : Ex Hb H1) (ha : H1 a = none) (hd : H1 d = none) (hne : d ≠ a) :
    Ex Hb (upd (del (upd (upd (upd H1 a (exo a C none)) d (exd d fs)) a (exo a C (some d))) a) d (.xd fs)) ∧ Told Hb (upd (del (upd (upd (upd H1 a (exo a C none)) d (exd d fs)) a (exo a C (some d))) a) d (.xd fs)) (some d) (some fs) := by
  refine ⟨fun b o h => ?_, d, rfl, fresh_back e hd, upd_same⟩
  have hb : b ≠ d := fun z => by rw [← z, e _ _ h] at hd; cases hd
  have hb2 : b ≠ a := fun z => by rw [← z, e _ _ h] at ha; cases ha
  rw [upd_ne hb, del_ne hb2, upd_ne hb2, upd_ne hb, upd_ne hb2]
  exact e _ _ h
section
variable {X : L2.Cx} {R : List V → Hp → Value → Option (List (Str × V)) → Prop} {E : L2.St → XK} {tr : TA} {ta : TE} {σ : L2.St} {H : Hp} {Ps : List (V → Hp → Prop)} {n : Nat} {cls : Value} {fs : Option (List (Str × V))} {Q : VK} {C : Addr} {ns : List Str} {ds : List Dt} {m : Str}
theorem zx_call (h : EvAG tr σ H Ps) (hn : Ps.length = n) (hr : ∀ vs H1, AllP Ps vs H1 → R vs H1 cls fs) (k : ∀ H' d, Ex H H' → Told H H' d fs → E σ cls d H') : tCallX (spE n R) E tr σ H Q :=
  h H (Ex.refl _) _ fun vs H2 e2 hp => ⟨hp.length.trans hn, cls, fs, hr vs H2 hp, fun H' d e q => k H' d (e2.trans e) (q.ex e2)⟩
theorem zx_meth (h0 : EvR Mo ta σ H (.node (.i C ns) ds)) (h : EvAG tr σ H Ps) (hl : m ∉ ns) (hn : Ps.length + 1 = n) (hr : ∀ vs H1, AllP (isR Mo (.node (.i C ns) ds) :: Ps) vs H1 → R vs H1 cls fs) (k : ∀ H' d, Ex H H' → Told H H' d fs → E σ cls d H') : tMethX C (spE n R) m E ta tr σ H Q :=
  h0 H (Ex.refl _) _ fun v H2 e2 r => by
    obtain ⟨a, vs, rfl, ⟨dx, ho, hz⟩, hrr⟩ := Rp.n r
    refine ⟨a, dx, _, rfl, ho, lookup_zip hl, ?_⟩
    exact h H2 e2 _ fun ws H3 e3 hp => ⟨by rw [List.length_cons, hp.length, hn], cls, fs, hr _ _ ⟨_, ws, rfl, mon_R _ _ _ _ _ e3 r, hp⟩, fun H' d e q => k H' d ((e2.trans e3).trans e) (q.ex (e2.trans e3))⟩
theorem zxo_meth {sp : Sp} (hsp : ∀ vs H Q E, spE n R vs H Q E → sp vs H Q E) (h0 : EvR Mo ta σ H (.node (.i C ns) ds)) (h : EvAG tr σ H Ps) (hl : m ∉ ns) (hn : Ps.length + 1 = n) (hr : ∀ vs H1, AllP (isR Mo (.node (.i C ns) ds) :: Ps) vs H1 → R vs H1 cls fs) (k : ∀ H' d, Ex H H' → Told H H' d fs → E σ cls d H') : tMethX C sp m E ta tr σ H Q :=
  h0 H (Ex.refl _) _ fun v H2 e2 r => by
    obtain ⟨a, vs, rfl, ⟨dx, ho, hz⟩, hrr⟩ := Rp.n r
    refine ⟨a, dx, _, rfl, ho, lookup_zip hl, ?_⟩
    exact h H2 e2 _ fun ws H3 e3 hp => hsp _ _ _ _ ⟨by rw [List.length_cons, hp.length, hn], cls, fs, hr _ _ ⟨_, ws, rfl, mon_R _ _ _ _ _ e3 r, hp⟩, fun H' d e q => k H' d ((e2.trans e3).trans e) (q.ex (e2.trans e3))⟩
end
theorem c_dropX {R : List V → Hp → Value → Option (List (Str × V)) → Prop} {E : L2.St → XK} {tr : TA} {ta : TE} {σ : L2.St} {H : Hp} {Ps : List (V → Hp → Prop)} {n : Nat} {cls : Value} {fs : Option (List (Str × V))} {D : Ends} {C : Addr} {ns : List Str} {ds : List Dt} {m : Str} {sp : Sp} (hsp : ∀ vs H Q E, spE n R vs H Q E → sp vs H Q E) (h0 : EvR Mo ta σ H (.node (.i C ns) ds)) (h : EvAG tr σ H Ps) (hl : m ∉ ns) (hn : Ps.length + 1 = n)
    (hr : ∀ vs H1, AllP (isR Mo (.node (.i C ns) ds) :: Ps) vs H1 → R vs H1 cls fs) (k : ∀ H' d, Ex H H' → Told H H' d fs → E σ cls d H') : tDrop (tMethX C sp m E ta tr) D σ H := zxo_meth hsp h0 h hl hn hr k
theorem ev_xfp {σ : L2.St} {H : Hp} {a C dd : Addr} {i : Nat} (h : σ[i]? = some (some (.ref a))) (hd : H dd = some (.xd [(("place" : Str), V.int 1)])) : Ev (tXf a (.ref C) (some dd) C "place" (tVar i)) σ H (.int 1) := fun H1 e Q q => ⟨.ref a, h, rfl, rfl, dd, _, .int 1, rfl, e _ _ hd, by simp [List.lookup], q H1 (Ex.refl _)⟩
theorem passAt0 {X : L2.Cx} {σ : L2.St} {E : XK} : PassesAt CX0 X σ E := fun _ _ _ _ _ _ h => h.elim
section
variable {F : Addr → Prop} {Z : Hp → (Addr → Prop) → Prop} {ρ : List Sl} {σ : L2.St} {H : Hp} {M : Addr → Prop} {i n : Nat} {C : Addr} {ns : List Str} {ds : List Dt} {p0 p1 : Pat} {d1 d : Dt} {m : Str} {tr : TA} {ta : TE} {E : L2.St → XK} {Ps : List (V → Hp → Prop)} {sp : Sp} {p : Pat}
  {R : (Addr → Prop) → List V → Hp → Dt → Pat → Dt → Pat → Dt → Prop} {R1 : (Addr → Prop) → List V → Hp → Dt → Pat → Prop}
theorem x_methX (hsp : ∀ vs H Q E, spX n R vs H Q E → sp vs H Q E) (ok : Ok F Z ρ σ H M) (hi : ρ[i]? = some (.own (.node (.i C ns) ds) p0)) (hl : m ∉ ns) (h : EvAG tr σ H Ps) (hn : Ps.length = n)
    (hr : ∀ vs H1, AllP Ps vs H1 → R M vs H1 (.node (.i C ns) ds) p0 d1 p1 d) : XV (tMethX C sp m E (tVar i) tr) F Z (ρ.set i (.own d1 p1)) σ H d := fun Q q => by
  obtain ⟨v, bs, h1, w, -⟩ := ok.swapX hi
  obtain ⟨a, vs, rfl, ⟨dx, ho, hz⟩⟩ := w.ob
  refine ⟨.ref a, h1, a, dx, _, rfl, ho, lookup_zip hl, ?_⟩
  refine h H (Ex.refl _) _ fun ws H2 e2 hp => hsp _ _ _ _ ?_
  obtain ⟨v2, bs, h2, w, nb, hM, eM, sw⟩ := (ok.ex e2).swapX hi
  rw [h1] at h2
  obtain rfl := Option.some.inj (Option.some.inj h2)
  exact ⟨by rw [List.length_cons, hp.length, hn], fun a => M a ∧ a ∉ bs, .ref a, ws, bs, _, p0, d1, p1, d, rfl, nb, fun b hb z => z.2 hb, fun a ha => (ok.ex e2).al a ha.1, by rw [eM]; exact w, by rw [eM]; exact hr _ _ hp,
    fun v bs' H' k1 k2 k3 k4 k5 => q v H' _ (sw H' d1 p1 bs' k1 k2 k3 k4) k5⟩
theorem p_methH (al : Al M H) (h0 : EvR M ta σ H (.node (.i C ns) ds)) (h : EvAG tr σ H Ps) (hl : m ∉ ns) (hn : Ps.length = n) (hr : ∀ vs H1, AllP (isR M (.node (.i C ns) ds) :: Ps) vs H1 → R1 M vs H1 d p) : EvP M (L2H.tMethH C m (spR (n + 1) R1) E ta tr) σ H d p := fun H1 e Q q =>
  h0 H1 e _ fun v H2 e2 r => by
    obtain ⟨a, vs, rfl, ⟨dx, ho, hz⟩, hrr⟩ := Rp.n r
    refine ⟨a, dx, _, rfl, ho, lookup_zip hl, ?_⟩
    refine h H2 (e.trans e2) _ fun ws H3 e3 hp => ⟨by rw [List.length_cons, hp.length, hn], M, d, p, fun a ha z => al a ha (fresh_back ((e.trans e2).trans e3) z), hr _ _ ⟨_, ws, rfl, mon_R _ _ _ _ _ e3 r, hp⟩, fun v bs H4 e4 nd nn w => q v bs H4 ((e2.trans e3).trans e4) nd (fun b hb => fresh_back (e2.trans e3) (nn b hb)) w⟩
end
theorem pe_methH0 {X : L2.Cx} {CX : CXT} {k : Nat} {f C : Addr} {fd : FuncData} {ps : List Str} {sp : Sp} {E : L2.St → XK} {m : Str} {pos apos : Pos} {o : Expr} {ta : TE} {pl : Sem Bool} (he : PE X o ta) (c : Cls X.K C) (hm : Meth X.K C m f) (F : L2H.FnH X.prog X.w X.K X.mg X.base CX k f fd ps sp) (hr : L2H.RoomH k X.A) (hc : L2H.HotC X) (hb : Binds X.K fd ps []) (hx : ∀ σ, PassesAt CX X σ (E σ))
    (ht : eval (.Call (.Attribute o m apos) [] [] pos) X.env = (do
      let u ← eval o X.env
      standAt apos.atName
      let (g, own) ← holding [u] (getMethod u m pl)
      callWith pos g own (backTo pos (starEach [] X.env)) (backToKw pos (keywordEach [] X.env))) := by rfl) : PE X (.Call (.Attribute o m apos) [] [] pos) (L2H.tMethH C m sp E ta tNil) := by
  refine ⟨fun pins s σ H Q I h => PySem.W.methodCall_KW (pl := pl) (thn (he.run pins s σ H _ I h) fun u s1 hh => ?_) ht⟩
  obtain ⟨y, H1, I1, ry, a, dx, fs, rfl, ea, l, q⟩ := hh
  cases (show u = Value.ref a from ry)
  exact getmeth_ok I1 ea c hm l (PySem.W.callWith_K0 (first := [.ref a]) I1.kIn hm.kp (L2H.run_fnH (us := [.ref a]) (vs := [.ref a]) F hr hc hb (hx σ) I1 (.cons rfl .nil) q))
def spX_BadText (K : PySem.W.Frag) : Sp := fun vs H Q _ => ∃ a C : Addr, vs = [.ref a, .int 1] ∧ OexC K C ∧ PySem.W.findIn K (.ref C) "place" = some none ∧ H a = some (exo a C none) ∧ ∀ d, H d = none → d ≠ a → Q .non (upd (upd H d (exd d [("place", .int 1)])) a (exo a C (some d)))
theorem okX_BadText (T : Txt K mg) {fI : Addr} {fd : FuncData} (F : L2.Fun K "__init__" "BadText.__init__" s_BadText___init__ fI fd) (bn : Binds K fd ["self", "place"] []) : RunA P wW K mg base CX0 1 fI (spX_BadText K) := by
  obtain ⟨⟨oc, od, kV, doc, pm, an, cdv, ct, osl, rfl, lk, hcd⟩, kp⟩ := F
  refine RunA.of bn (fn_of lk hcd sc_BadText___init__ (fun vs H Q E h => by obtain ⟨a, C, rfl, -⟩ := h; rfl) fun A outer s H vs Q E hr hsp => ?_)
  obtain ⟨a, C, rfl, TO, hno, ea, hk⟩ := hsp
  refine ⟨_, (pss_cons (ps_expr (pe_binit T.xb_TapeError rfl (pa_cons (pv 0) (pa_cons (pe_op op_add_str pe_str (pe_callTy call_str_int (by rfl) T.z_str (by decide +kernel) (pa_cons (pv 1) pa_nil))) pa_nil)))) (pss_one (ps_ost (pv 0) (pv 1)))), ?_⟩
  exact ⟨.ref a, rfl, .int 1, rfl, 1, rfl, by decide +kernel, _, _, rfl, rfl, by decide +kernel, a, C, _, rfl, by decide, TO, ea, .int 1, rfl, .ref a, rfl, a, C, rfl, TO, hno, .inl ⟨ea, fun dx hn hne => hk dx hn hne⟩⟩
def RX_check_text (K : PySem.W.Frag) (mg : Str → Option Value) : List V → Hp → Value → Option (List (Str × V)) → Prop := fun vs H cls fs => vs = [VS [113, 81]] ∧ cls = .ref (cA mg "BadText") ∧ fs = some [(("place" : Str), V.int 1)]
abbrev spX_check_text (K : PySem.W.Frag) (mg : Str → Option Value) : Sp := spE 1 (RX_check_text K mg)
theorem okX_check_text (T : Txt K mg) : RunF P wW K mg base (CXN P wW) "check_text" 3 (spX_check_text K mg) := by
  obtain ⟨fI, fd, XF, hno, FI, bI⟩ := T.xq_BadText.ex
  have R_BadText := okX_BadText (P := P) (wW := wW) (base := base) T FI bI
  refine RunF.ofX T.d_check_text sc_check_text (fun vs H Q E h => h.1) (fun f cdv A outer s Hb vs Q E hr h => ?_)
  obtain ⟨-, cls, fs, ⟨rfl, rfl, rfl⟩, hE⟩ := h
  have tk : L2N.Takes (cxOf (CXN P wW) P wW K mg base N_check_text "check_text" (defScope s_check_text) f cdv A outer s Hb E) (fun cls d _ H => E cls d H) := L2N.takes_of rfl rfl rfl rfl
  refine ⟨_, (pss_cons (ps_if (pt_not (pt_val (pe_callB (kcall_isi (K := K)) (by rfl) T.z_isinstance (by decide +kernel) (pa_cons (pv 0) (pa_cons (pe_bltn (v := .ty "str") (by rfl) T.z_str (by decide +kernel) rfl) pa_nil)))))
  (pss_one (L2N.ps_raise rfl tk (pmk_f XF.oe XF.iC XF.tI R_BadText (hr.mono (by decide)) rfl XF.at_ (pa_cons pe_int pa_nil))))
  pss_nil)
 (pss_one (ps_for (passes_of rfl) rfl (pi_enumS (by rfl) T.z_enumerate (pa_cons (pv 0) pa_nil)) (pg_tup rfl (pgs_cons (pg_name (i := 1) sc_check_text.nd rfl (.inl rfl)) (pgs_cons (pg_name (i := 2) sc_check_text.nd rfl (.inl rfl)) pgs_nil)))
  (pss_one (ps_if (PW.pt (pw_or (pt_cmpR op_eq (pv 1) (pe_gi (by rfl) T.c_MOST) (nomark _)) (pw_or1 (pt_cmpR op_ninC (pv 2) (pe_gs (by rfl) T.c_LETTERS) rfl))))
  (pss_one (L2N.ps_raise rfl tk (pmk_f XF.oe XF.iC XF.tI R_BadText (hr.mono (by decide)) rfl XF.at_ (pa_cons (pv 1) pa_nil))))
  pss_nil))))), ?_⟩
  refine q_skip (EvT.is (et_not (et_B (ev_isiS (b := true) (ev_var rfl) ev_c (by decide +kernel)))) rfl) fun H1 e1 => ?_
  refine s_for (s := []) (i_enumS (l := [113, 81]) (ev_var rfl)) (by simp) fun H2 e2 => ⟨fun i σ' H' => i ≤ 1 ∧ Ex H2 H' ∧ ∃ y z, σ' = [some (VS [113, 81]), y, z], ⟨by decide, Ex.refl _, none, none, rfl⟩, fun i σ' H' p => Ex.xb p.2.1, ?_, fun σ' H' p => absurd p.1 (by decide)⟩
  rintro i ⟨c, n⟩ σ' H' H3 hi ⟨hi1, hx, y, z, rfl⟩ e3
  obtain ⟨rfl, hi⟩ := zipIdx_at hi
  have h01 : n = 0 ∨ n = 1 := by omega
  rcases h01 with rfl | rfl
  · have : c = 113 := by simpa using hi.symm
    subst this
    exact s_skip (EvT.is (et_or (et_test (ev_eqI (ev_var rfl) ev_c)) (fun hb17 => (et_test (ev_ninC (ev_var rfl) ev_c)))) (by decide)) fun H4 e4 => ⟨by decide, (hx.trans e3).trans e4, _, _, rfl⟩
  · have : c = 81 := by simpa using hi.symm
    subst this
    refine s_when (b := true) (EvT.is (et_or (et_test (ev_eqI (ev_var rfl) ev_c)) (fun hb17 => (et_test (ev_ninC (ev_var rfl) ev_c)))) (by decide)) (fun _ H4 e4 => ?_) (fun e => nomatch e)
    have e : Ex Hb H4 := ((((e1.trans e2).trans hx).trans e3).trans e4)
    refine ⟨.int 1, rfl, by decide, fun a ha => ⟨a, _, rfl, XF.oe, hno, upd_same, fun d hd hne => ⟨rfl, d, _, upd_same, by rw [upd_ne hne]; exact upd_same, by rw [upd_ne hne] at hd; exact hd, ?_⟩⟩⟩
    rw [upd_ne hne] at hd
    exact hE _ _ (told_made e ha hd hne).1 (told_made e ha hd hne).2
def RX_Punch_write (K : PySem.W.Frag) (mg : Str → Option Value) : List V → Hp → Value → Option (List (Str × V)) → Prop := fun vs H cls fs => ∃ rd w t n, AllP [isR Mo (uPunch mg w rd t n), isR Mo (uS [113, 81])] vs H ∧ cls = .ref (cA mg "BadText") ∧ fs = some [(("place" : Str), V.int 1)]
abbrev spX_Punch_write (K : PySem.W.Frag) (mg : Str → Option Value) : Sp := spE 2 (RX_Punch_write K mg)
theorem okX_Punch_write (T : Txt K mg) : RunM P wW K mg base (CXN P wW) (cA mg "Punch") "write" 6 (spX_Punch_write K mg) := by
  have O_check_text : OkF P wW K mg base CX0 "check_text" 1 (sp_check_text K) := ok_check_text T
  have O_written : OkF P wW K mg base CX0 "written" 5 (sp_written K mg) := ok_written T
  have S_become := hsel_become (P := P) (wW := wW) (base := base) T
  have R_check_text := okX_check_text (P := P) (wW := wW) (base := base) T
  refine RunM.ofX T.m_Punch_write sc_Punch_write (fun vs H Q E h => h.1) (fun f cdv A outer s Hb vs Q E hr h => ?_)
  obtain ⟨-, cls, fs, ⟨rd, w, t, n, ⟨v0, r0, rfl, q0, ⟨v1, r1, rfl, q1, rfl⟩⟩, rfl, rfl⟩, hE⟩ := h
  have tk : L2N.Takes (cxOf (CXN P wW) P wW K mg base N_Punch_write "Punch.write" (defScope s_Punch_write) f cdv A outer s Hb E) (fun cls d _ H => E cls d H) := L2N.takes_of rfl rfl rfl rfl
  have ok : Ok Mo (fun H' O' => Lt Hb Mo H' O') [st (uPunch mg w rd t n), st (uS [113, 81])] _ Hb Mo := Ok.start (Mo_al Hb) ⟨_, _, [], [], rfl, rfl, ow_sh.mpr ⟨rfl, q0⟩, ⟨_, _, [], [], rfl, rfl, ow_sh.mpr ⟨rfl, q1⟩, ⟨rfl, rfl⟩⟩⟩
  have hu := hu_of hr
  refine ⟨_, (pss_cons (ps_expr (pe_callX R_check_text hr (by rfl) (fun σ => L2N.passAt tk σ) (pa_cons (pv 1) pa_nil)))
 (pss_cons (ps_set (i := 2) sc_Punch_write.nd rfl (.inl rfl) (pe_callO O_written hr (by rfl) pass0 (pa_cons (pe_fld (pv 0) rfl) (pa_cons (pe_fld (pv 0) rfl) (pa_cons (pv 1) pa_nil)))))
 (pss_cons (ps_if (pt_val (pe_callB (kcall_isi (K := K)) (by rfl) T.z_isinstance (by decide +kernel) (pa_cons (pv 2) (pa_cons (pe_glob (v := .ref (cA mg "Barred")) (by rfl) T.k_Barred.at_ rfl) pa_nil))))
  (pss_one (ps_ret pe_non))
  pss_nil)
 (pss_one (ps_ret (pe_methU S_become hr pass0 (pv 0) (pa_cons (pe_fld (pv 2) rfl) pa_nil))))))), ?_⟩
  exact zx_call (ag_V (ok.ev (i := 1) (v := VS [113, 81]) rfl) ag_nil) rfl (fun vs H1 hp => by obtain ⟨v, r, rfl, hv, rfl⟩ := hp; exact ⟨by rw [show v = VS [113, 81] from hv], rfl, rfl⟩) fun H' d e q => hE H' d e q
def RX_Punch_feed (K : PySem.W.Frag) (mg : Str → Option Value) : List V → Hp → Value → Option (List (Str × V)) → Prop := fun vs H cls fs => ∃ rd w t n many, AllP [isR Mo (uPunch mg w rd t n), isR Mo (uI many)] vs H ∧ (t.length ≤ 1000 ∧ fs = none ∧ ((many < 0 ∧ cls = .ref (cA mg "BadNumber")) ∨ (0 ≤ many ∧ 30 < (t.length : Int) + many ∧ cls = .ref (cA mg "TooLong"))))
abbrev spX_Punch_feed (K : PySem.W.Frag) (mg : Str → Option Value) : Sp := spE 2 (RX_Punch_feed K mg)
theorem okX_Punch_feed (T : Txt K mg) : RunM P wW K mg base (CXN P wW) (cA mg "Punch") "feed" 2 (spX_Punch_feed K mg) := by
  have O_is_whole : OkF P wW K mg base CX0 "is_whole" 1 (sp_is_whole K) := ok_is_whole T
  refine RunM.ofXD T.m_Punch_feed sc_Punch_feed (fun vs H Q E h => h.1) (fun f cdv A outer s Hb vs Q E hr h => ?_)
  obtain ⟨-, cls, fs, ⟨rd, w, t, n, many, ⟨v0, r0, rfl, q0, ⟨v1, r1, rfl, q1, rfl⟩⟩, htl, rfl, hcase⟩, hE⟩ := h
  have tk : L2N.Takes (cxOf (CXN P wW) P wW K mg base N_Punch_feed "Punch.feed" (defScope s_Punch_feed) f cdv A outer s Hb E) (fun cls d _ H => E cls d H) := L2N.takes_of rfl rfl rfl rfl
  have ok : Ok Mo (fun H' O' => Lt Hb Mo H' O') [st (uPunch mg w rd t n), st (uI many)] _ Hb Mo := Ok.start (Mo_al Hb) ⟨_, _, [], [], rfl, rfl, ow_sh.mpr ⟨rfl, q0⟩, ⟨_, _, [], [], rfl, rfl, ow_sh.mpr ⟨rfl, q1⟩, ⟨rfl, rfl⟩⟩⟩
  have hu := hu_of hr
  refine ⟨_, (pss_cons (ps_if (PW.pt (pw_or (pt_not (pt_val (pe_callO O_is_whole hr (by rfl) pass0 (pa_cons (pv 1) pa_nil)))) (pw_or1 (pt_cmpR op_lt (pv 1) pe_int (nomark _)))))
  (pss_one (L2N.ps_raise rfl tk (pmk_x T.x_BadNumber rfl)))
  pss_nil)
 (pss_cons (ps_if (pt_cmpR op_gt (pe_op op_add (pe_callB (kcb_lenQ (K := K)) (by rfl) T.z_len (by decide +kernel) (pa_cons (pe_fld (pv 0) rfl) pa_nil)) (pv 1)) (pe_gi (by rfl) T.c_MOST) (nomark _))
  (pss_one (L2N.ps_raise rfl tk (pmk_x T.x_TooLong rfl)))
  pss_nil)
 (pss_one (ps_expr (pe_bm PySem.F.plainAttrs_list PySem.F.slot_list_extend PySem.F.type_list_extend mt_extend (pe_fld (pv 0) rfl) (pa_cons (pe_op op_rep (pe_lst (pa_cons (pe_op op_mulS (pe_gs (by rfl) T.c_BLANK) (pe_fld (pv 0) rfl)) pa_nil)) (pv 1)) pa_nil)))))), ?_⟩
  refine b_whenE (b := decide (many < 0)) ok (EvT.is (et_or (et_not (et_B (ev_is_whole (ag_V (ok.ev rfl) ag_nil)))) (fun hb44 => (et_test (ev_lt (ok.ev rfl) ev_c)))) (by simp)) (fun hb M H ok => ?_) (fun hb M H ok => ?_)
  · rw [decide_eq_true_eq] at hb
    rcases hcase with ⟨-, rfl⟩ | ⟨h0, -⟩
    · exact hE H none (fun a o e => ok.z.1 a o id e) rfl
    · omega
  · rw [decide_eq_false_iff_not] at hb
    rcases hcase with ⟨h0, -⟩ | ⟨h0, h30, rfl⟩
    · omega
    · refine b_whenE (b := true) ok (EvT.is (et_test (ev_gt (ev_add (ev_lenQ (q_r (EvR.is (r_fld (ns := ["width", "reader", "rows", "made"]) uN (ok.nx rfl rfl) T.k_Punch.cl T.f_Punch_rows 2 rfl (by decide +kernel) rfl) (by rfl)))) (ok.ev rfl)) ev_c)) (by simp; omega)) (fun _ M H ok => ?_) (fun e => nomatch e)
      exact hE H none (fun a o e => ok.z.1 a o id e) rfl
def RX_Punch_check_place (K : PySem.W.Frag) (mg : Str → Option Value) : List V → Hp → Value → Option (List (Str × V)) → Prop := fun vs H cls fs => ∃ rd w t n pc, AllP [isR Mo (uPunch mg w rd t n), isR Mo (uI pc)] vs H ∧ ((pc < 0 ∨ (t.length : Int) ≤ pc) ∧ cls = .ref (cA mg "BadPlace") ∧ fs = none)
abbrev spX_Punch_check_place (K : PySem.W.Frag) (mg : Str → Option Value) : Sp := spE 2 (RX_Punch_check_place K mg)
theorem okX_Punch_check_place (T : Txt K mg) : RunM P wW K mg base (CXN P wW) (cA mg "Punch") "check_place" 2 (spX_Punch_check_place K mg) := by
  have O_is_whole : OkF P wW K mg base CX0 "is_whole" 1 (sp_is_whole K) := ok_is_whole T
  refine RunM.ofX T.m_Punch_check_place sc_Punch_check_place (fun vs H Q E h => h.1) (fun f cdv A outer s Hb vs Q E hr h => ?_)
  obtain ⟨-, cls, fs, ⟨rd, w, t, n, pc, ⟨v0, r0, rfl, q0, ⟨v1, r1, rfl, q1, rfl⟩⟩, hpc, rfl, rfl⟩, hE⟩ := h
  have tk : L2N.Takes (cxOf (CXN P wW) P wW K mg base N_Punch_check_place "Punch.check_place" (defScope s_Punch_check_place) f cdv A outer s Hb E) (fun cls d _ H => E cls d H) := L2N.takes_of rfl rfl rfl rfl
  have ok : Ok Mo (fun H' O' => Lt Hb Mo H' O') [st (uPunch mg w rd t n), st (uI pc)] _ Hb Mo := Ok.start (Mo_al Hb) ⟨_, _, [], [], rfl, rfl, ow_sh.mpr ⟨rfl, q0⟩, ⟨_, _, [], [], rfl, rfl, ow_sh.mpr ⟨rfl, q1⟩, ⟨rfl, rfl⟩⟩⟩
  have hu := hu_of hr
  refine ⟨_, (pss_one (ps_if (PW.pt (pw_or (pt_not (pt_val (pe_callO O_is_whole hr (by rfl) pass0 (pa_cons (pv 1) pa_nil)))) (pw_or1 (pt_not (pt_chain op_le op_lt pe_int (pv 1) (pe_callB (kcb_lenQ (K := K)) (by rfl) T.z_len (by decide +kernel) (pa_cons (pe_fld (pv 0) rfl) pa_nil)))))))
  (pss_one (L2N.ps_raise rfl tk (pmk_x T.x_BadPlace rfl)))
  pss_nil)), ?_⟩
  refine c_whenE (b := true) ok (EvT.is (et_or (et_not (et_B (ev_is_whole (ag_V (ok.ev rfl) ag_nil)))) (fun hb44 => (et_not (et_test (ev_chain ev_c (ok.ev rfl) (ev_lenQ (q_r (EvR.is (r_fld (ns := ["width", "reader", "rows", "made"]) uN (ok.nx rfl rfl) T.k_Punch.cl T.f_Punch_rows 2 rfl (by decide +kernel) rfl) (by rfl))))))))) (by simp; omega)) (fun _ M H ok => ?_) (fun e => nomatch e)
  exact hE H none (fun a o e => ok.z.1 a o id e) rfl
def RX_Punch_strike (K : PySem.W.Frag) (mg : Str → Option Value) : List V → Hp → Value → Option (List (Str × V)) → Prop := fun vs H cls fs => ∃ rd w t n pc r, AllP [isR Mo (uPunch mg w rd t n), isR Mo (uI pc), isR Mo (uS r)] vs H ∧ (r.length ≤ 10 ∧ fs = none ∧ (pc < 0 ∨ (t.length : Int) ≤ pc) ∧ cls = .ref (cA mg "BadPlace"))
abbrev spX_Punch_strike (K : PySem.W.Frag) (mg : Str → Option Value) : Sp := spE 3 (RX_Punch_strike K mg)
theorem okX_Punch_strike (T : Txt K mg) : RunM P wW K mg base (CXN P wW) (cA mg "Punch") "strike" 4 (spX_Punch_strike K mg) := by
  have S_check_place := hsel_check_place (P := P) (wW := wW) (base := base) T
  have S_become := hsel_become (P := P) (wW := wW) (base := base) T
  have O_is_row : OkF P wW K mg base CX0 "is_row" 1 (sp_is_row K) := ok_is_row T
  have O_goes_over : OkF P wW K mg base CX0 "goes_over" 1 (sp_goes_over K) := ok_goes_over T
  have R_Punch_check_place := okX_Punch_check_place (P := P) (wW := wW) (base := base) T
  refine RunM.ofX T.m_Punch_strike sc_Punch_strike (fun vs H Q E h => h.1) (fun f cdv A outer s Hb vs Q E hr h => ?_)
  obtain ⟨-, cls, fs, ⟨rd, w, t, n, pc, r, ⟨v0, r0, rfl, q0, ⟨v1, r1, rfl, q1, ⟨v2, r2, rfl, q2, rfl⟩⟩⟩, hrl, rfl, hpc, rfl⟩, hE⟩ := h
  have tk : L2N.Takes (cxOf (CXN P wW) P wW K mg base N_Punch_strike "Punch.strike" (defScope s_Punch_strike) f cdv A outer s Hb E) (fun cls d _ H => E cls d H) := L2N.takes_of rfl rfl rfl rfl
  have ok : Ok Mo (fun H' O' => Lt Hb Mo H' O') [st (uPunch mg w rd t n), st (uI pc), st (uS r)] _ Hb Mo := Ok.start (Mo_al Hb) ⟨_, _, [], [], rfl, rfl, ow_sh.mpr ⟨rfl, q0⟩, ⟨_, _, [], [], rfl, rfl, ow_sh.mpr ⟨rfl, q1⟩, ⟨_, _, [], [], rfl, rfl, ow_sh.mpr ⟨rfl, q2⟩, ⟨rfl, rfl⟩⟩⟩⟩
  have hu := hu_of hr
  refine ⟨_, (pss_cons (ps_expr (pe_methX T.k_Punch.cl R_Punch_check_place hr (fun σ => L2N.passAt tk σ) (pv 0) (pa_cons (pv 1) pa_nil)))
 (pss_cons (ps_if (pt_not (pt_val (pe_callO O_is_row hr (by rfl) pass0 (pa_cons (pv 2) (pa_cons (pe_fld (pv 0) rfl) pa_nil)))))
  (pss_one (L2N.ps_raise rfl tk (pmk_x T.x_BadRow rfl)))
  pss_nil)
 (pss_cons (ps_if (pt_not (pt_val (pe_callO O_goes_over hr (by rfl) pass0 (pa_cons (pe_ix (kix_list (K := K)) (pe_fld (pv 0) rfl) (pv 1) (fun _ _ => rfl)) (pa_cons (pv 2) pa_nil)))))
  (pss_one (L2N.ps_raise rfl tk (pmk_x T.x_NotSo rfl)))
  pss_nil)
 (pss_one (ps_expr (pe_methU S_become hr pass0 (pv 0) (pa_cons (pe_op op_cat (pe_op op_cat (pe_slice (ksl_list (K := K)) (pe_fld (pv 0) rfl) po_none (po_some (pv 1))) (pe_lst (pa_cons (pv 2) pa_nil))) (pe_slice (ksl_list (K := K)) (pe_fld (pv 0) rfl) (po_some (pe_op op_add (pv 1) pe_int)) po_none)) pa_nil))))))), ?_⟩
  exact zx_meth (ok.ro (i := 0) rfl) (ag_R (r_ev (ok.ev (i := 1) (v := .int pc) rfl)) ag_nil) (by decide +kernel) rfl (fun vs H1 hp => ⟨rd, w, t, n, pc, hp, hpc, rfl, rfl⟩) fun H' d e q => hE H' d e q
def RW_Punch_strike (K : PySem.W.Frag) (mg : Str → Option Value) : List V → Hp → Value → Option (List (Str × V)) → Prop := fun vs H cls fs => ∃ rd w t n pc r, AllP [isR Mo (uPunch mg w rd t n), isR Mo (uI pc), isR Mo (uS r)] vs H ∧ (r.length ≤ 10 ∧ fs = none ∧ 0 ≤ pc ∧ pc < (t.length : Int) ∧
  ((isRow r (w : Int) = false ∧ cls = .ref (cA mg "BadRow")) ∨ (isRow r (w : Int) = true ∧ (t.getD pc.toNat []).length ≤ 4 ∧ goes (t.getD pc.toNat []) r = false ∧ cls = .ref (cA mg "NotSo"))))
abbrev spW_Punch_strike (K : PySem.W.Frag) (mg : Str → Option Value) : Sp := spE 3 (RW_Punch_strike K mg)
theorem okW_Punch_strike (T : Txt K mg) : RunM P wW K mg base (CXN P wW) (cA mg "Punch") "strike" 4 (spW_Punch_strike K mg) := by
  have S_check_place := hsel_check_place (P := P) (wW := wW) (base := base) T
  have S_become := hsel_become (P := P) (wW := wW) (base := base) T
  have O_is_row : OkF P wW K mg base CX0 "is_row" 1 (sp_is_row K) := ok_is_row T
  have O_goes_over : OkF P wW K mg base CX0 "goes_over" 1 (sp_goes_over K) := ok_goes_over T
  refine RunM.ofX T.m_Punch_strike sc_Punch_strike (fun vs H Q E h => h.1) (fun f cdv A outer s Hb vs Q E hr h => ?_)
  obtain ⟨-, cls, fs, ⟨rd, w, t, n, pc, r, ⟨v0, r0, rfl, q0, ⟨v1, r1, rfl, q1, ⟨v2, r2, rfl, q2, rfl⟩⟩⟩, hrl, rfl, p1, p2, hcase⟩, hE⟩ := h
  have tk : L2N.Takes (cxOf (CXN P wW) P wW K mg base N_Punch_strike "Punch.strike" (defScope s_Punch_strike) f cdv A outer s Hb E) (fun cls d _ H => E cls d H) := L2N.takes_of rfl rfl rfl rfl
  have ok : Ok Mo (fun H' O' => Lt Hb Mo H' O') [st (uPunch mg w rd t n), st (uI pc), st (uS r)] _ Hb Mo := Ok.start (Mo_al Hb) ⟨_, _, [], [], rfl, rfl, ow_sh.mpr ⟨rfl, q0⟩, ⟨_, _, [], [], rfl, rfl, ow_sh.mpr ⟨rfl, q1⟩, ⟨_, _, [], [], rfl, rfl, ow_sh.mpr ⟨rfl, q2⟩, ⟨rfl, rfl⟩⟩⟩⟩
  have hu := hu_of hr
  refine ⟨_, (pss_cons (ps_expr (pe_methU S_check_place hr pass0 (pv 0) (pa_cons (pv 1) pa_nil)))
 (pss_cons (ps_if (pt_not (pt_val (pe_callO O_is_row hr (by rfl) pass0 (pa_cons (pv 2) (pa_cons (pe_fld (pv 0) rfl) pa_nil)))))
  (pss_one (L2N.ps_raise rfl tk (pmk_x T.x_BadRow rfl)))
  pss_nil)
 (pss_cons (ps_if (pt_not (pt_val (pe_callO O_goes_over hr (by rfl) pass0 (pa_cons (pe_ix (kix_list (K := K)) (pe_fld (pv 0) rfl) (pv 1) (fun _ _ => rfl)) (pa_cons (pv 2) pa_nil)))))
  (pss_one (L2N.ps_raise rfl tk (pmk_x T.x_NotSo rfl)))
  pss_nil)
 (pss_one (ps_expr (pe_methU S_become hr pass0 (pv 0) (pa_cons (pe_op op_cat (pe_op op_cat (pe_slice (ksl_list (K := K)) (pe_fld (pv 0) rfl) po_none (po_some (pv 1))) (pe_lst (pa_cons (pv 2) pa_nil))) (pe_slice (ksl_list (K := K)) (pe_fld (pv 0) rfl) (po_some (pe_op op_add (pv 1) pe_int)) po_none)) pa_nil))))))), ?_⟩
  refine b_dropS ok (p_ev (ev_Punch_check_place (by walk_at "sel") (ok.ro rfl) (ag_R (r_ev (ok.ev rfl)) ag_nil) p1 p2)) fun M H ok => ?_
  rcases hcase with ⟨p4, rfl⟩ | ⟨p4, p6, p5, rfl⟩
  · refine b_whenE (b := true) ok (EvT.is (et_not (et_B (ev_is_row (ag_V (ok.ev rfl) (ag_V (ev_r (EvR.is (r_fld (ns := ["width", "reader", "rows", "made"]) uN (ok.nn rfl) T.k_Punch.cl T.f_Punch_width 0 rfl (by decide +kernel) rfl) (by rfl))) ag_nil)) (by omega)))) (by rw [p4]; rfl)) (fun _ M H ok => ?_) (fun e => nomatch e)
    exact hE H none (fun a o e => ok.z.1 a o id e) rfl
  · refine b_skipE ok (EvT.is (et_not (et_B (ev_is_row (ag_V (ok.ev rfl) (ag_V (ev_r (EvR.is (r_fld (ns := ["width", "reader", "rows", "made"]) uN (ok.nn rfl) T.k_Punch.cl T.f_Punch_width 0 rfl (by decide +kernel) rfl) (by rfl))) ag_nil)) (by omega)))) (by rw [p4]; rfl)) fun M H ok => ?_
    refine b_whenE (b := true) ok (EvT.is (et_not (et_B (ev_goes_over (ag_V (ev_ixQ ([] : Row) (q_r (EvR.is (r_fld (ns := ["width", "reader", "rows", "made"]) uN (ok.nn rfl) T.k_Punch.cl T.f_Punch_rows 2 rfl (by decide +kernel) rfl) (by rfl))) (ok.ev rfl) p1 p2) (ag_V (ok.ev rfl) ag_nil)) (by omega)))) (by rw [p5]; rfl)) (fun _ M H ok => ?_) (fun e => nomatch e)
    exact hE H none (fun a o e => ok.z.1 a o id e) rfl
def RX_Punch_rub (K : PySem.W.Frag) (mg : Str → Option Value) : List V → Hp → Value → Option (List (Str × V)) → Prop := fun vs H cls fs => ∃ rd w t n pc, AllP [isR Mo (uPunch mg w rd t n), isR Mo (uI pc)] vs H ∧ ((pc < 0 ∨ (t.length : Int) ≤ pc) ∧ cls = .ref (cA mg "BadPlace") ∧ fs = none)
abbrev spX_Punch_rub (K : PySem.W.Frag) (mg : Str → Option Value) : Sp := spE 2 (RX_Punch_rub K mg)
theorem okX_Punch_rub (T : Txt K mg) : RunM P wW K mg base (CXN P wW) (cA mg "Punch") "rub" 5 (spX_Punch_rub K mg) := by
  have S_check_place := hsel_check_place (P := P) (wW := wW) (base := base) T
  have S_strike := hsel_strike (P := P) (wW := wW) (base := base) T
  have R_Punch_check_place := okX_Punch_check_place (P := P) (wW := wW) (base := base) T
  refine RunM.ofX T.m_Punch_rub sc_Punch_rub (fun vs H Q E h => h.1) (fun f cdv A outer s Hb vs Q E hr h => ?_)
  obtain ⟨-, cls, fs, ⟨rd, w, t, n, pc, ⟨v0, r0, rfl, q0, ⟨v1, r1, rfl, q1, rfl⟩⟩, hpc, rfl, rfl⟩, hE⟩ := h
  have tk : L2N.Takes (cxOf (CXN P wW) P wW K mg base N_Punch_rub "Punch.rub" (defScope s_Punch_rub) f cdv A outer s Hb E) (fun cls d _ H => E cls d H) := L2N.takes_of rfl rfl rfl rfl
  have ok : Ok Mo (fun H' O' => Lt Hb Mo H' O') [st (uPunch mg w rd t n), st (uI pc)] _ Hb Mo := Ok.start (Mo_al Hb) ⟨_, _, [], [], rfl, rfl, ow_sh.mpr ⟨rfl, q0⟩, ⟨_, _, [], [], rfl, rfl, ow_sh.mpr ⟨rfl, q1⟩, ⟨rfl, rfl⟩⟩⟩
  have hu := hu_of hr
  refine ⟨_, (pss_cons (ps_expr (pe_methX T.k_Punch.cl R_Punch_check_place hr (fun σ => L2N.passAt tk σ) (pv 0) (pa_cons (pv 1) pa_nil)))
 (pss_one (ps_expr (pe_methU S_strike hr pass0 (pv 0) (pa_cons (pv 1) (pa_cons (pe_op op_mulS (pe_gs (by rfl) T.c_HOLE) (pe_fld (pv 0) rfl)) pa_nil)))))), ?_⟩
  exact zx_meth (ok.ro (i := 0) rfl) (ag_R (r_ev (ok.ev (i := 1) (v := .int pc) rfl)) ag_nil) (by decide +kernel) rfl (fun vs H1 hp => ⟨rd, w, t, n, pc, hp, hpc, rfl, rfl⟩) fun H' d e q => hE H' d e q
theorem okH_Punch_standing (T : Txt K mg) : ∃ f fd, Meth K (cA mg "Punch") "standing" f ∧ L2H.FnH P wW K mg base CX0 1 f fd ["self"] (sp_Punch_standing K mg) ∧ Binds K fd ["self"] [] := by
  obtain ⟨f, fd, hm, F, b⟩ := T.m_Punch_standing.ex
  obtain ⟨⟨oc, od, kV, doc, pm, an, cdv, ct, osl, rfl, lk, hcd⟩, kp⟩ := F
  refine ⟨f, _, hm, L2H.fn_ofH lk hcd sc_Punch_standing (fun vs H Q E h => h.1) (fun A outer s Hb vs Q E pp hot hr h => ?_), b⟩
  obtain ⟨-, F, d0, p0_, al, ⟨rd, w, t, n, ⟨v0, r0, rfl, q0, rfl⟩, -, rfl, rfl⟩, k⟩ := h
  have ok : Ok F (fun H' O' => Lt Hb Mo H' O') [st (uPunch mg w rd t n)] _ Hb F := Ok.start al ⟨_, _, [], [], rfl, rfl, ow_sh.mpr ⟨rfl, q0⟩, ⟨rfl, rfl⟩⟩
  have zz : ∀ (H' : Hp) (O' : Addr → Prop), Lt Hb Mo H' O' → Lt Hb Mo H' O' := fun _ _ z => z
  refine ⟨_, (pss_one (ps_ret (pe_callTy (kct_list (K := K)) (by rfl) T.z_list (by decide +kernel) (pa_cons (pe_fld (pv 0) rfl) pa_nil)))), ?_⟩
  exact c_ret ok (p_list (r_n (EvR.is (r_fld (ns := ["width", "reader", "rows", "made"]) uN (ok.nx rfl rfl) T.k_Punch.cl T.f_Punch_rows 2 rfl (by decide +kernel) rfl) (by rfl)))) k zz
theorem eo_Punch_standingH {E : L2.St → XK} {ta : TE} {σ : L2.St} {H : Hp} {rd : Dic} {w : Nat} {t : List Row} {n : Int} (h0 : EvR Mo ta σ H (uPunch mg w rd t n)) : EvP Mo (L2H.tMethH (cA mg "Punch") "standing" (sp_Punch_standing K mg) E ta tNil) σ H (uL uS t) (.ow .sh) :=
  p_scal (p_methH (Mo_al H) h0 ag_nil (by decide +kernel) rfl fun vs H1 hp => ⟨rd, w, t, n, hp, trivial, rfl, rfl⟩) scal_LS
def R__law_bad (K : PySem.W.Frag) (mg : Str → Option Value) : (Addr → Prop) → List V → Hp → Dt → Pat → Dt → Pat → Dt → Prop := fun F vs H d0 q0 d1 q1 d => ∃ (rd : Dic) (w : Nat) (t : List Row) (n num : Int), AllP [isR F (uI (w : Int)), isR F (uI num)] vs H ∧ ((TpOk t w) ∧ (w ≤ 4) ∧ (t.length ≤ 10) ∧ True) ∧ d0 = uPunch mg w rd t n ∧ q0 = pP ∧ d1 = uPunch mg w rd t n ∧ q1 = pP ∧ d = (Dt.sc (.bl true))
def sp__law_bad (K : PySem.W.Frag) (mg : Str → Option Value) : Sp := spX 2 (R__law_bad K mg)
theorem xv__law_bad {K : PySem.W.Frag} {mg : Str → Option Value} {F : Addr → Prop} {Z : Hp → (Addr → Prop) → Prop} {ρ : List Sl} {σ : L2.St} {H : Hp} {M : Addr → Prop} {i : Nat} {tr : TA} {E : XK} {rd : Dic} {w : Nat} {t : List Row} {n num : Int} (ok : Ok F Z ρ σ H M) (hi : ρ[i]? = some (.own (uPunch mg w rd t n) (pP))) (h : EvAG tr σ H [isR M (uI (w : Int)), isR M (uI num)]) (p0 : TpOk t w) (p1 : w ≤ 4) (p2 : t.length ≤ 10) : XV (tCallO (sp__law_bad K mg) E (tCons (tVar i) tr)) F Z (ρ.set i (.own (uPunch mg w rd t n) (pP))) σ H (Dt.sc (.bl true)) := x_callX ok hi h rfl fun vs H1 hp => ⟨rd, w, t, n, num, hp, ⟨p0, p1, p2, trivial⟩, rfl, rfl, rfl, rfl, rfl⟩
theorem ok__law_bad (T : Txt K mg) : OkF P wW K mg base CX0 "_law_bad" 7 (sp__law_bad K mg) := by
  have S_standing := hsel_standing (P := P) (wW := wW) (base := base) T
  have S_feed := hsel_feed (P := P) (wW := wW) (base := base) T
  have D_Punch_feed : OkMD P wW K mg base CX0 (cA mg "Punch") "feed" 2 (sp_Punch_feed K mg) [.int 1] := ok_Punch_feed T
  have S_write := hsel_write (P := P) (wW := wW) (base := base) T
  have S_strike := hsel_strike (P := P) (wW := wW) (base := base) T
  have S_rub := hsel_rub (P := P) (wW := wW) (base := base) T
  refine OkF.of T.d__law_bad sc__law_bad (fun vs H Q E h => h.1) (fun f cdv A outer s Hb vs Q E hr h => ?_)
  obtain ⟨-, F, x_, r_, bs0, d0, p0_, d1, p1_, d_, rfl, nb, nf, al, w0, ⟨rd, w, t, n, num, ⟨v1, r1, rfl, q1, ⟨v2, r2, rfl, q2, rfl⟩⟩, ⟨p0, p1, p2, -⟩, rfl, rfl, rfl, rfl, rfl⟩, k⟩ := h
  have ok : Ok F (fun H' O' => Lt Hb (· ∈ bs0) H' O') [.own (uPunch mg w rd t n) (pP), st (uI (w : Int)), st (uI num), .una, .una] _ Hb (Mb F bs0) := Ok.startX al nf nb w0.al ⟨_, _, bs0, [], rfl, (List.append_nil _).symm, w0, ⟨_, _, [], [], rfl, rfl, ow_sh.mpr ⟨rfl, q1⟩, ⟨_, _, [], [], rfl, rfl, ow_sh.mpr ⟨rfl, q2⟩, ⟨_, rfl, ⟨_, rfl, ⟨rfl, rfl⟩⟩⟩⟩⟩⟩
  have zz : ∀ (H' : Hp) (O' : Addr → Prop), Lt Hb (· ∈ bs0) H' O' → Lt Hb (· ∈ bs0) H' O' := fun _ _ z => z
  have hu := hu_of hr
  obtain ⟨fI, fdI, XF, hno, FI, BI⟩ := T.xq_BadText.ex
  obtain ⟨fH, fdH, HM, FH, HB⟩ := okH_Punch_standing (P := P) (wW := wW) (base := base) T
  have R_Punch_feed : RunM P wW K mg base (CXN P wW) (cA mg "Punch") "feed" 6 (spX_Punch_feed K mg) := (okX_Punch_feed T).mono (by decide)
  have R_Punch_write : RunM P wW K mg base (CXN P wW) (cA mg "Punch") "write" 6 (spX_Punch_write K mg) := (okX_Punch_write T).mono (by decide)
  have R_Punch_rub : RunM P wW K mg base (CXN P wW) (cA mg "Punch") "rub" 6 (spX_Punch_rub K mg) := (okX_Punch_rub T).mono (by decide)
  have R_Punch_strike : RunM P wW K mg base (CXN P wW) (cA mg "Punch") "strike" 6 (spOr (sp_Punch_strike K mg) (spOr (spX_Punch_strike K mg) (spW_Punch_strike K mg))) := ((RunM.of (S_strike _ _ (by walk_at "sel")).2).up.mono (by decide)).or (((okX_Punch_strike T).mono (by decide)).or ((okW_Punch_strike T).mono (by decide)))
  refine ⟨_, (pss_cons (ps_set (i := 3) sc__law_bad.nd rfl (.inl rfl) (pe_callB (kcb_lenQ (K := K)) (by rfl) T.z_len (by decide +kernel) (pa_cons (pe_methU0 S_standing hr pass0 (pv 0)) pa_nil)))
 (pss_cons (ps_tryC rfl rfl sc__law_bad.nd takesN0 (fun WW pn xe tk xo => (pss_one (ps_if (pt_cmpR op_eq (pe_op op_mod (pv 2) pe_int) pe_int (nomark _))
  (pss_one (ps_expr (pe_methX T.k_Punch.cl R_Punch_feed hr (fun σ => L2N.passAt tk σ) (pv 0) (pa_cons (pe_un un_neg pe_int) pa_nil))))
  (pss_one (ps_if (pt_cmpR op_eq (pe_op op_mod (pv 2) pe_int) pe_int (nomark _))
  (pss_one (ps_expr (pe_methX T.k_Punch.cl R_Punch_feed hr (fun σ => L2N.passAt tk σ) (pv 0) (pa_cons (pe_op op_sub pe_int (pv 3)) pa_nil))))
  (pss_one (ps_if (pt_cmpR op_eq (pe_op op_mod (pv 2) pe_int) pe_int (nomark _))
  (pss_one (ps_expr (pe_methX T.k_Punch.cl R_Punch_write hr (fun σ => L2N.passAt tk σ) (pv 0) (pa_cons pe_str pa_nil))))
  (pss_one (ps_if (pt_cmpR op_eq (pe_op op_mod (pv 2) pe_int) pe_int (nomark _))
  (pss_one (ps_expr (pe_methX T.k_Punch.cl R_Punch_strike hr (fun σ => L2N.passAt tk σ) (pv 0) (pa_cons (pv 3) (pa_cons (pe_op op_mulS pe_str (pv 1)) pa_nil)))))
  (pss_one (ps_if (pt_cmpR op_eq (pe_op op_mod (pv 2) pe_int) pe_int (nomark _))
  (pss_one (ps_expr (pe_methX T.k_Punch.cl R_Punch_rub hr (fun σ => L2N.passAt tk σ) (pv 0) (pa_cons (pe_un un_neg pe_int) pa_nil))))
  (pss_one (ps_if (pt_cmpR op_eq (pe_op op_mod (pv 2) pe_int) pe_int (nomark _))
  (pss_one (ps_expr (pe_methX T.k_Punch.cl R_Punch_strike hr (fun σ => L2N.passAt tk σ) (pv 0) (pa_cons pe_int (pa_cons (pe_op op_mulS pe_str (pe_op op_add (pv 1) pe_int)) pa_nil)))))
  (pss_one (ps_expr (pe_methX T.k_Punch.cl R_Punch_strike hr (fun σ => L2N.passAt tk σ) (pv 0) (pa_cons (pe_op op_sub (pv 3) pe_int) (pa_cons (pe_op op_mulS pe_str (pv 1)) pa_nil)))))))))))))))))) (ClsOk.plain (ts := fun a cls d => tRet (tOp rEq (tOp (rI (fun _ j => 0 < j) fun i j => .int (i % j)) (tVar 2) (tC (.int 7))) (tC (.int 0)))) ⟨rfl, by decide, .inl T.x_BadNumber.at_⟩ (fun a oe cls d pn hz hf => (pss_one (ps_ret (pe_cmpR op_eq (pe_op op_mod (pv 2) pe_int) pe_int (nomark _))))) (ClsOk.plain (ts := fun a cls d => tRet (tOp rEq (tOp (rI (fun _ j => 0 < j) fun i j => .int (i % j)) (tVar 2) (tC (.int 7))) (tC (.int 1)))) ⟨rfl, by decide, .inl T.x_TooLong.at_⟩ (fun a oe cls d pn hz hf => (pss_one (ps_ret (pe_cmpR op_eq (pe_op op_mod (pv 2) pe_int) pe_int (nomark _))))) (ClsOk.named (i := 4) (ts := fun a cls d => tRet (tAndV (tOp rEq (tOp (rI (fun _ j => 0 < j) fun i j => .int (i % j)) (tVar 2) (tC (.int 7))) (tC (.int 2))) (tOp rEq (tXf a cls d (cA mg "BadText") "place" (tVar 4)) (tC (.int 1))))) rfl rfl ⟨rfl, by decide, .inl XF.at_⟩ (fun a oe cls d pn hz hf => (pss_one (ps_ret (pe_and (pe_cmpR op_eq (pe_op op_mod (pv 2) pe_int) pe_int (nomark _)) (pe_one (pe_cmpR op_eq (pe_xf XF.xf hno hz.zc hf (pv 4)) pe_int (nomark _))))))) (ClsOk.plain (ts := fun a cls d => tRet (tOrV (tOp (rIn K false) (tOp (rI (fun _ j => 0 < j) fun i j => .int (i % j)) (tVar 2) (tC (.int 7))) (tTup (tCons (tC (.int 3)) (tCons (tC (.int 4)) tNil)))) (tOp rEq (tVar 3) (tC (.int 0))))) ⟨rfl, by decide, .inl T.x_BadPlace.at_⟩ (fun a oe cls d pn hz hf => (pss_one (ps_ret (pe_or (pe_cmpR (kop_in (K := K)) (pe_op op_mod (pv 2) pe_int) (pe_tup (pa_cons pe_int (pa_cons pe_int pa_nil))) rfl) (pe_one (pe_cmpR op_eq (pv 3) pe_int (nomark _))))))) (ClsOk.plain (ts := fun a cls d => tRet (tOp rEq (tOp (rI (fun _ j => 0 < j) fun i j => .int (i % j)) (tVar 2) (tC (.int 7))) (tC (.int 5)))) ⟨rfl, by decide, .inl T.x_BadRow.at_⟩ (fun a oe cls d pn hz hf => (pss_one (ps_ret (pe_cmpR op_eq (pe_op op_mod (pv 2) pe_int) pe_int (nomark _))))) (ClsOk.plain (ts := fun a cls d => tRet (tAndV (tOp rEq (tOp (rI (fun _ j => 0 < j) fun i j => .int (i % j)) (tVar 2) (tC (.int 7))) (tC (.int 6))) (tOp (rInC false) (tC (.str "o")) (tOp (rIxL K) (L2H.tMethH (cA mg "Punch") "standing" (sp_Punch_standing K mg) (fun _ _ _ _ => False) (tVar 0) tNil) (tUn (rU fun i => .int (-i)) (tC (.int 1))))))) ⟨rfl, by decide, .inl T.x_NotSo.at_⟩ (fun a oe cls d pn hz hf => (pss_one (ps_ret (pe_and (pe_cmpR op_eq (pe_op op_mod (pv 2) pe_int) pe_int (nomark _)) (pe_one (pe_cmpR op_inC pe_str (pe_ix (kix_list (K := K)) (pe_methH0 (pv 0) T.k_Punch.cl HM FH ⟨(hr.mono (show 1 ≤ 6 by decide)).dp, (hr.mono (show 1 ≤ 6 by decide)).un⟩ ⟨(a, oe), ⟨rfl, hf.choose, hf.choose_spec, hz.2.2 _ hf.choose_spec⟩, List.mem_cons_self⟩ HB (fun _ => passAt0)) (pe_un un_neg pe_int) (fun _ _ => rfl)) rfl)))))) ClsOk.nil)))))))
 (pss_one (ps_ret (pe_and (pe_cmpR op_eq (pe_op op_mod (pv 2) pe_int) pe_int (nomark _)) (pe_and (pe_cmpR op_gt (pv 3) pe_int (nomark _)) (pe_one (pe_cmpR op_ninC pe_str (pe_ix (kix_list (K := K)) (pe_methU0 S_standing hr pass0 (pv 0)) (pe_un un_neg pe_int) (fun _ _ => rfl)) rfl)))))))), ?_⟩
  have hd0 := Int.emod_nonneg num (show (7 : Int) ≠ 0 by decide)
  have hd1 := Int.emod_lt_of_pos num (show (0 : Int) < 7 by decide)
  refine b_asgS (d := uI (t.length : Int)) (p := .sh) ok (p_ev (ev_lenQ (q_p (M := Mo) (eo_Punch_standing (by walk_at "sel") (ok.ro rfl) ag_nil)))) fun v M H ok => ?_
  have ok : Ok F (fun H' O' => Lt Hb (· ∈ bs0) H' O') [.own (uPunch mg w rd t n) pP, st (uI (w : Int)), st (uI num), st (uI (t.length : Int)), .una] _ H M := ok
  have ret : ∀ {te : TE} {D : Ends} {M : Addr → Prop} {H : Hp} {σ : L2.St} {s4 : Sl}, D.rt = Q → Ok F (fun H' O' => Lt Hb (· ∈ bs0) H' O') [.own (uPunch mg w rd t n) pP, st (uI (w : Int)), st (uI num), st (uI (t.length : Int)), s4] σ H M → σ[0]? = some (some x_) → EvR M te σ H (Dt.sc (.bl true)) → tRet te D σ H := by
    intro te D M H σ s4 hD ok h0 h
    exact c_retY (i := 0) ok h rfl h0 (by rw [hD]; exact k) zz
  have hx : isRow (List.replicate w 46) (w : Int) = true := isRow_dots p1
  refine c_ifE (b := decide (num % 7 = 0)) ok (et_test (ev_eqI (ev_mod (ok.ev rfl) ev_c (by walk_at "side")) ev_c)) (fun hb M H ok => ?_) (fun hb M H ok => ?_)
  · rw [decide_eq_true_eq] at hb
    refine c_dropX (n := 2) (R := RX_Punch_feed K mg) (fs := none) (cls := .ref (cA mg "BadNumber")) (fun _ _ _ _ h => h) (ok.ro (i := 0) rfl) (ag_R (r_ev (ev_neg ev_c)) ag_nil) (by decide +kernel) rfl (fun vs H1 hp => ⟨rd, w, t, n, -1, hp, by omega, rfl, .inl ⟨by decide, rfl⟩⟩) fun H' d e q => ?_
    have ok := ok.ex e
    refine ⟨true, T.em_BadNumber_BadNumber, fun _ a ha => ?_, fun e => nomatch e⟩
    exact ret rfl ok rfl (EvR.is (r_ev (ev_eqI (ev_mod (ok.ev rfl) ev_c (by decide)) ev_c)) (by rw [decide_eq_true hb]))
  rw [decide_eq_false_iff_not] at hb
  refine c_ifE (b := decide (num % 7 = 1)) ok (et_test (ev_eqI (ev_mod (ok.ev rfl) ev_c (by walk_at "side")) ev_c)) (fun hb1 M H ok => ?_) (fun hb1 M H ok => ?_)
  · rw [decide_eq_true_eq] at hb1
    refine c_dropX (n := 2) (R := RX_Punch_feed K mg) (fs := none) (cls := .ref (cA mg "TooLong")) (fun _ _ _ _ h => h) (ok.ro (i := 0) rfl) (ag_R (r_ev (ev_sub ev_c (ok.ev rfl))) ag_nil) (by decide +kernel) rfl (fun vs H1 hp => ⟨rd, w, t, n, 31 - (t.length : Int), hp, by omega, rfl, .inr ⟨by omega, by omega, rfl⟩⟩) fun H' d e q => ?_
    have ok := ok.ex e
    refine ⟨false, T.em_TooLong_BadNumber, (fun e => nomatch e), fun _ => ?_⟩
    refine ⟨true, T.em_TooLong_TooLong, fun _ a ha => ?_, fun e => nomatch e⟩
    exact ret rfl ok rfl (EvR.is (r_ev (ev_eqI (ev_mod (ok.ev rfl) ev_c (by decide)) ev_c)) (by rw [decide_eq_true hb1]))
  rw [decide_eq_false_iff_not] at hb1
  refine c_ifE (b := decide (num % 7 = 2)) ok (et_test (ev_eqI (ev_mod (ok.ev rfl) ev_c (by walk_at "side")) ev_c)) (fun hb2 M H ok => ?_) (fun hb2 M H ok => ?_)
  · rw [decide_eq_true_eq] at hb2
    refine c_dropX (n := 2) (R := RX_Punch_write K mg) (fs := some [(("place" : Str), V.int 1)]) (cls := .ref (cA mg "BadText")) (fun _ _ _ _ h => h) (ok.ro (i := 0) rfl) (ag_R (r_ev (ev_cS (l := [113, 81]) (by decide +kernel))) ag_nil) (by decide +kernel) rfl (fun vs H1 hp => ⟨rd, w, t, n, hp, rfl, rfl⟩) fun H' d e q => ?_
    have ok := ok.ex e
    obtain ⟨dd, rfl, hdn, hdd⟩ := q
    refine ⟨false, T.em_BadText_BadNumber, (fun e => nomatch e), fun _ => ?_⟩
    refine ⟨false, T.em_BadText_TooLong, (fun e => nomatch e), fun _ => ?_⟩
    refine ⟨true, T.em_BadText_BadText, fun _ a ha => ?_, fun e => nomatch e⟩
    have ok := ok.setR (i := 4) (Ex.refl _) (d := .sc (.ref a)) (v := .ref a) (by unfold Rp; rfl)
    refine ret rfl ok rfl (EvR.is (r_ev (ev_andV (ev_eqI (ev_mod (ok.ev (i := 2) rfl) ev_c (by decide)) ev_c) (fun hb1 => (ev_eqI (ev_xfp rfl hdd) ev_c)))) (by rw [decide_eq_true hb2]; rfl))
  rw [decide_eq_false_iff_not] at hb2
  refine c_ifE (b := decide (num % 7 = 3)) ok (et_test (ev_eqI (ev_mod (ok.ev rfl) ev_c (by walk_at "side")) ev_c)) (fun hb3 M H ok => ?_) (fun hb3 M H ok => ?_)
  · rw [decide_eq_true_eq] at hb3
    refine c_dropX (n := 3) (R := RX_Punch_strike K mg) (fs := none) (cls := .ref (cA mg "BadPlace")) (fun _ _ _ _ h => .inr (.inl h)) (ok.ro (i := 0) rfl) (ag_R (r_ev (ok.ev (i := 3) rfl)) (ag_R (r_ev (Ev.is (ev_mulS (ev_cS lit_dot) (ok.ev (i := 1) rfl) (by omega) (by omega) (by decide)) (by rw [all_dots]))) ag_nil)) (by decide +kernel) rfl (fun vs H1 hp => ⟨rd, w, t, n, (t.length : Int), List.replicate w 46, hp, by rw [List.length_replicate]; omega, rfl, .inr (Int.le_refl _), rfl⟩) fun H' d e q => ?_
    have ok := ok.ex e
    refine ⟨false, T.em_BadPlace_BadNumber, (fun e => nomatch e), fun _ => ⟨false, T.em_BadPlace_TooLong, (fun e => nomatch e), fun _ => ⟨false, T.em_BadPlace_BadText, (fun e => nomatch e), fun _ => ?_⟩⟩⟩
    refine ⟨true, T.em_BadPlace_BadPlace, fun _ a ha => ?_, fun e => nomatch e⟩
    exact ret rfl ok rfl (EvR.is (r_ev (ev_orV (ev_inTI (l := [(3), (4)]) (ev_mod (ok.ev (i := 2) rfl) ev_c (by decide)) (eu_tup (ea_cons ev_c (ea_cons ev_c ea_nil)) (by simp))) (fun hb2 => (ev_eqI (ok.ev (i := 3) rfl) ev_c)))) (by simp [hb3]))
  rw [decide_eq_false_iff_not] at hb3
  refine c_ifE (b := decide (num % 7 = 4)) ok (et_test (ev_eqI (ev_mod (ok.ev rfl) ev_c (by walk_at "side")) ev_c)) (fun hb4 M H ok => ?_) (fun hb4 M H ok => ?_)
  · rw [decide_eq_true_eq] at hb4
    refine c_dropX (n := 2) (R := RX_Punch_rub K mg) (fs := none) (cls := .ref (cA mg "BadPlace")) (fun _ _ _ _ h => h) (ok.ro (i := 0) rfl) (ag_R (r_ev (ev_neg ev_c)) ag_nil) (by decide +kernel) rfl (fun vs H1 hp => ⟨rd, w, t, n, -1, hp, .inl (by decide), rfl, rfl⟩) fun H' d e q => ?_
    have ok := ok.ex e
    refine ⟨false, T.em_BadPlace_BadNumber, (fun e => nomatch e), fun _ => ⟨false, T.em_BadPlace_TooLong, (fun e => nomatch e), fun _ => ⟨false, T.em_BadPlace_BadText, (fun e => nomatch e), fun _ => ?_⟩⟩⟩
    refine ⟨true, T.em_BadPlace_BadPlace, fun _ a ha => ?_, fun e => nomatch e⟩
    exact ret rfl ok rfl (EvR.is (r_ev (ev_orV (ev_inTI (l := [(3), (4)]) (ev_mod (ok.ev (i := 2) rfl) ev_c (by decide)) (eu_tup (ea_cons ev_c (ea_cons ev_c ea_nil)) (by simp))) (fun hb2 => (ev_eqI (ok.ev (i := 3) rfl) ev_c)))) (by simp [hb4]))
  rw [decide_eq_false_iff_not] at hb4
  refine c_ifE (b := decide (num % 7 = 5)) ok (et_test (ev_eqI (ev_mod (ok.ev rfl) ev_c (by walk_at "side")) ev_c)) (fun hb5 M H ok => ?_) (fun hb5 M H ok => ?_)
  · rw [decide_eq_true_eq] at hb5
    by_cases hz : (t.length : Int) = 0
    · refine c_dropX (n := 3) (R := RX_Punch_strike K mg) (fs := none) (cls := .ref (cA mg "BadPlace")) (fun _ _ _ _ h => .inr (.inl h)) (ok.ro (i := 0) rfl) (ag_R (r_ev ev_c) (ag_R (r_ev (Ev.is (ev_mulS (ev_cS lit_dot) (ev_add (ok.ev (i := 1) rfl) ev_c) (by omega) (by omega) (by decide)) (by rw [show ((w : Int) + 1) = ((w + 1 : Nat) : Int) by omega, all_dots]))) ag_nil)) (by decide +kernel) rfl (fun vs H1 hp => ⟨rd, w, t, n, 0, List.replicate (w + 1) 46, hp, by rw [List.length_replicate]; omega, rfl, .inr (by omega), rfl⟩) fun H' d e q => ?_
      have ok := ok.ex e
      refine ⟨false, T.em_BadPlace_BadNumber, (fun e => nomatch e), fun _ => ⟨false, T.em_BadPlace_TooLong, (fun e => nomatch e), fun _ => ⟨false, T.em_BadPlace_BadText, (fun e => nomatch e), fun _ => ?_⟩⟩⟩
      refine ⟨true, T.em_BadPlace_BadPlace, fun _ a ha => ?_, fun e => nomatch e⟩
      exact ret rfl ok rfl (EvR.is (r_ev (ev_orV (ev_inTI (l := [(3), (4)]) (ev_mod (ok.ev (i := 2) rfl) ev_c (by decide)) (eu_tup (ea_cons ev_c (ea_cons ev_c ea_nil)) (by simp))) (fun hb2 => (ev_eqI (ok.ev (i := 3) rfl) ev_c)))) (by simp [hb5, hz]))
    · have hn5 : isRow (List.replicate (w + 1) 46) (w : Int) = false := by
        unfold isRow
        rw [List.length_replicate, decide_eq_false (by omega)]
        rfl
      refine c_dropX (n := 3) (R := RW_Punch_strike K mg) (fs := none) (cls := .ref (cA mg "BadRow")) (fun _ _ _ _ h => .inr (.inr h)) (ok.ro (i := 0) rfl) (ag_R (r_ev ev_c) (ag_R (r_ev (Ev.is (ev_mulS (ev_cS lit_dot) (ev_add (ok.ev (i := 1) rfl) ev_c) (by omega) (by omega) (by decide)) (by rw [show ((w : Int) + 1) = ((w + 1 : Nat) : Int) by omega, all_dots]))) ag_nil)) (by decide +kernel) rfl (fun vs H1 hp => ⟨rd, w, t, n, 0, List.replicate (w + 1) 46, hp, by rw [List.length_replicate]; omega, rfl, by omega, by omega, .inl ⟨hn5, rfl⟩⟩) fun H' d e q => ?_
      have ok := ok.ex e
      refine ⟨false, T.em_BadRow_BadNumber, (fun e => nomatch e), fun _ => ⟨false, T.em_BadRow_TooLong, (fun e => nomatch e), fun _ => ⟨false, T.em_BadRow_BadText, (fun e => nomatch e), fun _ => ⟨false, T.em_BadRow_BadPlace, (fun e => nomatch e), fun _ => ?_⟩⟩⟩⟩
      refine ⟨true, T.em_BadRow_BadRow, fun _ a ha => ?_, fun e => nomatch e⟩
      exact ret rfl ok rfl (EvR.is (r_ev (ev_eqI (ev_mod (ok.ev (i := 2) rfl) ev_c (by decide)) ev_c)) (by rw [decide_eq_true hb5]))
  rw [decide_eq_false_iff_not] at hb5
  have hb6 : num % 7 = 6 := by omega
  by_cases hz : (t.length : Int) = 0
  · refine c_dropX (n := 3) (R := RX_Punch_strike K mg) (fs := none) (cls := .ref (cA mg "BadPlace")) (fun _ _ _ _ h => .inr (.inl h)) (ok.ro (i := 0) rfl) (ag_R (r_ev (ev_sub (ok.ev (i := 3) rfl) ev_c)) (ag_R (r_ev (Ev.is (ev_mulS (ev_cS lit_dot) (ok.ev (i := 1) rfl) (by omega) (by omega) (by decide)) (by rw [all_dots]))) ag_nil)) (by decide +kernel) rfl (fun vs H1 hp => ⟨rd, w, t, n, (t.length : Int) - 1, List.replicate w 46, hp, by rw [List.length_replicate]; omega, rfl, .inl (by omega), rfl⟩) fun H' d e q => ?_
    have ok := ok.ex e
    refine ⟨false, T.em_BadPlace_BadNumber, (fun e => nomatch e), fun _ => ⟨false, T.em_BadPlace_TooLong, (fun e => nomatch e), fun _ => ⟨false, T.em_BadPlace_BadText, (fun e => nomatch e), fun _ => ?_⟩⟩⟩
    refine ⟨true, T.em_BadPlace_BadPlace, fun _ a ha => ?_, fun e => nomatch e⟩
    exact ret rfl ok rfl (EvR.is (r_ev (ev_orV (ev_inTI (l := [(3), (4)]) (ev_mod (ok.ev (i := 2) rfl) ev_c (by decide)) (eu_tup (ea_cons ev_c (ea_cons ev_c ea_nil)) (by simp))) (fun hb2 => (ev_eqI (ok.ev (i := 3) rfl) ev_c)))) (by simp [hb6, hz]))
  obtain ⟨r, l1, l2, l3, l4⟩ := last_facts (t := t) (by omega)
  have hr := p0.row r l4
  have hrl := isRow_len hr
  have hg : goes r (List.replicate w 46) = !decide (111 ∈ r) := by rw [← hrl]; exact goes_dots r
  by_cases hm : 111 ∈ r
  · refine c_dropX (n := 3) (R := RW_Punch_strike K mg) (fs := none) (cls := .ref (cA mg "NotSo")) (fun _ _ _ _ h => .inr (.inr h)) (ok.ro (i := 0) rfl) (ag_R (r_ev (ev_sub (ok.ev (i := 3) rfl) ev_c)) (ag_R (r_ev (Ev.is (ev_mulS (ev_cS lit_dot) (ok.ev (i := 1) rfl) (by omega) (by omega) (by decide)) (by rw [all_dots]))) ag_nil)) (by decide +kernel) rfl (fun vs H1 hp => ⟨rd, w, t, n, (t.length : Int) - 1, List.replicate w 46, hp, by rw [List.length_replicate]; omega, rfl, by omega, by omega, .inr ⟨hx, by rw [l2]; omega, by rw [l2, hg, decide_eq_true hm]; rfl, rfl⟩⟩) fun H' d e q => ?_
    have ok := ok.ex e
    refine ⟨false, T.em_NotSo_BadNumber, (fun e => nomatch e), fun _ => ⟨false, T.em_NotSo_TooLong, (fun e => nomatch e), fun _ => ⟨false, T.em_NotSo_BadText, (fun e => nomatch e), fun _ => ⟨false, T.em_NotSo_BadPlace, (fun e => nomatch e), fun _ => ⟨false, T.em_NotSo_BadRow, (fun e => nomatch e), fun _ => ?_⟩⟩⟩⟩⟩
    refine ⟨true, T.em_NotSo_NotSo, fun _ a ha => ?_, fun e => nomatch e⟩
    exact ret rfl ok rfl (EvR.is (r_ev (ev_andV (ev_eqI (ev_mod (ok.ev (i := 2) rfl) ev_c (by decide)) ev_c) (fun hb3 => (ev_inC (ev_cS lit_o) (ev_ixLast (g := VS) (q_p (M := Mo) (eo_Punch_standingH (ok.ro (i := 0) rfl))) (ev_neg ev_c) l1))))) (by rw [decide_eq_true hb6, decide_eq_true hm]; rfl))
  have ht : strT t ((t.length : Int) - 1) (List.replicate w 46) = t := by rw [← eq_dots hr hm]; exact l3
  refine c_dropY (x_methX (n := 2) (R := Ho.R_Punch_strike K mg) (fun _ _ _ _ h => .inl h) ok (i := 0) rfl (by decide +kernel) (ag_R (r_ev (ev_sub (ok.ev (i := 3) rfl) ev_c)) (ag_R (r_ev (Ev.is (ev_mulS (ev_cS lit_dot) (ok.ev (i := 1) rfl) (by omega) (by omega) (by decide)) (by rw [all_dots]))) ag_nil)) rfl fun vs H1 hp => ⟨rd, w, t, n, (t.length : Int) - 1, List.replicate w 46, hp, ⟨by omega, by omega, by omega, by rw [List.length_replicate]; exact p1, hx, by rw [l2, hg, decide_eq_false hm]; rfl, by rw [l2]; omega, trivial⟩, rfl, rfl, rfl, rfl, rfl⟩) fun M H ok => ?_
  rw [ht, taken_self, Int.add_zero] at ok
  have ok : Ok F (fun H' O' => Lt Hb (· ∈ bs0) H' O') [.own (uPunch mg w rd t n) pP, st (uI (w : Int)), st (uI num), st (uI (t.length : Int)), .una] _ H M := ok
  exact ret rfl ok rfl (EvR.is (r_ev (ev_andV (ev_eqI (ev_mod (ok.ev (i := 2) rfl) ev_c (by decide)) ev_c) (fun hb5 => (ev_andV (ev_gt (ok.ev (i := 3) rfl) ev_c) (fun hb4 => (ev_ninC (ev_cS lit_o) (ev_ixLast (g := VS) (q_p (M := Mo) (eo_Punch_standing (by walk_at "sel") (ok.ro (i := 0) rfl) ag_nil)) (ev_neg ev_c) l1))))))) (by rw [decide_eq_true hb6, decide_eq_false hm, decide_eq_true (show (t.length : Int) > 0 by omega)]; rfl))
def R_Punch_twin (K : PySem.W.Frag) (mg : Str → Option Value) : (Addr → Prop) → List V → Hp → Dt → Pat → Prop := fun F vs H d p => ∃ (rd : Dic) (w : Nat) (t : List Row) (n : Int), AllP [isR F (uPunch mg w rd t n)] vs H ∧ ((RdOk rd w) ∧ (TpOk t w) ∧ True) ∧ d = (uPunch mg w rd t n) ∧ p = (pP)
def sp_Punch_twin (K : PySem.W.Frag) (mg : Str → Option Value) : Sp := spR 1 (R_Punch_twin K mg)
theorem ev_Punch_twin {K : PySem.W.Frag} {mg : Str → Option Value} {σ : L2.St} {H : Hp} {tr : TA} {E : XK} {M : Addr → Prop} {rd : Dic} {w : Nat} {t : List Row} {n : Int} {sel : Addr → Sp → Prop} (hsel_ : sel (cA mg "Punch") (sp_Punch_twin K mg)) {ta : TE} (al : Al M H) (h0 : EvR M ta σ H (uPunch mg w rd t n)) (h : EvAG tr σ H []) (p0 : RdOk rd w) (p1 : TpOk t w) : EvP M (tMethU sel "twin" E ta tr) σ H (uPunch mg w rd t n) (pP) := p_methR al h0 h hsel_ (by decide +kernel) rfl fun vs H1 hp => ⟨rd, w, t, n, hp, ⟨p0, p1, trivial⟩, rfl, rfl⟩
theorem eo_Punch_twin {K : PySem.W.Frag} {mg : Str → Option Value} {σ : L2.St} {H : Hp} {tr : TA} {E : XK} {M : Addr → Prop} {rd : Dic} {w : Nat} {t : List Row} {n : Int} {sel : Addr → Sp → Prop} (hsel_ : sel (cA mg "Punch") (sp_Punch_twin K mg)) {ta : TE} (h0 : EvR Mo ta σ H (uPunch mg w rd t n)) (h : EvAG tr σ H []) (p0 : RdOk rd w) (p1 : TpOk t w) : EvP M (tMethU sel "twin" E ta tr) σ H (uPunch mg w rd t n) (pP) := p_scal (ev_Punch_twin hsel_ (Mo_al H) h0 h p0 p1) (scal_P)
theorem ok_Punch_twin (T : Txt K mg) : OkM P wW K mg base CX0 (cA mg "Punch") "twin" 5 (sp_Punch_twin K mg) := by
  have D_Punch___init__ : OkID P wW K mg base CX0 (cA mg "Punch") 3 (sp_Punch___init__ K mg) [.non] := ok_Punch___init__ T
  have O_Punch___init__ : OkI P wW K mg base CX0 (cA mg "Punch") 3 (sp_Punch___init__ K mg) := D_Punch___init__.full
  refine OkM.of T.m_Punch_twin sc_Punch_twin (fun vs H Q E h => h.1) (fun f cdv A outer s Hb vs Q E hr h => ?_)
  obtain ⟨-, F, d0, p0_, al, ⟨rd, w, t, n, ⟨v0, r0, rfl, q0, rfl⟩, ⟨p0, p1, -⟩, rfl, rfl⟩, k⟩ := h
  have ok : Ok F (fun H' O' => Lt Hb Mo H' O') [st (uPunch mg w rd t n), .una] _ Hb F := Ok.start al ⟨_, _, [], [], rfl, rfl, ow_sh.mpr ⟨rfl, q0⟩, ⟨_, rfl, ⟨rfl, rfl⟩⟩⟩
  have zz : ∀ (H' : Hp) (O' : Addr → Prop), Lt Hb Mo H' O' → Lt Hb Mo H' O' := fun _ _ z => z
  have hu := hu_of hr
  refine ⟨_, (pss_cons (ps_set (i := 1) sc_Punch_twin.nd rfl (.inl rfl) (pe_makeO O_Punch___init__ T.k_Punch.at_ hr (by rfl) pass0 (pa_cons (pe_fld (pv 0) rfl) (pa_cons (pe_fld (pv 0) rfl) pa_nil))))
 (pss_cons (ps_fld (pv 1) (pe_fld (pv 0) rfl) rfl)
 (pss_one (ps_ret (pv 1))))), ?_⟩
  refine b_asgS (d := uPunch mg w rd t 0) (p := pP) ok (eo_new_Punch (o := some t) (ag_R (r_o (EvR.is (r_fld (ns := ["width", "reader", "rows", "made"]) uN (ok.nx rfl rfl) T.k_Punch.cl T.f_Punch_reader 1 rfl (by decide +kernel) rfl) (by rfl))) (ag_R (r_o (EvR.is (r_fld (ns := ["width", "reader", "rows", "made"]) uN (ok.nx rfl rfl) T.k_Punch.cl T.f_Punch_rows 2 rfl (by decide +kernel) rfl) (by rfl))) ag_nil)) p0 (fun t' h => by cases h; exact p1)) fun v M H ok => ?_
  refine b_fldAt 3 ok (i := 1) rfl (d := uI n) (p := .sh) (p_ev (ev_r (EvR.is (r_fld (ns := ["width", "reader", "rows", "made"]) uN (ok.nx rfl rfl) T.k_Punch.cl T.f_Punch_made 3 rfl (by decide +kernel) rfl) (by rfl)))) T.k_Punch.cl T.f_Punch_made rfl (by decide +kernel) rfl (by decide) fun M H ok => ?_
  exact c_retv (i := 1) (d := uPunch mg w rd t n) (p := pP) ok rfl k zz
def sel_twin (K : PySem.W.Frag) (mg : Str → Option Value) : Addr → Sp → Prop := fun C sp => (C = cA mg "Punch" ∧ sp = sp_Punch_twin K mg)
theorem hsel_twin (T : Txt K mg) : ∀ C sp, sel_twin K mg C sp → Cls K C ∧ OkM P wW K mg base CX0 C "twin" 5 sp := by
  intro C sp h
  obtain ⟨rfl, rfl⟩ := h
  · exact ⟨T.k_Punch.cl, (ok_Punch_twin T).mono (by decide)⟩
def R_law (K : PySem.W.Frag) : List V → Hp → V → Prop := fun vs H z => ∃ (ns : List Int), AllP [isQ K (Ints ns)] vs H ∧ (True) ∧ z = .bl true
def sp_law (K : PySem.W.Frag) : Sp := spV  1 (R_law K)
theorem ok_law (T : Txt K mg) {fL : Addr} {fdL : FuncData} (F : Fun K "law" "law" s_law fL fdL) : FnOk P wW K mg base CX0 9 fL fdL ["_law_script"] (sp_law K) := by
  have O__law_pool : OkF P wW K mg base CX0 "_law_pool" 4 (sp__law_pool K) := ok__law_pool T
  have O__law_reader : OkF P wW K mg base CX0 "_law_reader" 4 (sp__law_reader K) := ok__law_reader T
  have O__law_width : OkF P wW K mg base CX0 "_law_width" 1 (sp__law_width K) := ok__law_width T
  have O__law_digits : OkF P wW K mg base CX0 "_law_digits" 3 (sp__law_digits K) := ok__law_digits T
  have O__law_tape : OkF P wW K mg base CX0 "_law_tape" 4 (sp__law_tape K) := ok__law_tape T
  have D_Punch___init__ : OkID P wW K mg base CX0 (cA mg "Punch") 3 (sp_Punch___init__ K mg) [.non] := ok_Punch___init__ T
  have O_Punch___init__ : OkI P wW K mg base CX0 (cA mg "Punch") 3 (sp_Punch___init__ K mg) := D_Punch___init__.full
  have O__law_text : OkF P wW K mg base CX0 "_law_text" 4 (sp__law_text K) := ok__law_text T
  have O__law_done : OkF P wW K mg base CX0 "_law_done" 8 (sp__law_done K mg) := ok__law_done T
  have O__law_stands : OkF P wW K mg base CX0 "_law_stands" 7 (sp__law_stands K mg) := ok__law_stands T
  have O__law_holes : OkF P wW K mg base CX0 "_law_holes" 1 (sp__law_holes K) := ok__law_holes T
  have O__law_bad : OkF P wW K mg base CX0 "_law_bad" 7 (sp__law_bad K mg) := ok__law_bad T
  have S_standing := hsel_standing (P := P) (wW := wW) (base := base) T
  have S_twin := hsel_twin (P := P) (wW := wW) (base := base) T
  refine F.ok sc_law (fun vs H Q E h => h.1) (fun cdv A outer s Hb vs Q E hr h => ?_)
  obtain ⟨-, z, H0, e0, ⟨ns, ⟨v0, r0, rfl, ⟨a0, rfl, q0⟩, rfl⟩, -, rfl⟩, k⟩ := h
  have h0 := Evl.ex_l e0 q0
  have k : RetP Mo Hb (.sc (.bl true)) .sh Q := fun v bs H' e nd n w => by
    unfold Ow at w
    rw [w.2.1]
    exact k H' e
  have ok : Ok Mo (fun H' O' => Lt Hb Mo H' O') [.any, .una, .una, .una, .una, .una, .una, .una, .una, .una, .una, .una, .una, .una, .una, .una] _ Hb Mo := Ok.start (Mo_al Hb) ⟨some (.ref a0), _, rfl, ⟨_, rfl, ⟨_, rfl, ⟨_, rfl, ⟨_, rfl, ⟨_, rfl, ⟨_, rfl, ⟨_, rfl, ⟨_, rfl, ⟨_, rfl, ⟨_, rfl, ⟨_, rfl, ⟨_, rfl, ⟨_, rfl, ⟨_, rfl, ⟨_, rfl, ⟨rfl, rfl⟩⟩⟩⟩⟩⟩⟩⟩⟩⟩⟩⟩⟩⟩⟩⟩⟩
  have zz : ∀ (H' : Hp) (O' : Addr → Prop), Lt Hb Mo H' O' → Lt Hb Mo H' O' := fun _ _ z => z
  have hu := hu_of hr
  refine ⟨_, (pss_cons (ps_set (i := 0) sc_law.nd rfl (.inl rfl) (pe_slice (ksl_list (K := K)) (pv 0) po_none (po_some pe_int)))
 (pss_cons (ps_set (i := 8) sc_law.nd rfl (.inl rfl) (pe_callO O__law_pool hr (by rfl) pass0 (pa_cons (pv 0) (pa_cons pe_int pa_nil))))
 (pss_cons (ps_set (i := 9) sc_law.nd rfl (.inl rfl) (pe_callO O__law_reader hr (by rfl) pass0 (pa_cons (pv 0) (pa_cons pe_int (pa_cons (pv 8) (pa_cons pe_int pa_nil))))))
 (pss_cons (ps_par (i := 15) (j := 3) rfl sc_law.nd rfl rfl (by decide) rfl rfl (pa_cons (pe_callO O__law_width hr (by rfl) pass0 (pa_cons (pv 9) pa_nil)) (pa_cons (pe_callO O__law_digits hr (by rfl) pass0 (pa_cons (pv 0) (pa_cons pe_int (pa_cons pe_int (pa_cons pe_int pa_nil))))) pa_nil)) (by rfl))
 (pss_cons (ps_par (i := 11) (j := 5) rfl sc_law.nd rfl rfl (by decide) rfl rfl (pa_cons (pe_callO O__law_tape hr (by rfl) pass0 (pa_cons (pv 0) (pa_cons pe_int (pa_cons (pv 15) (pa_cons (pe_op op_mod (pe_ix (kix_list (K := K)) (pv 3) pe_int (fun _ _ => rfl)) pe_int) pa_nil))))) (pa_cons (pe_callTy ct_dict (by rfl) T.z_dict (by decide +kernel) (pa_cons (pv 9) pa_nil)) pa_nil)) (by rfl))
 (pss_cons (ps_set (i := 6) sc_law.nd rfl (.inl rfl) (pe_callTy (kct_list (K := K)) (by rfl) T.z_list (by decide +kernel) (pa_cons (pv 11) pa_nil)))
 (pss_cons (ps_par (i := 4) (j := 10) rfl sc_law.nd rfl rfl (by decide) rfl rfl (pa_cons (pe_makeO O_Punch___init__ T.k_Punch.at_ hr (by rfl) pass0 (pa_cons (pv 5) (pa_cons (pv 6) pa_nil))) (pa_cons (pe_makeD D_Punch___init__ T.k_Punch.at_ hr (by rfl) pass0 (pa_cons (pv 5) pa_nil)) pa_nil)) (by rfl))
 (pss_cons (ps_expr (pe_bm PySem.F.plainAttrs_list PySem.F.slot_list_append PySem.F.type_list_append mt_append (pv 6) (pa_cons pe_str pa_nil)))
 (pss_cons (ps_expr (pe_bm0 PySem.F.plainAttrs_dict PySem.F.slot_dict_clear PySem.F.type_dict_clear mtd_clear (pv 5)))
 (pss_cons (ps_par3 (i := 7) (j := 2) (l := 13) rfl sc_law.nd rfl rfl rfl (by decide) (by decide) (by decide) rfl rfl rfl (pa_cons (pe_lst pa_nil) (pa_cons pe_int (pa_cons pe_int pa_nil))) (by rfl))
 (pss_cons (ps_for PassesOwn.never rfl (pi_range1 rfl T.z_range (pa_cons (pe_callB (cb_max2 rfl) (by rfl) T.z_max (by decide +kernel) (pa_cons pe_int (pa_cons (pe_callB (cb_min2 rfl) (by rfl) T.z_min (by decide +kernel) (pa_cons pe_int (pa_cons (pe_callB (kcb_lenQ (K := K)) (by rfl) T.z_len (by decide +kernel) (pa_cons (pv 0) pa_nil)) pa_nil))) pa_nil))) pa_nil)) (pg_name (i := 14) sc_law.nd rfl (.inl rfl))
  (pss_cons (ps_set (i := 3) sc_law.nd rfl (.inl rfl) (pe_callO O__law_digits hr (by rfl) pass0 (pa_cons (pv 0) (pa_cons (pe_op op_add pe_int (pv 14)) (pa_cons pe_int (pa_cons (pe_op op_add (pe_op op_pow pe_int pe_int) pe_int) pa_nil))))))
 (pss_cons (ps_set (i := 12) sc_law.nd rfl (.inl rfl) (pe_callO O__law_text hr (by rfl) pass0 (pa_cons (pv 0) (pa_cons (pe_op op_add pe_int (pv 14)) (pa_cons (pv 8) (pa_cons (pe_op op_mod (pe_ix (kix_list (K := K)) (pv 3) pe_int (fun _ _ => rfl)) (pe_op op_add (pe_callB (kcb_lenQ (K := K)) (by rfl) T.z_len (by decide +kernel) (pa_cons (pv 11) pa_nil)) pe_int)) pa_nil))))))
 (pss_cons (ps_set (i := 1) sc_law.nd rfl (.inl rfl) (pe_callO O__law_done hr (by rfl) pass0 (pa_cons (pv 4) (pa_cons (pv 9) (pa_cons (pv 11) (pa_cons (pe_ix (kix_list (K := K)) (pv 3) pe_int (fun _ _ => rfl)) (pa_cons (pv 12) pa_nil)))))))
 (pss_cons (ps_if (pt_cmpR op_isNo (pv 1) pe_non (nomark _))
  (pss_one (ps_ret pe_bl))
  pss_nil)
 (pss_cons (ps_par (i := 2) (j := 11) rfl sc_law.nd rfl rfl (by decide) rfl rfl (pa_cons (pe_op op_sub (pe_op op_add (pv 2) (pe_callO O__law_holes hr (by rfl) pass0 (pa_cons (pv 1) pa_nil))) (pe_callO O__law_holes hr (by rfl) pass0 (pa_cons (pv 11) pa_nil))) (pa_cons (pv 1) pa_nil)) (by rfl))
 (pss_cons (ps_if (pt_not (pt_val (pe_callO O__law_stands hr (by rfl) pass0 (pa_cons (pv 4) (pa_cons (pv 9) (pa_cons (pv 11) (pa_cons (pv 2) (pa_cons (pe_lst (pa_cons (pv 12) (pa_cons (pe_slice sl_str (pv 12) (po_some pe_int) po_none) pa_nil))) pa_nil))))))))
  (pss_one (ps_ret pe_bl))
  pss_nil)
 (pss_cons (ps_if (PW.pt (pw_or (pt_not (pt_val (pe_callO O__law_bad hr (by rfl) pass0 (pa_cons (pv 4) (pa_cons (pv 15) (pa_cons (pe_ix (kix_list (K := K)) (pv 3) pe_int (fun _ _ => rfl)) pa_nil)))))) (pw_or1 (pt_cmpR (kop_neD (K := K) hr.units) (pe_methU0 S_standing hr pass0 (pv 4)) (pv 11) (nomark _)))))
  (pss_one (ps_ret pe_bl))
  pss_nil)
 (pss_cons (ps_if (pt_not (pt_val (pe_callO O__law_stands hr (by rfl) pass0 (pa_cons (pv 10) (pa_cons (pv 9) (pa_cons (pv 7) (pa_cons (pv 13) (pa_cons (pe_lst (pa_cons (pe_slice sl_str (pv 12) po_none (po_some pe_int)) pa_nil)) pa_nil))))))))
  (pss_one (ps_ret pe_bl))
  pss_nil)
 (pss_cons (ps_if (pt_cmpR op_eq (pe_op op_mod (pe_ix (kix_list (K := K)) (pv 3) pe_int (fun _ _ => rfl)) pe_int) pe_int (nomark _))
  (pss_one (ps_par3 (i := 10) (j := 7) (l := 13) rfl sc_law.nd rfl rfl rfl (by decide) (by decide) (by decide) rfl rfl rfl (pa_cons (pe_methU0 S_twin hr pass0 (pv 4)) (pa_cons (pv 11) (pa_cons (pv 2) pa_nil))) (by rfl)))
  pss_nil)
 (pss_cons (ps_set (i := 1) sc_law.nd rfl (.inl rfl) (pe_callO O__law_done hr (by rfl) pass0 (pa_cons (pv 10) (pa_cons (pv 9) (pa_cons (pv 7) (pa_cons (pe_ix (kix_list (K := K)) (pv 3) pe_int (fun _ _ => rfl)) (pa_cons (pv 12) pa_nil)))))))
 (pss_cons (ps_if (pt_cmpR op_isNo (pv 1) pe_non (nomark _))
  (pss_one (ps_ret pe_bl))
  pss_nil)
 (pss_cons (ps_par (i := 13) (j := 7) rfl sc_law.nd rfl rfl (by decide) rfl rfl (pa_cons (pe_op op_sub (pe_op op_add (pv 13) (pe_callO O__law_holes hr (by rfl) pass0 (pa_cons (pv 1) pa_nil))) (pe_callO O__law_holes hr (by rfl) pass0 (pa_cons (pv 7) pa_nil))) (pa_cons (pv 1) pa_nil)) (by rfl))
 (pss_one (ps_if (PW.pt (pw_or (pt_not (pt_val (pe_callO O__law_stands hr (by rfl) pass0 (pa_cons (pv 10) (pa_cons (pv 9) (pa_cons (pv 7) (pa_cons (pv 13) (pa_cons (pe_lst (pa_cons (pv 12) pa_nil)) pa_nil)))))))) (pw_or1 (pt_not (pt_val (pe_callO O__law_stands hr (by rfl) pass0 (pa_cons (pv 4) (pa_cons (pv 9) (pa_cons (pv 11) (pa_cons (pv 2) (pa_cons (pe_lst pa_nil) pa_nil)))))))))))
  (pss_one (ps_ret pe_bl))
  pss_nil)))))))))))))))
 (pss_one (ps_ret pe_bl))))))))))))), ?_⟩
  refine b_asg (d := uL uI (cutG ns none (some 63))) ok (p_L (EvL.is (Evl.el_sl (ev_var rfl) eo_none (eo_some ev_c) h0) (cutV_map V.int ns none (some 63)))) fun M σ H ok => ?_
  generalize cutG ns none (some 63) = ms at ok
  refine b_asg (d := uL uS (pool ms 0)) ok (p_L (ev__law_pool (ag_L (ok.q rfl) (ag_V ev_c ag_nil)) (by walk_at "side"))) fun M σ H ok => ?_
  have hpl := pool_len ms 0
  have hpz := pool_let ms 0
  generalize pool ms 0 = pl at ok hpl hpz
  refine b_asg (d := uD (reader ms 1 pl 1)) ok (p_D (ev__law_reader (ag_L (ok.q rfl) (ag_V ev_c (ag_L (ok.q rfl) (ag_V ev_c ag_nil)))) (by walk_at "side") (by walk_at "side") (by walk_at "side") (by walk_at "side"))) fun M σ H ok => ?_
  have okr : RdOk (reader ms 1 pl 1) (rdW (digits ms 1 17 1000) 1).toNat := rdr_ok (by decide) (by decide) hpz
  have hw := rdW_range (ds := digits ms 1 17 1000) (least := 1) (by decide) (by decide)
  obtain ⟨w, hwe, hw1, hw4⟩ : ∃ w : Nat, (rdW (digits ms 1 17 1000) 1).toNat = w ∧ 1 ≤ w ∧ w ≤ 4 := ⟨_, rfl, by omega, by omega⟩
  rw [hwe] at okr
  generalize reader ms 1 pl 1 = rd at ok okr
  refine b_par (d := uI w) (d2 := uL uI (digits ms 2 2 1009)) ok (p_ev (ev__law_width (ag_D (ok.dd rfl) ag_nil) okr)) (fun M σ H ok => (p_L (ev__law_digits (ag_L (ok.q rfl) (ag_V ev_c (ag_V ev_c (ag_V ev_c ag_nil)))) (by walk_at "side") (by walk_at "side") (by walk_at "side") (by walk_at "side") (by walk_at "side")))) fun M σ H ok => ?_
  have hcl : (digits ms 2 2 1009).length = 2 := digits_len _ _ _ _
  generalize digits ms 2 2 1009 = ds at ok hcl
  have hm0 := Int.emod_nonneg (ds.getD (0 : Int).toNat 0) (show (7 : Int) ≠ 0 by decide)
  have hm1 := Int.emod_lt_of_pos (ds.getD (0 : Int).toNat 0) (show (0 : Int) < 7 by decide)
  refine b_par (d := uL uS (tapeL ms 3 (w : Int) (ds.getD (0 : Int).toNat 0 % 7))) (d2 := uD rd) (p2 := fl (uD rd)) ok (p_L (ev__law_tape (ag_L (ok.q rfl) (ag_V ev_c (ag_V (ok.ev rfl) (ag_V (ev_mod (ev_ixQ (0 : Int) (ok.q rfl) ev_c (by walk_at "side") (by walk_at "side")) ev_c (by walk_at "side")) ag_nil)))) (by walk_at "side") (by walk_at "side") (by walk_at "side") (by walk_at "side") (by walk_at "side"))) (fun M σ H ok => p_cv (p_D (ed_dict (ok.dd rfl))) cv_D) fun M σ H ok => ?_
  have okt0 : TpOk (tapeL ms 3 (w : Int) (ds.getD (0 : Int).toNat 0 % 7)) w := tapeL_ok _ _ _ (by omega)
  have htl0 : (tapeL ms 3 (w : Int) (ds.getD (0 : Int).toNat 0 % 7)).length ≤ 10 := by
    have := tapeL_len ms 3 (w : Int) (ds.getD (0 : Int).toNat 0 % 7)
    omega
  generalize tapeL ms 3 (w : Int) (ds.getD (0 : Int).toNat 0 % 7) = t0 at ok okt0 htl0
  refine b_asg (d := uL uS t0) (p := .ow .sh) ok (p_list (ok.nx rfl rfl)) fun M σ H ok => ?_
  refine b_par (d := uPunch mg w rd t0 0) (p := pP) (d2 := uPunch mg w rd [] 0) (p2 := pP) ok (eo_new_Punch (o := some t0) (ag_R (ok.ro (i := 5) rfl) (ag_R (ok.ro (i := 6) rfl) ag_nil)) okr (fun t' h => by cases h; exact okt0)) (fun M σ H ok => eo_new_Punch (o := none) (ag_dfl (ag_R (ok.ro (i := 5) rfl) ag_nil)) okr (fun t' h => nomatch h)) fun M σ H ok => ?_
  have ok : Ok Mo (fun H' O' => Lt Hb Mo H' O') [mu (uL uI ms), .una, .una, mu (uL uI ds), .own (uPunch mg w rd t0 0) pP, .own (uD rd) (fl (uD rd)), mu (uL uS t0), .una, mu (uL uS pl), mu (uD rd), .own (uPunch mg w rd [] 0) pP, mu (uL uS t0), .una, .una, .una, st (uI (w : Int))] σ H M := ok
  refine b_app (f := uS) (xs := t0) (x := [46]) ok rfl (r_ev (ev_cS lit_dot)) (by omega) fun M σ H ok => ?_
  refine c_clearP (i := 5) ok rfl RchX.var fun M H ok => ?_
  refine b_par3 (d1 := uL uS []) (p1 := .ow .sh) (d2 := uI 0) (p2 := .sh) (d3 := uI 0) (p3 := .sh) ok (p_lst (ds := []) rs_nil (by simp)) (fun M σ H ok => p_ev ev_c) (fun M σ H ok => p_ev ev_c) fun M σ H ok => ?_
  obtain ⟨M, ok⟩ := ok.share 7 rfl
  obtain ⟨M, ok⟩ := ok.share 9 rfl
  obtain ⟨M, ok⟩ := ok.share 11 rfl
  refine b_for (fun i ρ => ∃ y1 y3 y6 y12 y14 t o, ∃ (came th : Int), TpOk t w ∧ t.length ≤ 10 ∧ TpOk o w ∧ o.length ≤ 10 ∧ ρ = [mu (uL uI ms), y1, st (uI came), y3, .own (uPunch mg w rd t came) pP, .own (uD []) (fl (uD [])), y6, st (uL uS o), mu (uL uS pl), st (uD rd), .own (uPunch mg w rd o th) pP, st (uL uS t), y12, st (uI th), y14, st (uI (w : Int))]) ok (j_rng1 (ea_cons (ev_mx2 ev_c (ev_mn2 ev_c (ev_lenQ (ok.q rfl)))) ea_nil) (by walk_at "rng")) ⟨_, _, _, _, _, t0, [], 0, 0, okt0, htl0, tp_nil, by decide, rfl⟩ ?_ ?_
  · rintro Z1 z1 i m ρ M σ H hi ⟨y1, y3, y6, y12, y14, t, o, came, th, okt, htl, oko, hol, rfl⟩ ok
    have htx := textOf_ok okr okt.len
    have hox := textOf_ok okr oko.len
    have ok : Ok Mo Z1 [mu (uL uI ms), y1, st (uI came), y3, .own (uPunch mg w rd t came) pP, .own (uD []) (fl (uD [])), y6, st (uL uS o), mu (uL uS pl), st (uD rd), .own (uPunch mg w rd o th) pP, st (uL uS t), y12, st (uI th), st (uI (m : Nat)), st (uI (w : Int))] σ H M := ok
    have hm : (0 : Int) ≤ ((m : Nat) : Int) := by omega
    generalize ((m : Nat) : Int) = k at ok hm
    refine b_asg (d := uL uI (digits ms (4 + k) 4 1000003)) ok (p_L (ev__law_digits (ag_L (ok.q rfl) (ag_V (ev_add ev_c (ok.ev rfl)) (ag_V ev_c (ag_V (ev_add (ev_pow ev_c ev_c (by walk_at "cpow")) ev_c) ag_nil)))) (by walk_at "side") (by walk_at "side") (by walk_at "side") (by walk_at "side") (by walk_at "side"))) fun M σ H ok => ?_
    have hdl : (digits ms (4 + k) 4 1000003).length = 4 := digits_len _ _ _ _
    generalize digits ms (4 + k) 4 1000003 = ds at ok hdl
    have n0 := Int.emod_nonneg (ds.getD (0 : Int).toNat 0) (show (t.length : Int) + 1 ≠ 0 by omega)
    have n1 := Int.emod_lt_of_pos (ds.getD (0 : Int).toNat 0) (show (0 : Int) < (t.length : Int) + 1 by omega)
    have ok : Ok Mo Z1 [mu (uL uI ms), y1, st (uI came), mu (uL uI ds), .own (uPunch mg w rd t came) pP, .own (uD []) (fl (uD [])), y6, st (uL uS o), mu (uL uS pl), st (uD rd), .own (uPunch mg w rd o th) pP, st (uL uS t), y12, st (uI th), st (uI k), st (uI (w : Int))] σ H M := ok
    refine b_asg (d := uS (lawTx ms (5 + k) pl (ds.getD (0 : Int).toNat 0 % ((t.length : Int) + 1)))) ok (p_ev (ev__law_text (ag_L (ok.q rfl) (ag_V (ev_add ev_c (ok.ev rfl)) (ag_L (ok.q rfl) (ag_V (ev_mod (ev_ixQ (0 : Int) (ok.q rfl) ev_c (by walk_at "side") (by walk_at "side")) (ev_add (ev_lenQ (ok.q rfl)) ev_c) (by walk_at "side")) ag_nil)))) (by walk_at "side") (by walk_at "side") (by walk_at "side") (by walk_at "side") (by walk_at "side"))) fun M σ H ok => ?_
    have okx : TxOk (lawTx ms (5 + k) pl (ds.getD (0 : Int).toNat 0 % ((t.length : Int) + 1))) := lawTx_ok _ _ hpz (by omega)
    generalize lawTx ms (5 + k) pl (ds.getD (0 : Int).toNat 0 % ((t.length : Int) + 1)) = x at ok okx
    have hxl := okx.len
    generalize hnum : ds.getD (1 : Int).toNat 0 = num at *
    have ok : Ok Mo Z1 [mu (uL uI ms), y1, st (uI came), mu (uL uI ds), .own (uPunch mg w rd t came) pP, .own (uD []) (fl (uD [])), y6, st (uL uS o), mu (uL uS pl), st (uD rd), .own (uPunch mg w rd o th) pP, st (uL uS t), st (uS x), st (uI th), st (uI k), st (uI (w : Int))] σ H M := ok
    obtain ⟨ok2, hl2⟩ := doneT_ok (n := num) (x := x) okr okt htl
    refine b_asgY (d := uL uS (doneT rd w t num x)) (xv__law_done ok (i := 4) rfl (ag_R (ok.r (i := 9) rfl) (ag_R (ok.r (i := 11) rfl) (ag_R (r_ev (Ev.is (ev_ixQ (0 : Int) (ok.q (i := 3) rfl) ev_c (by decide) (by omega)) (by rw [hnum]))) (ag_R (r_ev (ok.ev (i := 12) rfl)) ag_nil)))) okr okt htl okx) fun v M H ok => ?_
    generalize doneT rd w t num x = t2 at ok ok2 hl2
    have hx2 := textOf_ok okr ok2.len
    generalize hc2 : came + (holesOf t2 - holesOf t) = came2 at ok
    have ok : Ok Mo Z1 [mu (uL uI ms), st (uL uS t2), st (uI came), mu (uL uI ds), .own (uPunch mg w rd t2 came2) pP, .own (uD []) (fl (uD [])), y6, st (uL uS o), mu (uL uS pl), st (uD rd), .own (uPunch mg w rd o th) pP, st (uL uS t), st (uS x), st (uI th), st (uI k), st (uI (w : Int))] _ H M := ok
    refine b_skip ok (et_test (ev_isNoN (ok.nx (i := 1) rfl rfl) ev_c)) fun M σ H ok => ?_
    refine b_par (d := uI came2) (p := .sh) (d2 := uL uS t2) (p2 := .sh) ok (EvP.is (p_ev (ev_sub (ev_add (ok.ev (i := 2) rfl) (ev__law_holes (ag_L (ok.q (i := 1) rfl) ag_nil) ok2 hw4)) (ev__law_holes (ag_L (ok.q (i := 11) rfl) ag_nil) okt hw4))) (by rw [← hc2, Int.add_sub_assoc])) (fun M σ H ok => p_r (ok.r (i := 1) rfl)) fun M σ H ok => ?_
    have ok : Ok Mo Z1 [mu (uL uI ms), st (uL uS t2), st (uI came2), mu (uL uI ds), .own (uPunch mg w rd t2 came2) pP, .own (uD []) (fl (uD [])), y6, st (uL uS o), mu (uL uS pl), st (uD rd), .own (uPunch mg w rd o th) pP, st (uL uS t2), st (uS x), st (uI th), st (uI k), st (uI (w : Int))] σ H M := ok
    refine b_skip ok (EvT.is (et_not (et_B (ev__law_stands (xs := [x, cutG x (some 1) none]) (ag_R (ok.ro (i := 4) rfl) (ag_R (ok.ro (i := 9) rfl) (ag_R (ok.ro (i := 11) rfl) (ag_R (r_ev (ok.ev (i := 2) rfl)) (ag_R (r_o (r_p ok.al (p_L (el_lst (emS_cons (ok.ev (i := 12) rfl) (emS_cons (ev_slS (ok.ev (i := 12) rfl) (eo_some ev_c) eo_none (by omega)) emS_nil)) (by simp))))) ag_nil))))) okr ok2 (fun z hz => by
      simp only [List.mem_cons, List.not_mem_nil, or_false] at hz
      rcases hz with rfl | rfl
      · exact okx
      · exact tx_cut1 okx) (by simp) hx2))) rfl) fun M σ H ok => ?_
    refine b_skipY (XT.is (xt_or0 (XT.is (xt_not (xt_B (xv__law_bad ok (i := 4) rfl (ag_R (r_ev (ok.ev (i := 15) rfl)) (ag_R (r_ev (ev_ixQ (0 : Int) (ok.q (i := 3) rfl) ev_c (by decide) (by omega))) ag_nil)) ok2 hw4 hl2))) rfl) (fun H M ok => et_test (ev_neE (eqd_L eqd_S) (r_o (r_p ok.al (eo_Punch_standing (t := t2) (n := came2) (rd := rd) (by walk_at "sel") (ok.ro (i := 4) rfl) ag_nil))) (ok.ro (i := 11) rfl) ok2.small ok2.small))) (by simp)) fun M H ok => ?_
    have ok : Ok Mo Z1 [mu (uL uI ms), st (uL uS t2), st (uI came2), mu (uL uI ds), .own (uPunch mg w rd t2 came2) pP, .own (uD []) (fl (uD [])), y6, st (uL uS o), mu (uL uS pl), st (uD rd), .own (uPunch mg w rd o th) pP, st (uL uS t2), st (uS x), st (uI th), st (uI k), st (uI (w : Int))] _ H M := ok
    refine b_skip ok (EvT.is (et_not (et_B (ev__law_stands (xs := [cutG x none (some 1)]) (ag_R (ok.ro (i := 10) rfl) (ag_R (ok.ro (i := 9) rfl) (ag_R (ok.ro (i := 7) rfl) (ag_R (r_ev (ok.ev (i := 13) rfl)) (ag_R (r_o (r_p ok.al (p_L (el_lst (emS_cons (ev_slS (ok.ev (i := 12) rfl) eo_none (eo_some ev_c) (by omega)) emS_nil) (by simp))))) ag_nil))))) okr oko (fun z hz => by
      simp only [List.mem_cons, List.not_mem_nil, or_false] at hz
      subst hz
      exact tx_cut0 okx) (by simp) hox))) rfl) fun M σ H ok => ?_
    refine b_whenJ (fun ρ => ∃ o, ∃ th : Int, TpOk o w ∧ o.length ≤ 10 ∧ ρ = [mu (uL uI ms), st (uL uS t2), st (uI came2), mu (uL uI ds), .own (uPunch mg w rd t2 came2) pP, .own (uD []) (fl (uD [])), y6, st (uL uS o), mu (uL uS pl), st (uD rd), .own (uPunch mg w rd o th) pP, st (uL uS t2), st (uS x), st (uI th), st (uI k), st (uI (w : Int))]) ok (et_test (ev_eqI (ev_mod (ev_ixQ (0 : Int) (ok.q rfl) ev_c (by walk_at "side") (by walk_at "side")) ev_c (by walk_at "side")) ev_c)) (fun hb M σ H ok cont => c_par3 (d1 := uPunch mg w rd t2 came2) (p1 := pP) (d2 := uL uS t2) (p2 := .sh) (d3 := uI came2) (p3 := .sh) ok (eo_Punch_twin (by walk_at "sel") (ok.ro (i := 4) rfl) ag_nil okr ok2) (fun M σ H ok => p_r (ok.r (i := 11) rfl)) (fun M σ H ok => p_ev (ok.ev (i := 2) rfl)) fun M σ H ok => cont _ _ _ _ ⟨t2, came2, ok2, hl2, rfl⟩ ok) (fun hb => ⟨o, th, oko, hol, rfl⟩) ?_
    rintro ρ M σ H ⟨o, th, oko, hol, rfl⟩ ok
    obtain ⟨ok3, hl3⟩ := doneT_ok (n := ds.getD (3 : Int).toNat 0) (x := x) okr oko hol
    refine b_asgY (d := uL uS (doneT rd w o (ds.getD (3 : Int).toNat 0) x)) (xv__law_done ok (i := 10) rfl (ag_R (ok.r (i := 9) rfl) (ag_R (ok.r (i := 7) rfl) (ag_R (r_ev (ev_ixQ (0 : Int) (ok.q (i := 3) rfl) ev_c (by decide) (by omega))) (ag_R (r_ev (ok.ev (i := 12) rfl)) ag_nil)))) okr oko hol okx) fun v M H ok => ?_
    generalize doneT rd w o (ds.getD (3 : Int).toNat 0) x = t3 at ok ok3 hl3
    have hx3 := textOf_ok okr ok3.len
    generalize hc3 : th + (holesOf t3 - holesOf o) = th3 at ok
    have ok : Ok Mo Z1 [mu (uL uI ms), st (uL uS t3), st (uI came2), mu (uL uI ds), .own (uPunch mg w rd t2 came2) pP, .own (uD []) (fl (uD [])), y6, st (uL uS o), mu (uL uS pl), st (uD rd), .own (uPunch mg w rd t3 th3) pP, st (uL uS t2), st (uS x), st (uI th), st (uI k), st (uI (w : Int))] _ H M := ok
    refine b_skip ok (et_test (ev_isNoN (ok.nx (i := 1) rfl rfl) ev_c)) fun M σ H ok => ?_
    refine b_par (d := uI th3) (p := .sh) (d2 := uL uS t3) (p2 := .sh) ok (EvP.is (p_ev (ev_sub (ev_add (ok.ev (i := 13) rfl) (ev__law_holes (ag_L (ok.q (i := 1) rfl) ag_nil) ok3 hw4)) (ev__law_holes (ag_L (ok.q (i := 7) rfl) ag_nil) oko hw4))) (by rw [← hc3, Int.add_sub_assoc])) (fun M σ H ok => p_r (ok.r (i := 1) rfl)) fun M σ H ok => ?_
    have ok : Ok Mo Z1 [mu (uL uI ms), st (uL uS t3), st (uI came2), mu (uL uI ds), .own (uPunch mg w rd t2 came2) pP, .own (uD []) (fl (uD [])), y6, st (uL uS t3), mu (uL uS pl), st (uD rd), .own (uPunch mg w rd t3 th3) pP, st (uL uS t2), st (uS x), st (uI th3), st (uI k), st (uI (w : Int))] σ H M := ok
    exact c_skip ok (EvT.is (et_or (et_not (et_B (ev__law_stands (xs := [x]) (ag_R (ok.ro (i := 10) rfl) (ag_R (ok.ro (i := 9) rfl) (ag_R (ok.ro (i := 7) rfl) (ag_R (r_ev (ok.ev (i := 13) rfl)) (ag_R (r_o (r_p ok.al (p_L (el_lst (emS_cons (ok.ev (i := 12) rfl) emS_nil) (by simp))))) ag_nil))))) okr ok3 (fun z hz => by
      simp only [List.mem_cons, List.not_mem_nil, or_false] at hz
      subst hz
      exact okx) (by simp) hx3))) (fun hb2 => (et_not (et_B (ev__law_stands (xs := []) (ag_R (ok.ro (i := 4) rfl) (ag_R (ok.ro (i := 9) rfl) (ag_R (ok.ro (i := 11) rfl) (ag_R (r_ev (ok.ev (i := 2) rfl)) (ag_R (r_o (r_p ok.al (p_lst (ds := []) rs_nil (by simp)))) ag_nil))))) okr ok2 (fun z hz => nomatch hz) (by simp) hx2))))) rfl) fun M σ H ok => ⟨_, _, ok, _, _, _, _, _, t2, t3, came2, th3, ok2, hl2, ok3, hl3, rfl⟩
  rintro ρ M σ H ⟨y1, y3, y6, y12, y14, t, o, came, th, okt, htl, oko, hol, rfl⟩ ok
  exact c_ret ok (p_ev ev_c) k zz
theorem hd_txt {w : World} {K : PySem.W.Frag} {h : Heap} {mg : Str → Option Value} (X : K.In h) (G : h.Ns mainGlobals mg) (c : He.SaysX hdFa hdFn [] hdTf hdEx w h K) : Txt K mg := by
  have D := c.t.d
  obtain ⟨e1, e2⟩ := He.ba (show (getB K && (hdCl.all (clsB K) && (hdKi.all (kitB K) && hdDis K))) = true from c.more)
  obtain ⟨e3, e4⟩ := He.ba e2
  obtain ⟨e5, e6⟩ := He.ba e4
  have ex0 := He.ba e6
  have ex1 := ex0.2
  exact {
    x_BadNumber := excAt_he X G (D.fact 54 (f := .glo "BadNumber") rfl) (D.fact 74 (f := .exc "BadNumber") rfl)
    x_TooLong := excAt_he X G (D.fact 55 (f := .glo "TooLong") rfl) (D.fact 75 (f := .exc "TooLong") rfl)
    x_BadPlace := excAt_he X G (D.fact 56 (f := .glo "BadPlace") rfl) (D.fact 76 (f := .exc "BadPlace") rfl)
    x_BadRow := excAt_he X G (D.fact 57 (f := .glo "BadRow") rfl) (D.fact 77 (f := .exc "BadRow") rfl)
    x_NotSo := excAt_he X G (D.fact 58 (f := .glo "NotSo") rfl) (D.fact 78 (f := .exc "NotSo") rfl)
    xq_BadText := excQ_he X G (D.fact 53 (f := .glo "BadText") rfl) ex0.1 (D.def_ 59 (d := hd_BadText___init__) rfl) (fun _ _ _ _ _ _ us hl => match us, hl with | [_, _], _ => rfl)
    xb_TapeError := excB_he X G (D.fact 59 (f := .glo "TapeError") rfl) ex1
    em_BadNumber_BadNumber := exm_he X G (D.fact 54 (f := .glo "BadNumber") rfl) (D.fact 54 (f := .glo "BadNumber") rfl) (D.fact 79 (f := .exm "BadNumber" "BadNumber" true) rfl)
    em_TooLong_BadNumber := exm_he X G (D.fact 55 (f := .glo "TooLong") rfl) (D.fact 54 (f := .glo "BadNumber") rfl) (D.fact 80 (f := .exm "TooLong" "BadNumber" false) rfl)
    em_TooLong_TooLong := exm_he X G (D.fact 55 (f := .glo "TooLong") rfl) (D.fact 55 (f := .glo "TooLong") rfl) (D.fact 81 (f := .exm "TooLong" "TooLong" true) rfl)
    em_BadText_BadNumber := exm_he X G (D.fact 53 (f := .glo "BadText") rfl) (D.fact 54 (f := .glo "BadNumber") rfl) (D.fact 82 (f := .exm "BadText" "BadNumber" false) rfl)
    em_BadText_TooLong := exm_he X G (D.fact 53 (f := .glo "BadText") rfl) (D.fact 55 (f := .glo "TooLong") rfl) (D.fact 83 (f := .exm "BadText" "TooLong" false) rfl)
    em_BadText_BadText := exm_he X G (D.fact 53 (f := .glo "BadText") rfl) (D.fact 53 (f := .glo "BadText") rfl) (D.fact 84 (f := .exm "BadText" "BadText" true) rfl)
    em_BadPlace_BadNumber := exm_he X G (D.fact 56 (f := .glo "BadPlace") rfl) (D.fact 54 (f := .glo "BadNumber") rfl) (D.fact 85 (f := .exm "BadPlace" "BadNumber" false) rfl)
    em_BadPlace_TooLong := exm_he X G (D.fact 56 (f := .glo "BadPlace") rfl) (D.fact 55 (f := .glo "TooLong") rfl) (D.fact 86 (f := .exm "BadPlace" "TooLong" false) rfl)
    em_BadPlace_BadText := exm_he X G (D.fact 56 (f := .glo "BadPlace") rfl) (D.fact 53 (f := .glo "BadText") rfl) (D.fact 87 (f := .exm "BadPlace" "BadText" false) rfl)
    em_BadPlace_BadPlace := exm_he X G (D.fact 56 (f := .glo "BadPlace") rfl) (D.fact 56 (f := .glo "BadPlace") rfl) (D.fact 88 (f := .exm "BadPlace" "BadPlace" true) rfl)
    em_BadRow_BadNumber := exm_he X G (D.fact 57 (f := .glo "BadRow") rfl) (D.fact 54 (f := .glo "BadNumber") rfl) (D.fact 89 (f := .exm "BadRow" "BadNumber" false) rfl)
    em_BadRow_TooLong := exm_he X G (D.fact 57 (f := .glo "BadRow") rfl) (D.fact 55 (f := .glo "TooLong") rfl) (D.fact 90 (f := .exm "BadRow" "TooLong" false) rfl)
    em_BadRow_BadText := exm_he X G (D.fact 57 (f := .glo "BadRow") rfl) (D.fact 53 (f := .glo "BadText") rfl) (D.fact 91 (f := .exm "BadRow" "BadText" false) rfl)
    em_BadRow_BadPlace := exm_he X G (D.fact 57 (f := .glo "BadRow") rfl) (D.fact 56 (f := .glo "BadPlace") rfl) (D.fact 92 (f := .exm "BadRow" "BadPlace" false) rfl)
    em_BadRow_BadRow := exm_he X G (D.fact 57 (f := .glo "BadRow") rfl) (D.fact 57 (f := .glo "BadRow") rfl) (D.fact 93 (f := .exm "BadRow" "BadRow" true) rfl)
    em_NotSo_BadNumber := exm_he X G (D.fact 58 (f := .glo "NotSo") rfl) (D.fact 54 (f := .glo "BadNumber") rfl) (D.fact 94 (f := .exm "NotSo" "BadNumber" false) rfl)
    em_NotSo_TooLong := exm_he X G (D.fact 58 (f := .glo "NotSo") rfl) (D.fact 55 (f := .glo "TooLong") rfl) (D.fact 95 (f := .exm "NotSo" "TooLong" false) rfl)
    em_NotSo_BadText := exm_he X G (D.fact 58 (f := .glo "NotSo") rfl) (D.fact 53 (f := .glo "BadText") rfl) (D.fact 96 (f := .exm "NotSo" "BadText" false) rfl)
    em_NotSo_BadPlace := exm_he X G (D.fact 58 (f := .glo "NotSo") rfl) (D.fact 56 (f := .glo "BadPlace") rfl) (D.fact 97 (f := .exm "NotSo" "BadPlace" false) rfl)
    em_NotSo_BadRow := exm_he X G (D.fact 58 (f := .glo "NotSo") rfl) (D.fact 57 (f := .glo "BadRow") rfl) (D.fact 98 (f := .exm "NotSo" "BadRow" false) rfl)
    em_NotSo_NotSo := exm_he X G (D.fact 58 (f := .glo "NotSo") rfl) (D.fact 58 (f := .glo "NotSo") rfl) (D.fact 99 (f := .exm "NotSo" "NotSo" true) rfl)
    z_abs := He.free_ok X G (D.fact 116 (f := .free "abs") rfl)
    z_all := He.free_ok X G (D.fact 117 (f := .free "all") rfl)
    z_any := He.free_ok X G (D.fact 118 (f := .free "any") rfl)
    z_bool := He.free_ok X G (D.fact 119 (f := .free "bool") rfl)
    z_dict := He.free_ok X G (D.fact 120 (f := .free "dict") rfl)
    z_enumerate := He.free_ok X G (D.fact 121 (f := .free "enumerate") rfl)
    z_int := He.free_ok X G (D.fact 122 (f := .free "int") rfl)
    z_isinstance := He.free_ok X G (D.fact 123 (f := .free "isinstance") rfl)
    z_len := He.free_ok X G (D.fact 124 (f := .free "len") rfl)
    z_list := He.free_ok X G (D.fact 125 (f := .free "list") rfl)
    z_max := He.free_ok X G (D.fact 126 (f := .free "max") rfl)
    z_min := He.free_ok X G (D.fact 127 (f := .free "min") rfl)
    z_range := He.free_ok X G (D.fact 128 (f := .free "range") rfl)
    z_reversed := He.free_ok X G (D.fact 129 (f := .free "reversed") rfl)
    z_set := He.free_ok X G (D.fact 130 (f := .free "set") rfl)
    z_sorted := He.free_ok X G (D.fact 131 (f := .free "sorted") rfl)
    z_str := He.free_ok X G (D.fact 132 (f := .free "str") rfl)
    z_sum := He.free_ok X G (D.fact 133 (f := .free "sum") rfl)
    z_zip := He.free_ok X G (D.fact 134 (f := .free "zip") rfl)
    c_HOLE := He.str_ok X G (D.fact 135 (f := .str "HOLE" (S [111])) rfl)
    c_BLANK := He.str_ok X G (D.fact 136 (f := .str "BLANK" (S [46])) rfl)
    c_LETTERS := He.str_ok X G (D.fact 137 (f := .str "LETTERS" (S [97, 98, 99, 100, 101, 102, 103, 104, 105, 106, 107, 108, 109, 110, 111, 112, 113, 114, 115, 116, 117, 118, 119, 120, 121, 122])) rfl)
    c_WIDEST := He.int_ok X G (D.fact 138 (f := .int "WIDEST" 4) rfl)
    c_MOST := He.int_ok X G (D.fact 139 (f := .int "MOST" 30) rfl)
    c_FAR := He.int_ok X G (D.fact 140 (f := .int "FAR" 1000) rfl)
    k_Punch := clsAt_he X G (D.fact 46 (f := .glo "Punch") rfl) (D.fact 60 (f := .cls "Punch") rfl) e1 (all_at e3 0 (a := "Punch") rfl)
    f_Punch_width := noAt_he X G (D.fact 46 (f := .glo "Punch") rfl) (D.fact 61 (f := .noat "Punch" "width") rfl)
    f_Punch_reader := noAt_he X G (D.fact 46 (f := .glo "Punch") rfl) (D.fact 62 (f := .noat "Punch" "reader") rfl)
    f_Punch_rows := noAt_he X G (D.fact 46 (f := .glo "Punch") rfl) (D.fact 63 (f := .noat "Punch" "rows") rfl)
    f_Punch_made := noAt_he X G (D.fact 46 (f := .glo "Punch") rfl) (D.fact 64 (f := .noat "Punch" "made") rfl)
    k_Written := clsAt_he X G (D.fact 47 (f := .glo "Written") rfl) (D.fact 65 (f := .cls "Written") rfl) e1 (all_at e3 1 (a := "Written") rfl)
    f_Written_tape := noAt_he X G (D.fact 47 (f := .glo "Written") rfl) (D.fact 66 (f := .noat "Written" "tape") rfl)
    f_Written_heights := noAt_he X G (D.fact 47 (f := .glo "Written") rfl) (D.fact 67 (f := .noat "Written" "heights") rfl)
    k_Barred := clsAt_he X G (D.fact 48 (f := .glo "Barred") rfl) (D.fact 68 (f := .cls "Barred") rfl) e1 (all_at e3 2 (a := "Barred") rfl)
    f_Barred_marks := noAt_he X G (D.fact 48 (f := .glo "Barred") rfl) (D.fact 69 (f := .noat "Barred" "marks") rfl)
    k_Never := clsAt_he X G (D.fact 49 (f := .glo "Never") rfl) (D.fact 70 (f := .cls "Never") rfl) e1 (all_at e3 3 (a := "Never") rfl)
    f_Never_counts := noAt_he X G (D.fact 49 (f := .glo "Never") rfl) (D.fact 71 (f := .noat "Never" "counts") rfl)
    k_Stood := clsAt_he X G (D.fact 50 (f := .glo "Stood") rfl) (D.fact 72 (f := .cls "Stood") rfl) e1 (all_at e3 4 (a := "Stood") rfl)
    f_Stood_tape := noAt_he X G (D.fact 50 (f := .glo "Stood") rfl) (D.fact 73 (f := .noat "Stood" "tape") rfl)
    q_Written_Barred := kit_he X G (D.fact 47 (f := .glo "Written") rfl) (D.fact 48 (f := .glo "Barred") rfl) (all_at e5 0 (a := ("Written", "Barred", false)) rfl)
    q_Barred_Barred := kit_he X G (D.fact 48 (f := .glo "Barred") rfl) (D.fact 48 (f := .glo "Barred") rfl) (all_at e5 1 (a := ("Barred", "Barred", true)) rfl)
    q_Stood_Stood := kit_he X G (D.fact 50 (f := .glo "Stood") rfl) (D.fact 50 (f := .glo "Stood") rfl) (all_at e5 2 (a := ("Stood", "Stood", true)) rfl)
    q_Never_Stood := kit_he X G (D.fact 49 (f := .glo "Never") rfl) (D.fact 50 (f := .glo "Stood") rfl) (all_at e5 3 (a := ("Never", "Stood", false)) rfl)
    d__law_draw := defAt_he X G (D.fact 0 (f := .glo "_law_draw") rfl) (D.def_ 0 (d := hd__law_draw) rfl) (fun _ _ _ _ _ _ us hl => match us, hl with | [_, _, _], _ => rfl)
    d__law_cell_at := defAt_he X G (D.fact 1 (f := .glo "_law_cell_at") rfl) (D.def_ 1 (d := hd__law_cell_at) rfl) (fun _ _ _ _ _ _ us hl => match us, hl with | [_, _], _ => rfl)
    d__law_digits := defAt_he X G (D.fact 2 (f := .glo "_law_digits") rfl) (D.def_ 2 (d := hd__law_digits) rfl) (fun _ _ _ _ _ _ us hl => match us, hl with | [_, _, _, _], _ => rfl)
    d__law_pool := defAt_he X G (D.fact 3 (f := .glo "_law_pool") rfl) (D.def_ 3 (d := hd__law_pool) rfl) (fun _ _ _ _ _ _ us hl => match us, hl with | [_, _], _ => rfl)
    d__law_rows := defAt_he X G (D.fact 4 (f := .glo "_law_rows") rfl) (D.def_ 4 (d := hd__law_rows) rfl) (fun _ _ _ _ _ _ us hl => match us, hl with | [_], _ => rfl)
    d__law_reader := defAt_he X G (D.fact 5 (f := .glo "_law_reader") rfl) (D.def_ 5 (d := hd__law_reader) rfl) (fun _ _ _ _ _ _ us hl => match us, hl with | [_, _, _, _], _ => rfl)
    d__law_width := defAt_he X G (D.fact 6 (f := .glo "_law_width") rfl) (D.def_ 6 (d := hd__law_width) rfl) (fun _ _ _ _ _ _ us hl => match us, hl with | [_], _ => rfl)
    d__law_tape := defAt_he X G (D.fact 7 (f := .glo "_law_tape") rfl) (D.def_ 7 (d := hd__law_tape) rfl) (fun _ _ _ _ _ _ us hl => match us, hl with | [_, _, _, _], _ => rfl)
    d_is_row := defAt_he X G (D.fact 8 (f := .glo "is_row") rfl) (D.def_ 8 (d := hd_is_row) rfl) (fun _ _ _ _ _ _ us hl => match us, hl with | [_, _], _ => rfl)
    d_is_letter := defAt_he X G (D.fact 9 (f := .glo "is_letter") rfl) (D.def_ 9 (d := hd_is_letter) rfl) (fun _ _ _ _ _ _ us hl => match us, hl with | [_], _ => rfl)
    d_width_of := defAt_he X G (D.fact 10 (f := .glo "width_of") rfl) (D.def_ 10 (d := hd_width_of) rfl) (fun _ _ _ _ _ _ us hl => match us, hl with | [_], _ => rfl)
    d_check_tape := defAt_he X G (D.fact 11 (f := .glo "check_tape") rfl) (D.def_ 11 (d := hd_check_tape) rfl) (fun _ _ _ _ _ _ us hl => match us, hl with | [_, _], _ => rfl)
    i_Punch := initAtD_he X G (D.fact 46 (f := .glo "Punch") rfl) (D.fact 100 (f := .mkr "Punch") rfl) (D.def_ 12 (d := hd_Punch___init__) rfl) (by decide) (by decide) (fun T kV doc pm an cdv ct us its h1 h2 => match us, its, h1, h2 with | [_, _, _], [_], _, _ => ⟨_, rfl, rfl⟩) (fun T kV doc pm an cdv ct us its h1 h2 => match us, its, h1, h2 with | [_, _], [_], _, _ => ⟨_, rfl, rfl⟩)
    d__law_text := defAt_he X G (D.fact 12 (f := .glo "_law_text") rfl) (D.def_ 13 (d := hd__law_text) rfl) (fun _ _ _ _ _ _ us hl => match us, hl with | [_, _, _, _], _ => rfl)
    m_Punch_standing := methAt_he X G (D.fact 46 (f := .glo "Punch") rfl) (D.fact 101 (f := .meth "Punch" "standing") rfl) (D.def_ 14 (d := hd_Punch_standing) rfl) (fun _ _ _ _ _ _ us hl => match us, hl with | [_], _ => rfl)
    d__law_over := defAt_he X G (D.fact 13 (f := .glo "_law_over") rfl) (D.def_ 15 (d := hd__law_over) rfl) (fun _ _ _ _ _ _ us hl => match us, hl with | [_, _], _ => rfl)
    d__law_means := defAt_he X G (D.fact 14 (f := .glo "_law_means") rfl) (D.def_ 16 (d := hd__law_means) rfl) (fun _ _ _ _ _ _ us hl => match us, hl with | [_, _], _ => rfl)
    d__law_holes := defAt_he X G (D.fact 15 (f := .glo "_law_holes") rfl) (D.def_ 17 (d := hd__law_holes) rfl) (fun _ _ _ _ _ _ us hl => match us, hl with | [_], _ => rfl)
    d__law_cost := defAt_he X G (D.fact 16 (f := .glo "_law_cost") rfl) (D.def_ 18 (d := hd__law_cost) rfl) (fun _ _ _ _ _ _ us hl => match us, hl with | [_, _, _], _ => rfl)
    d__law_fewest := defAt_he X G (D.fact 17 (f := .glo "_law_fewest") rfl) (D.def_ 19 (d := hd__law_fewest) rfl) (fun _ _ _ _ _ _ us hl => match us, hl with | [_, _, _], _ => rfl)
    d_check_text := defAt_he X G (D.fact 18 (f := .glo "check_text") rfl) (D.def_ 20 (d := hd_check_text) rfl) (fun _ _ _ _ _ _ us hl => match us, hl with | [_], _ => rfl)
    d_cost_of := defAt_he X G (D.fact 19 (f := .glo "cost_of") rfl) (D.def_ 21 (d := hd_cost_of) rfl) (fun _ _ _ _ _ _ us hl => match us, hl with | [_, _], _ => rfl)
    d_rows_of := defAt_he X G (D.fact 20 (f := .glo "rows_of") rfl) (D.def_ 22 (d := hd_rows_of) rfl) (fun _ _ _ _ _ _ us hl => match us, hl with | [_], _ => rfl)
    d_goes_over := defAt_he X G (D.fact 21 (f := .glo "goes_over") rfl) (D.def_ 23 (d := hd_goes_over) rfl) (fun _ _ _ _ _ _ us hl => match us, hl with | [_, _], _ => rfl)
    d_above := defAt_he X G (D.fact 22 (f := .glo "above") rfl) (D.def_ 24 (d := hd_above) rfl) (fun _ _ _ _ _ _ us hl => match us, hl with | [_], _ => rfl)
    d_meaning := defAt_he X G (D.fact 23 (f := .glo "meaning") rfl) (D.def_ 25 (d := hd_meaning) rfl) (fun _ _ _ _ _ _ us hl => match us, hl with | [_, _], _ => rfl)
    d_cheapest := defAt_he X G (D.fact 24 (f := .glo "cheapest") rfl) (D.def_ 26 (d := hd_cheapest) rfl) (fun _ _ _ _ _ _ us hl => match us, hl with | [_, _, _], _ => rfl)
    d_marks_of := defAt_he X G (D.fact 25 (f := .glo "marks_of") rfl) (D.def_ 27 (d := hd_marks_of) rfl) (fun _ _ _ _ _ _ us hl => match us, hl with | [_, _, _], _ => rfl)
    d_heights_of := defAt_he X G (D.fact 26 (f := .glo "heights_of") rfl) (D.def_ 28 (d := hd_heights_of) rfl) (fun _ _ _ _ _ _ us hl => match us, hl with | [_, _, _], _ => rfl)
    i_Written := initAt_he X G (D.fact 47 (f := .glo "Written") rfl) (D.fact 102 (f := .mkr "Written") rfl) (D.def_ 29 (d := hd_Written___init__) rfl) (fun _ _ _ _ _ _ us hl => match us, hl with | [_, _, _], _ => rfl)
    i_Barred := initAt_he X G (D.fact 48 (f := .glo "Barred") rfl) (D.fact 103 (f := .mkr "Barred") rfl) (D.def_ 30 (d := hd_Barred___init__) rfl) (fun _ _ _ _ _ _ us hl => match us, hl with | [_, _], _ => rfl)
    d_first_row := defAt_he X G (D.fact 27 (f := .glo "first_row") rfl) (D.def_ 31 (d := hd_first_row) rfl) (fun _ _ _ _ _ _ us hl => match us, hl with | [_, _, _, _], _ => rfl)
    d_tape_by := defAt_he X G (D.fact 28 (f := .glo "tape_by") rfl) (D.def_ 32 (d := hd_tape_by) rfl) (fun _ _ _ _ _ _ us hl => match us, hl with | [_, _, _, _], _ => rfl)
    d_written := defAt_he X G (D.fact 29 (f := .glo "written") rfl) (D.def_ 33 (d := hd_written) rfl) (fun _ _ _ _ _ _ us hl => match us, hl with | [_, _, _], _ => rfl)
    d_taken := defAt_he X G (D.fact 30 (f := .glo "taken") rfl) (D.def_ 34 (d := hd_taken) rfl) (fun _ _ _ _ _ _ us hl => match us, hl with | [_, _], _ => rfl)
    m_Punch_become := methAt_he X G (D.fact 46 (f := .glo "Punch") rfl) (D.fact 104 (f := .meth "Punch" "become") rfl) (D.def_ 35 (d := hd_Punch_become) rfl) (fun _ _ _ _ _ _ us hl => match us, hl with | [_, _], _ => rfl)
    m_Punch_write := methAt_he X G (D.fact 46 (f := .glo "Punch") rfl) (D.fact 105 (f := .meth "Punch" "write") rfl) (D.def_ 36 (d := hd_Punch_write) rfl) (fun _ _ _ _ _ _ us hl => match us, hl with | [_, _], _ => rfl)
    d__law_can := defAt_he X G (D.fact 31 (f := .glo "_law_can") rfl) (D.def_ 37 (d := hd__law_can) rfl) (fun _ _ _ _ _ _ us hl => match us, hl with | [_, _], _ => rfl)
    d__law_reads := defAt_he X G (D.fact 32 (f := .glo "_law_reads") rfl) (D.def_ 38 (d := hd__law_reads) rfl) (fun _ _ _ _ _ _ us hl => match us, hl with | [_, _], _ => rfl)
    d__law_written := defAt_he X G (D.fact 33 (f := .glo "_law_written") rfl) (D.def_ 39 (d := hd__law_written) rfl) (fun _ _ _ _ _ _ us hl => match us, hl with | [_, _, _, _], _ => rfl)
    d_is_whole := defAt_he X G (D.fact 34 (f := .glo "is_whole") rfl) (D.def_ 40 (d := hd_is_whole) rfl) (fun _ _ _ _ _ _ us hl => match us, hl with | [_], _ => rfl)
    m_Punch_feed := methAtD_he X G (D.fact 46 (f := .glo "Punch") rfl) (D.fact 106 (f := .meth "Punch" "feed") rfl) (D.def_ 41 (d := hd_Punch_feed) rfl) (by decide) (by decide) (fun T kV doc pm an cdv ct us its h1 h2 => match us, its, h1, h2 with | [_, _], [_], _, _ => ⟨_, rfl, rfl⟩) (fun T kV doc pm an cdv ct us its h1 h2 => match us, its, h1, h2 with | [_], [_], _, _ => ⟨_, rfl, rfl⟩)
    m_Punch_check_place := methAt_he X G (D.fact 46 (f := .glo "Punch") rfl) (D.fact 107 (f := .meth "Punch" "check_place") rfl) (D.def_ 42 (d := hd_Punch_check_place) rfl) (fun _ _ _ _ _ _ us hl => match us, hl with | [_, _], _ => rfl)
    m_Punch_strike := methAt_he X G (D.fact 46 (f := .glo "Punch") rfl) (D.fact 108 (f := .meth "Punch" "strike") rfl) (D.def_ 43 (d := hd_Punch_strike) rfl) (fun _ _ _ _ _ _ us hl => match us, hl with | [_, _, _], _ => rfl)
    m_Punch_rub := methAt_he X G (D.fact 46 (f := .glo "Punch") rfl) (D.fact 109 (f := .meth "Punch" "rub") rfl) (D.def_ 44 (d := hd_Punch_rub) rfl) (fun _ _ _ _ _ _ us hl => match us, hl with | [_, _], _ => rfl)
    d__law_done := defAt_he X G (D.fact 35 (f := .glo "_law_done") rfl) (D.def_ 45 (d := hd__law_done) rfl) (fun _ _ _ _ _ _ us hl => match us, hl with | [_, _, _, _, _], _ => rfl)
    d_below := defAt_he X G (D.fact 36 (f := .glo "below") rfl) (D.def_ 46 (d := hd_below) rfl) (fun _ _ _ _ _ _ us hl => match us, hl with | [_], _ => rfl)
    d_means_of := defAt_he X G (D.fact 37 (f := .glo "means_of") rfl) (D.def_ 47 (d := hd_means_of) rfl) (fun _ _ _ _ _ _ us hl => match us, hl with | [_, _], _ => rfl)
    d_counts_of := defAt_he X G (D.fact 38 (f := .glo "counts_of") rfl) (D.def_ 48 (d := hd_counts_of) rfl) (fun _ _ _ _ _ _ us hl => match us, hl with | [_, _, _], _ => rfl)
    i_Never := initAt_he X G (D.fact 49 (f := .glo "Never") rfl) (D.fact 110 (f := .mkr "Never") rfl) (D.def_ 49 (d := hd_Never___init__) rfl) (fun _ _ _ _ _ _ us hl => match us, hl with | [_, _], _ => rfl)
    i_Stood := initAt_he X G (D.fact 50 (f := .glo "Stood") rfl) (D.fact 111 (f := .mkr "Stood") rfl) (D.def_ 50 (d := hd_Stood___init__) rfl) (fun _ _ _ _ _ _ us hl => match us, hl with | [_, _], _ => rfl)
    d_elder := defAt_he X G (D.fact 39 (f := .glo "elder") rfl) (D.def_ 51 (d := hd_elder) rfl) (fun _ _ _ _ _ _ us hl => match us, hl with | [_, _, _, _], _ => rfl)
    d_stood_of := defAt_he X G (D.fact 40 (f := .glo "stood_of") rfl) (D.def_ 52 (d := hd_stood_of) rfl) (fun _ _ _ _ _ _ us hl => match us, hl with | [_, _, _], _ => rfl)
    m_Punch_once := methAt_he X G (D.fact 46 (f := .glo "Punch") rfl) (D.fact 112 (f := .meth "Punch" "once") rfl) (D.def_ 53 (d := hd_Punch_once) rfl) (fun _ _ _ _ _ _ us hl => match us, hl with | [_, _], _ => rfl)
    d_text_of := defAt_he X G (D.fact 41 (f := .glo "text_of") rfl) (D.def_ 54 (d := hd_text_of) rfl) (fun _ _ _ _ _ _ us hl => match us, hl with | [_, _], _ => rfl)
    m_Punch_text := methAt_he X G (D.fact 46 (f := .glo "Punch") rfl) (D.fact 113 (f := .meth "Punch" "text") rfl) (D.def_ 55 (d := hd_Punch_text) rfl) (fun _ _ _ _ _ _ us hl => match us, hl with | [_], _ => rfl)
    m_Punch_took := methAt_he X G (D.fact 46 (f := .glo "Punch") rfl) (D.fact 114 (f := .meth "Punch" "took") rfl) (D.def_ 56 (d := hd_Punch_took) rfl) (fun _ _ _ _ _ _ us hl => match us, hl with | [_], _ => rfl)
    d__law_can_have := defAt_he X G (D.fact 42 (f := .glo "_law_can_have") rfl) (D.def_ 57 (d := hd__law_can_have) rfl) (fun _ _ _ _ _ _ us hl => match us, hl with | [_, _, _], _ => rfl)
    d__law_stands := defAt_he X G (D.fact 43 (f := .glo "_law_stands") rfl) (D.def_ 58 (d := hd__law_stands) rfl) (fun _ _ _ _ _ _ us hl => match us, hl with | [_, _, _, _, _], _ => rfl)
    d__law_bad := defAt_he X G (D.fact 44 (f := .glo "_law_bad") rfl) (D.def_ 60 (d := hd__law_bad) rfl) (fun _ _ _ _ _ _ us hl => match us, hl with | [_, _, _], _ => rfl)
    m_Punch_twin := methAt_he X G (D.fact 46 (f := .glo "Punch") rfl) (D.fact 115 (f := .meth "Punch" "twin") rfl) (D.def_ 61 (d := hd_Punch_twin) rfl) (fun _ _ _ _ _ _ us hl => match us, hl with | [_], _ => rfl)
  }
theorem all_hd {l : PySem.W.OpenLaw} {w : World} {K : PySem.W.Frag} {h : Heap} {mg : Str → Option Value} {fa : Addr} (X : K.In h) (G : h.Ns mainGlobals mg) (hfa : mg "law" = some (.ref fa)) (c : He.SaysX hdFa hdFn [] hdTf hdEx w h K) :
    ∃ fd : FuncData, (∀ (s : Shared) (v : Value), BindsTo s fd ⟨[v], []⟩ [("_law_script", v)]) ∧ ∀ base : Heap, K.In base → base.Ns mainGlobals mg → FnOk l.prog w K mg base CX0 9 fa fd ["_law_script"] (sp_law K) := by
  have T := hd_txt X G c
  have D := c.t.d
  obtain ⟨fd, Fl⟩ := (D.def_ 62 (d := hd_law) rfl)
  have e := hfa.symm.trans (He.glo_ok X G (D.fact 45 (f := .glo "law") rfl))
  cases e
  have b := FunD.bindsA (ps := ["_law_script"]) Fl (fun _ _ _ _ _ _ us hl => match us, hl with | [_], _ => rfl)
  exact ⟨fd, fun s v => b s [v] rfl, fun base _ _ => ok_law T (fun_he Fl)⟩
end Ho
open PySem PySem.W PySem.Calls PyProof.Rows in
set_option maxHeartbeats 0 in
theorem PySem.Challenge.cw_holetape_k11_whole_punch_holds : PySem.Challenge.rw_holetape_k11_whole_punch.Holds := by
  refine Ho.hdTail ?hc
  case hc =>
    refine L2.walk_ofE (l := PySem.Challenge.rw_holetape_k11_whole_punch) (n := 63) (k := 9) (x := "_law_script") (CX := L2.CX0) rfl (by decide) (by kernel_rfl) ⟨rfl, by decide, by decide⟩ ?F (fun _ _ _ _ z => z)
    intro w mg fa h Y G hmg0
    obtain ⟨K, KX, c⟩ := Y
    have hmg : mg ("law" : PySem.Str) = some (.ref fa) := by
      have e : (HandSHeadRun.topDef Ho.hdR.prog 74).name = ("law" : PySem.Str) := by kernel_rfl
      rw [← e]
      exact hmg0
    obtain ⟨fd, hb, hF⟩ := Ho.all_hd (l := PySem.Challenge.rw_holetape_k11_whole_punch) (w := w) KX G hmg c
    exact ⟨K, fd, Ho.sp_law _, KX, hb, fun H a ns hl _ hS => ⟨rfl, .bl true, H, Evl.Ex.refl _, ⟨ns, ⟨_, _, rfl, ⟨a, rfl, hS⟩, rfl⟩, trivial, rfl⟩, fun H2 e => rfl⟩, hF⟩
