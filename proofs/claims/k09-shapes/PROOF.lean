import PyProof.Rows.All
import Wide.All
import OpenK.AllK
import Wide.FinOn
import HandS.ForMost
import HandS.Evl
import HandS.Walk
import HandS.IsInst
import HandS.Wide
import HandS.Conv
import HandS.Style
import HandS.DictComp
import KE.GoesEnum
import KE.GoesMore
import HandS.TupLe
import HandS.SetFor
import KE.DataCmp
import HandS.SortKw
import HandS.RevRange
import KE.DataMinMax
import PyProof.Rows.StrRev
import HandS.SetKeys
import HandS.More
import HandS.Steps
import KE.SortData
import KE.KDictWalk
import KE.KDictList
import KE.KDictDisplayH
import HandS.Lambda
import KE.SortKeyHeap
import HandS.Defaults
import HandS.EndTab
import HandS.HeadWalk
import PySem.Challenge.RW_holetape_k09_shapes
set_option Elab.async false
set_option linter.all false
set_option maxRecDepth 100000
set_option maxHeartbeats 4000000
set_option autoImplicit false
/-! Ho, part A: texts by their codes; a def with its promise by its name; what evaluates to what, further -/
namespace Ho
open PySem PySem.Spec PyProof.Rows L2 Evl

/-! ### texts -/
def S (l : List Nat) : Str := ⟨l.toArray⟩
abbrev VS (l : List Nat) : V := .str (S l)
theorem S_len (l : List Nat) : (S l).length = l.length := by
  show l.toArray.size = l.length
  simp
theorem S_cps (l : List Nat) : (S l).cps.toList = l := by
  show l.toArray.toList = l
  simp
theorem S_inj {a b : List Nat} (h : S a = S b) : a = b := by
  have := congrArg (fun z : Str => z.cps.toList) h
  simpa [S] using this
theorem S_of (x : Str) : S x.cps.toList = x := by
  cases x with
  | mk c => simp [S]
theorem S_add (a b : List Nat) : S a ++ S b = S (a ++ b) := by
  show (⟨_⟩ : Str) = ⟨_⟩
  simp [S]
theorem VS_inj {a b : List Nat} (h : VS a = VS b) : a = b := S_inj (V.str.inj h)
theorem VS_ne {a b : List Nat} (h : a ≠ b) : VS a ≠ VS b := fun e => h (VS_inj e)
theorem dec_VS (a b : List Nat) : decide (VS a = VS b) = decide (a = b) := by
  by_cases h : a = b
  · subst h; simp
  · rw [decide_eq_false h, decide_eq_false (VS_ne h)]
theorem dec_VI (a b : Int) : decide (V.int a = V.int b) = decide (a = b) := by
  by_cases h : a = b
  · subst h; simp
  · rw [decide_eq_false h, decide_eq_false fun e => h (V.int.inj e)]
theorem dec_VB (a b : Bool) : decide (V.bl a = V.bl b) = decide (a = b) := by
  cases a <;> cases b <;> rfl
abbrev Txts (t : List (List Nat)) : List V := t.map VS
abbrev Ints (t : List Int) : List V := t.map V.int
abbrev Bls (t : List Bool) : List V := t.map V.bl

/-! ### the module's constants -/
section
variable {X : Cx}
theorem pe_gs {x : Str} {l : List Nat} {pos : Pos} (hg : Gl X x) (hm : ∃ t, X.mg x = some (.str (S l) t)) (hd : (x == ("__debug__" : Str)) = false := by decide) : PE X (.Name x pos) (tC (VS l)) := by
  obtain ⟨t, hm⟩ := hm
  exact pe_glob hg hm ⟨t, rfl⟩ hd
theorem pe_gi {x : Str} {i : Int} {pos : Pos} (hg : Gl X x) (hm : ∃ t, X.mg x = some (.int i t)) (hd : (x == ("__debug__" : Str)) = false := by decide) : PE X (.Name x pos) (tC (.int i)) := by
  obtain ⟨t, hm⟩ := hm
  exact pe_glob hg hm ⟨t, rfl⟩ hd
end

/-! ### a def of the module, with its promise -/
structure DefAt (K : PySem.W.Frag) (mg : Str → Option Value) (x qual : Str) (st : Stmt) (ps : List Str) : Prop where
  ex : ∃ f fd, mg x = some (.ref f) ∧ Fun K x qual st f fd ∧ Binds K fd ps []
structure OkF (P : Program) (w : World) (K : PySem.W.Frag) (mg : Str → Option Value) (base : Heap) (CX : CXT) (x : Str) (k : Nat) (sp : Sp) : Prop where
  ex : ∃ f fd ps, mg x = some (.ref f) ∧ PySem.W.keepIn K (.ref f) = true ∧ Binds K fd ps [] ∧ FnOk P w K mg base CX k f fd ps sp
section
variable {P : Program} {w : World} {K : PySem.W.Frag} {mg : Str → Option Value} {base : Heap}
theorem OkF.of {x qual : Str} {st : Stmt} {ps N : List Str} {k : Nat} {sp : Sp} (D : DefAt K mg x qual st ps) (Sc : FnScope N ps (defScope st)) (len : ∀ vs H Q E, sp vs H Q E → vs.length = ps.length)
    (hbody : ∀ (f : Addr) (cdv : Value) (A : Around) (outer : List Env) (s : Shared) (H : Hp) (vs : List V) (Q : VK) (E : XK), Room k (A.deeper (envOfC qual (defScope st) s.heap.objs.size f cdv)) → sp vs H Q E →
      ∃ t, PSs (cxOf CX0 P w K mg base N qual (defScope st) f cdv A outer s H E).nox (defBody st) t ∧ t { nx := fun _ H' => Q .non H', rt := Q } (start N vs) H) : OkF P w K mg base CX0 x (k + 1) sp := by
  obtain ⟨f, fd, hm, F, b⟩ := D.ex
  exact ⟨f, fd, ps, hm, F.kp, b, F.ok Sc len (hbody f)⟩
end
def tCallO (sp : Sp) (E : XK) (t : TA) : TE := fun σ H Q => t σ H fun vs H1 => sp vs H1 Q E
theorem tCallO_eq (sp : Sp) (E : XK) (t : TA) : tCall sp [] E t = tCallO sp E t := by
  funext σ H Q
  unfold tCall tCallO
  simp only [List.append_nil]
section
variable {X : Cx} {CX : CXT} {k j : Nat} {sp : Sp} {E : XK} {x : Str} {p pos : Pos} {e : Expr} {es : List Expr} {t : TA}
theorem pe_callO (O : OkF X.prog X.w X.K X.mg X.base CX x k sp) (hr : Room j X.A) (hg : Gl X x) (hx : Passes CX X E) (ha : PA X (e :: es) t) (hk : k ≤ j := by decide)
    (hdb : (x == ("__debug__" : Str)) = false := by decide) (he : starEach (e :: es) X.env = (false, eval e X.env) :: starEach es X.env := by rfl) (hpl : (backTo pos (starEach es X.env)).any (·.1) = false := by rfl) :
    PE X (.Call (.Name x p) (e :: es) [] pos) (tCallO sp E t) := by
  obtain ⟨f, fd, ps, hm, hkp, hb, F⟩ := O.ex
  rw [← tCallO_eq]
  exact pe_call F (hr.mono hk) hg hm hkp hb .nil hx ha hdb he hpl
theorem pe_callO0 (O : OkF X.prog X.w X.K X.mg X.base CX x k sp) (hr : Room j X.A) (hg : Gl X x) (hx : Passes CX X E) (hk : k ≤ j := by decide)
    (hdb : (x == ("__debug__" : Str)) = false := by decide) : PE X (.Call (.Name x p) [] [] pos) (tCallO sp E tNil) := by
  obtain ⟨f, fd, ps, hm, hkp, hb, F⟩ := O.ex
  rw [← tCallO_eq]
  exact pe_call0 F (hr.mono hk) hg hm hkp hb .nil hx hdb
end

/-! ### lists and tuples that the heap tracks -/
def SL (K : PySem.W.Frag) (H : Hp) (a : Addr) (xs : List V) : Prop := Rd H a (.lst xs)
def ST (K : PySem.W.Frag) (H : Hp) (a : Addr) (xs : List V) : Prop := Rd H a (.tup xs)
theorem SL.q {K : PySem.W.Frag} {H : Hp} {a : Addr} {xs : List V} (h : SL K H a xs) : SqL K H a xs := .inl h
theorem ST.q {K : PySem.W.Frag} {H : Hp} {a : Addr} {xs : List V} (h : ST K H a xs) : SqT K H a xs := .inl h
theorem exl {K : PySem.W.Frag} {H H' : Hp} {a : Addr} {xs : List V} (e : Ex H H') (h : SL K H a xs) : SL K H' a xs := ex_rd e h
theorem ext {K : PySem.W.Frag} {H H' : Hp} {a : Addr} {xs : List V} (e : Ex H H') (h : ST K H a xs) : ST K H' a xs := ex_rd e h
theorem slof {K : PySem.W.Frag} {H : Hp} {a : Addr} {xs : List V} (h : H a = some (.lst xs)) : SL K H a xs := .inl h
theorem stof {K : PySem.W.Frag} {H : Hp} {a : Addr} {xs : List V} (h : H a = some (.tup xs)) : ST K H a xs := .inl h
theorem rd_ne {H : Hp} {a : Addr} {u : HO} (h : Rd H a u) : H a ≠ none := by
  rcases h with h | ⟨o, h⟩ <;> rw [h] <;> simp
theorem SL.ne {K : PySem.W.Frag} {H : Hp} {a d : Addr} {xs : List V} (h : SL K H a xs) (n : H d = none) : a ≠ d := fun e => rd_ne h (e ▸ n)
theorem ST.ne {K : PySem.W.Frag} {H : Hp} {a d : Addr} {xs : List V} (h : ST K H a xs) (n : H d = none) : a ≠ d := fun e => rd_ne h (e ▸ n)
theorem H_ne {H : Hp} {a d : Addr} {o : HO} (h : H a = some o) (n : H d = none) : a ≠ d := ne_of_none h n

/-! ### what evaluates to what, further -/
/-- to a list of these, new or not -/
def EvQ (K : PySem.W.Frag) (te : TE) (σ : L2.St) (H : Hp) (xs : List V) : Prop := ∀ H1, Ex H H1 → ∀ Q : VK, (∀ a H2, Ex H1 H2 → SL K H2 a xs → Q (.ref a) H2) → te σ H1 Q
/-- to something of which P holds -/
def EvG (te : TE) (σ : L2.St) (H : Hp) (P : V → Hp → Prop) : Prop := ∀ H1, Ex H H1 → ∀ Q : VK, (∀ v H2, Ex H1 H2 → P v H2 → Q v H2) → te σ H1 Q
/-- to a new dict -/
def EvD (te : TE) (σ : L2.St) (H : Hp) (kvs : List (Key × V)) : Prop := ∀ H1, Ex H H1 → ∀ Q : VK, (∀ p H2, H1 p = none → Ex H1 H2 → H2 p = some (.dK kvs) → Q (.ref p) H2) → te σ H1 Q
def Mon (P : V → Hp → Prop) : Prop := ∀ v H H', Ex H H' → P v H → P v H'
def isV (v : V) : V → Hp → Prop := fun u _ => u = v
def isL (K : PySem.W.Frag) (xs : List V) : V → Hp → Prop := fun u H => ∃ a, u = .ref a ∧ SL K H a xs
def isQ (K : PySem.W.Frag) (xs : List V) : V → Hp → Prop := fun u H => ∃ a, u = .ref a ∧ SqL K H a xs
def isD (kvs : List (Key × V)) : V → Hp → Prop := fun u H => ∃ a, u = .ref a ∧ H a = some (.dK kvs)
def isT (K : PySem.W.Frag) (xs : List V) : V → Hp → Prop := fun u H => ∃ a, u = .ref a ∧ ST K H a xs
def AllP : List (V → Hp → Prop) → List V → Hp → Prop
  | [], vs, _ => vs = []
  | P :: Ps, vs, H => ∃ v r, vs = v :: r ∧ P v H ∧ AllP Ps r H
theorem AllP.length : ∀ {Ps : List (V → Hp → Prop)} {vs : List V} {H : Hp}, AllP Ps vs H → vs.length = Ps.length
  | [], vs, H, h => by rw [show vs = [] from h]; rfl
  | P :: Ps, vs, H, h => by
    obtain ⟨v, r, rfl, _, t⟩ := h
    rw [List.length_cons, List.length_cons, AllP.length t]
def EvAG (ta : TA) (σ : L2.St) (H : Hp) (Ps : List (V → Hp → Prop)) : Prop := ∀ H1, Ex H H1 → ∀ Q : List V → Hp → Prop, (∀ vs H2, Ex H1 H2 → AllP Ps vs H2 → Q vs H2) → ta σ H1 Q
theorem mon_V (v : V) : Mon (isV v) := fun _ _ _ _ h => h
theorem mon_L (K : PySem.W.Frag) (xs : List V) : Mon (isL K xs) := fun _ _ _ e ⟨a, h1, h2⟩ => ⟨a, h1, exl e h2⟩
theorem mon_T (K : PySem.W.Frag) (xs : List V) : Mon (isT K xs) := fun _ _ _ e ⟨a, h1, h2⟩ => ⟨a, h1, ext e h2⟩
theorem mon_D (kvs : List (Key × V)) : Mon (isD kvs) := fun _ _ _ e ⟨a, h1, h2⟩ => ⟨a, h1, e a _ h2⟩

section
variable {K : PySem.W.Frag} {σ : L2.St} {H H' : Hp} {ta tb te tx tl : TE} {t u : TT} {x y z v : V} {r : R2} {xs ys : List V} {P : V → Hp → Prop} {Ps : List (V → Hp → Prop)} {tr : TA}
theorem EvQ.mono (e : Ex H H') (h : EvQ K te σ H xs) : EvQ K te σ H' xs := fun H1 a Q q => h H1 (e.trans a) Q q
theorem EvG.mono (e : Ex H H') (h : EvG te σ H P) : EvG te σ H' P := fun H1 a Q q => h H1 (e.trans a) Q q
theorem EvAG.mono {ta : TA} (e : Ex H H') (h : EvAG ta σ H Ps) : EvAG ta σ H' Ps := fun H1 a Q q => h H1 (e.trans a) Q q
theorem q_new (h : EvL te σ H xs) : EvQ K te σ H xs := fun H1 e Q q => h H1 e Q fun p H2 _ e2 h2 => q p H2 e2 (slof h2)
theorem q_old {a : Addr} (h : Ev te σ H (.ref a)) (hs : SL K H a xs) : EvQ K te σ H xs := fun H1 e Q q => h H1 e Q fun H2 e2 => q a H2 e2 (exl (e.trans e2) hs)
theorem g_V (h : Ev te σ H v) : EvG te σ H (isV v) := fun H1 e Q q => h H1 e Q fun H2 e2 => q v H2 e2 rfl
theorem g_L (h : EvQ K te σ H xs) : EvG te σ H (isL K xs) := fun H1 e Q q => h H1 e Q fun a H2 e2 h2 => q _ H2 e2 ⟨a, rfl, h2⟩
theorem g_T (h : EvU te σ H xs) : EvG te σ H (isT K xs) := fun H1 e Q q => h H1 e Q fun a H2 _ e2 h2 => q _ H2 e2 ⟨a, rfl, stof h2⟩
theorem g_Told {a : Addr} (h : Ev te σ H (.ref a)) (hs : ST K H a xs) : EvG te σ H (isT K xs) := fun H1 e Q q => h H1 e Q fun H2 e2 => q _ H2 e2 ⟨a, rfl, ext (e.trans e2) hs⟩
theorem g_D {kvs : List (Key × V)} (h : EvD te σ H kvs) : EvG te σ H (isD kvs) := fun H1 e Q q => h H1 e Q fun a H2 _ e2 h2 => q _ H2 e2 ⟨a, rfl, h2⟩
theorem g_Dold {a : Addr} {kvs : List (Key × V)} (h : Ev te σ H (.ref a)) (hs : H a = some (.dK kvs)) : EvG te σ H (isD kvs) := fun H1 e Q q => h H1 e Q fun H2 e2 => q _ H2 e2 ⟨a, rfl, e2 _ _ (e _ _ hs)⟩
theorem ag_nil : EvAG tNil σ H [] := fun H1 _ Q q => q [] H1 (Ex.refl H1) rfl
theorem ag_cons (h : EvG te σ H P) (m : Mon P) (hr : EvAG tr σ H Ps) : EvAG (tCons te tr) σ H (P :: Ps) := fun H1 e Q q =>
  h H1 e _ fun v H2 e2 hp => hr H2 (e.trans e2) _ fun vs H3 e3 hq => q _ H3 (e2.trans e3) ⟨v, vs, rfl, m v _ _ e3 hp, hq⟩
theorem ag_V (h : Ev te σ H v) (hr : EvAG tr σ H Ps) : EvAG (tCons te tr) σ H (isV v :: Ps) := ag_cons (g_V h) (mon_V v) hr
theorem ag_L (h : EvQ K te σ H xs) (hr : EvAG tr σ H Ps) : EvAG (tCons te tr) σ H (isL K xs :: Ps) := ag_cons (g_L h) (mon_L K xs) hr
theorem ag_D {kvs : List (Key × V)} (h : EvG te σ H (isD kvs)) (hr : EvAG tr σ H Ps) : EvAG (tCons te tr) σ H (isD kvs :: Ps) := ag_cons h (mon_D kvs) hr
theorem ag_T (h : EvG te σ H (isT K xs)) (hr : EvAG tr σ H Ps) : EvAG (tCons te tr) σ H (isT K xs :: Ps) := ag_cons h (mon_T K xs) hr

/-! promises: a value; a new list; a new dict; anything -/
def spV (n : Nat) (R : List V → Hp → V → Prop) : Sp := fun vs H Q _ => vs.length = n ∧ ∃ z H0, Ex H0 H ∧ R vs H0 z ∧ RetV z H Q
def spL (n : Nat) (R : List V → Hp → List V → Prop) : Sp := fun vs H Q _ => vs.length = n ∧ ∃ xs H0, Ex H0 H ∧ R vs H0 xs ∧ RetL xs H Q
def spD (n : Nat) (R : List V → Hp → List (Key × V) → Prop) : Sp := fun vs H Q _ => vs.length = n ∧ ∃ kvs H0, Ex H0 H ∧ R vs H0 kvs ∧ ∀ p H2, H p = none → Ex H H2 → H2 p = some (.dK kvs) → Q (.ref p) H2
def spG (n : Nat) (R : List V → Hp → (Hp → V → Hp → Prop) → Prop) : Sp := fun vs H Q _ => vs.length = n ∧ ∃ G H0, Ex H0 H ∧ R vs H0 G ∧ ∀ v H2, Ex H H2 → G H v H2 → Q v H2
theorem ev_callG {n : Nat} {R : List V → Hp → V → Prop} {E : XK} (h : EvAG tr σ H Ps) (hn : Ps.length = n) (hr : ∀ vs H1, Ex H H1 → AllP Ps vs H1 → R vs H1 z) : Ev (tCallO (spV n R) E tr) σ H z := fun H1 e Q q =>
  h H1 e _ fun vs H2 e2 hp => ⟨hp.length.trans hn, z, H2, Ex.refl H2, hr vs H2 (e.trans e2) hp, fun H3 e3 => q H3 (e2.trans e3)⟩
theorem el_callG {n : Nat} {R : List V → Hp → List V → Prop} {E : XK} (h : EvAG tr σ H Ps) (hn : Ps.length = n) (hr : ∀ vs H1, Ex H H1 → AllP Ps vs H1 → R vs H1 xs) : EvL (tCallO (spL n R) E tr) σ H xs := fun H1 e Q q =>
  h H1 e _ fun vs H2 e2 hp => ⟨hp.length.trans hn, xs, H2, Ex.refl H2, hr vs H2 (e.trans e2) hp, fun p H3 hp3 e3 h3 => q p H3 (fresh_back e2 hp3) (e2.trans e3) h3⟩
theorem ed_callG {n : Nat} {R : List V → Hp → List (Key × V) → Prop} {E : XK} {kvs : List (Key × V)} (h : EvAG tr σ H Ps) (hn : Ps.length = n) (hr : ∀ vs H1, Ex H H1 → AllP Ps vs H1 → R vs H1 kvs) : EvD (tCallO (spD n R) E tr) σ H kvs := fun H1 e Q q =>
  h H1 e _ fun vs H2 e2 hp => ⟨hp.length.trans hn, kvs, H2, Ex.refl H2, hr vs H2 (e.trans e2) hp, fun p H3 hp3 e3 h3 => q p H3 (fresh_back e2 hp3) (e2.trans e3) h3⟩
end
theorem Ev.is {te : TE} {σ : L2.St} {H : Hp} {v w : V} (h : Ev te σ H v) (e : v = w) : Ev te σ H w := e ▸ h
theorem EvL.is {te : TE} {σ : L2.St} {H : Hp} {v w : List V} (h : EvL te σ H v) (e : v = w) : EvL te σ H w := e ▸ h
theorem EvT.is {te : TT} {σ : L2.St} {H : Hp} {v w : Bool} (h : EvT te σ H v) (e : v = w) : EvT te σ H w := e ▸ h
end Ho

/-! Ho, part B: zip of two texts, of three lists -/
namespace Ho
open PySem PySem.Spec PyProof.Rows L2

theorem strit_at {h h' : Heap} {it : Addr} {T : String} {x : Str} {t : Tok} {i : Nat} (s : h.IsStrIter it T x t i) (k : ∀ o, h.get? it = some o → h'.get? it = some o) : h'.IsStrIter it T x t i :=
  let ⟨o, e, c, d⟩ := s; ⟨o, k o e, c, d⟩

/-! ### zip(text, text) -/
def ItzS (x y : Str) : It :=
  ⟨fun i _ => i < x.cps.size ∧ i < y.cps.size,
    fun i H v H' => ∃ T c d, v = .ref T ∧ H T = none ∧ H' = upd H T (.tup [.str ⟨#[c]⟩, .str ⟨#[d]⟩]) ∧ x.cps[i]? = some c ∧ y.cps[i]? = some d,
    fun i _ => x.cps.size ≤ i ∨ y.cps.size ≤ i⟩
theorem turn_zipSS {P : Program} {w : World} {K : PySem.W.Frag} {elts : List Expr} {kk : Nat} {tpos : Pos} {x y : Str} {t1 t2 : Tok} {z TI TO i1 i2 : Addr} (D : ZipSep2 z TI TO i1 i2 [i1] [i2]) :
    Turn P w K (.Tuple elts kk tpos) (ItzS x y) [z, TI, TO, i1, i2] z (fun i h => i ≤ x.cps.size ∧ i ≤ y.cps.size ∧ IsZip h z TI TO .none ∧ IsTupOf2 h TI (.ref i1) (.ref i2) ∧ (∃ a b, IsTupOf2 h TO a b) ∧ h.IsStrIter i1 (strIterType x) x t1 i ∧ h.IsStrIter i2 (strIterType y) y t2 i) where
  mem := by simp
  obj := fun i h st c hc => by
    obtain ⟨_, _, hz, hTI, ⟨a, b, hTO⟩, ⟨o1, e1, _, d1⟩, ⟨o2, e2, _, d2⟩⟩ := st
    have e' : c = z ∨ c = TI ∨ c = TO ∨ c = i1 ∨ c = i2 := by simpa using hc
    rcases e' with q | q | q | q | q
    · rw [q]; exact ⟨_, hz, fun v q => nomatch q⟩
    · rw [q]; exact ⟨_, hTI, fun v q => nomatch q⟩
    · rw [q]; exact ⟨_, hTO, fun v q => nomatch q⟩
    · rw [q]; exact ⟨o1, e1, fun v q => by rw [d1] at q; cases q⟩
    · rw [q]; exact ⟨o2, e2, fun v q => by rw [d2] at q; cases q⟩
  keep := fun i h h' st k => by
    obtain ⟨l1, l2, hz, hTI, ⟨a, b, hTO⟩, h1, h2⟩ := st
    exact ⟨l1, l2, k z (by simp) _ hz, k TI (by simp) _ hTI, ⟨a, b, k TO (by simp) _ hTO⟩, strit_at h1 fun o q => k i1 (by simp) o q, strit_at h2 fun o q => k i2 (by simp) o q⟩
  item := by
    intro X hP hw hK hc i pins s σ H E I hf st hg
    subst hP hw hK
    obtain ⟨_, _, hz, hTI, ⟨x0, y0, hTO⟩, h1, h2⟩ := st
    obtain ⟨g1, g2⟩ := hg
    have hh := I.ok.hd hc
    have hzl : z < s.heap.objs.size := Heap.lt_size hz
    refine wpAny_pyNext_zipD2_item D (Draws.text (A := X.A.in1) hh i1 x t1) (Draws.text (A := X.A.in1) hh i2 y t2) hz hTI hTO h1 h2 g1 g2 fun u1 u2 h' tk y1 y2 b1 b2 d1 d2 b5 b6 hk => ?_
    obtain ⟨c, tc, ec, rfl⟩ := y1
    obtain ⟨d, td, ed, rfl⟩ := y2
    refine ⟨_, rfl, wpAny_letOwnedTupleGo_zip (s := { s with heap := h', toks := tk }) b1 fun h'' z'' sb => ?_⟩
    have hT2 : h''.get? s.heap.objs.size = some { cls := .type "tuple", data := .seq #[.str ⟨#[c]⟩ tc, .str ⟨#[d]⟩ td] } := (sb.2 _ (Nat.ne_of_gt hzl)).trans b5
    have new : ObjOk X.prog X.w (upd H s.heap.objs.size (.tup [.str ⟨#[c]⟩, .str ⟨#[d]⟩])) h'' s.heap.objs.size (.tup [.str ⟨#[c]⟩, .str ⟨#[d]⟩]) :=
      ⟨by show 2 ≤ sizeLine; decide, [.str ⟨#[c]⟩ tc, .str ⟨#[d]⟩ td], .cons ⟨_, rfl⟩ (.cons ⟨_, rfl⟩ .nil), ⟨_, hT2, rfl, _, rfl⟩⟩
    have I1 : Inv X pins σ (upd H s.heap.objs.size (.tup [.str ⟨#[c]⟩, .str ⟨#[d]⟩])) { s with heap := h'', toks := tk } :=
      I.turnedNew (ch := [z, TI, TO, i1, i2]) (fun c o hb q => (sb.2 c (fun q' => hb (by simp [q']))).trans (hk c o (fun q' => hb (by simp [q'])) (fun q' => hb (by simp [q'])) (fun q' => hb (by simp [q'])) (fun q' => hb (by simp [q'])) q)) hf (Nat.le_refl _) new
    refine ⟨.ref s.heap.objs.size, _, I1, rfl, ⟨_, c, d, rfl, I.hok.fresh (Nat.le_refl _), rfl, ec, ed⟩, ⟨g1, g2, z'', ?_, ⟨.str ⟨#[c]⟩ tc, .str ⟨#[d]⟩ td, ?_⟩, ?_, ?_⟩, fun c hcm => ?_⟩
    · exact (sb.2 _ D.TIz).trans (hk _ _ D.TIz D.TITO D.TIi1 D.TIi2 hTI)
    · exact (sb.2 _ D.TOz).trans b2
    · exact strit_at d1 fun o q => (sb.2 _ (fun e => D.zi1 e.symm)).trans q
    · exact strit_at d2 fun o q => (sb.2 _ (fun e => D.zi2 e.symm)).trans q
    · have hlt : c < s.heap.objs.size := by
        have e' : c = z ∨ c = TI ∨ c = TO ∨ c = i1 ∨ c = i2 := by simpa using hcm
        rcases e' with q | q | q | q | q
        · rw [q]; exact hzl
        · rw [q]; exact Heap.lt_size hTI
        · rw [q]; exact Heap.lt_size hTO
        · rw [q]; obtain ⟨_, e1, _⟩ := h1; exact Heap.lt_size e1
        · rw [q]; obtain ⟨_, e2, _⟩ := h2; exact Heap.lt_size e2
      rw [upd_ne (Nat.ne_of_lt hlt)]
      exact (hf c hcm).1
  done := by
    intro X hP hw hK hc i pins s σ H E I hf st hg
    subst hP hw hK
    obtain ⟨l1, l2, hz, hTI, ⟨x0, y0, hTO⟩, h1, h2⟩ := st
    have hh := I.ok.hd hc
    have he : i = x.cps.size ∨ i = y.cps.size := by rcases hg with q | q <;> omega
    exact wpAny_pyNext_zipD2_end D (Draws.text (A := X.A.in1) hh i1 x t1) (Draws.text (A := X.A.in1) hh i2 y t2) hz hTI hTO h1 h2 l1 l2 he fun h' tk hk => ⟨rfl, I.turnedL (t' := tk) (ch := [z, TI, TO, i1, i2]) (fun c o hb q =>
      hk c o (fun q' => hb (by simp [q'])) (fun q' => hb (by simp [q'])) (fun q' => hb (by simp [q'])) (fun q' => hb (by simp [q'])) q) hf⟩
  self := fun A i s Q E st h => wpAny_pyIter_zip st.2.2.1 h
def iZipSS (ta : TA) : TI := fun σ H R => ta σ H fun vs H1 => ∃ x y, vs = [.str x, .str y] ∧ R (ItzS x y) H1
theorem pi_zipSS {X : Cx} {e e2 : Expr} {ta : TA} {p pos tpos : Pos} {elts : List Expr} {kk : Nat} (hg : Gl X "zip") (hm : X.mg "zip" = none) (ha : PA X [e, e2] ta)
    (hs : starEach [e, e2] X.env = (false, eval e X.env) :: starEach [e2] X.env := by rfl) (hpl : (backTo pos (starEach [e2] X.env)).any (·.1) = false := by rfl) :
    PI X (.Tuple elts kk tpos) (.Call (.Name "zip" p) [e, e2] [] pos) (iZipSS ta) := by
  refine ⟨fun pins s σ H R I h => ?_⟩
  refine Call_ (ld_blt I hg hm PyProof.Rows.boot_zip (PyProof.Rows.callWith_type1 (thn (ha.run pos pins s σ H _ I h) fun us s1 ⟨vs, H1, I1, r1, q1⟩ => ?_) hs hpl))
  obtain ⟨x, y, ex, q⟩ := q1
  subst ex
  cases r1 with
  | cons r rr =>
    cases rr with
    | cons r' rr =>
      cases rr
      obtain ⟨t1, rfl⟩ := r
      obtain ⟨t2, rfl⟩ := r'
      refine zip_begins2 (begins_text x t1) (begins_text y t2) trivial trivial fun h' hz hTI hTO g1 g2 hsz hk => wpAny_pyIter_zip hz ?_
      have I2 : Inv X pins σ H1 { s1 with heap := h' } := I1.kept (t' := s1.toks) hk
      refine ⟨s1.heap.objs.size + 4, [s1.heap.objs.size + 4, s1.heap.objs.size + 2, s1.heap.objs.size + 3, s1.heap.objs.size, s1.heap.objs.size + 1], _, _, H1, rfl, I2, turn_zipSS (t1 := t1) (t2 := t2) (zip_sep2 (fp1 := []) (fp2 := []) (by simp) (by simp)),
        ⟨Nat.zero_le _, Nat.zero_le _, hz, hTI, ⟨_, _, hTO⟩, ⟨_, g1, rfl, rfl⟩, ⟨_, g2, rfl, rfl⟩⟩, fun c hcm => ?_, q⟩
      have e' : c = s1.heap.objs.size + 4 ∨ c = s1.heap.objs.size + 2 ∨ c = s1.heap.objs.size + 3 ∨ c = s1.heap.objs.size ∨ c = s1.heap.objs.size + 1 := by simpa using hcm
      have hle : s1.heap.objs.size ≤ c := by
        rcases e' with z | z | z | z | z
        · rw [z]; exact Nat.le_add_right _ _
        · rw [z]; exact Nat.le_add_right _ _
        · rw [z]; exact Nat.le_add_right _ _
        · rw [z]; exact Nat.le_refl _
        · rw [z]; exact Nat.le_add_right _ _
      exact I1.fpOk hle (I1.hok.fresh hle)

/-! ### zip(list, list, list) -/
def Itz3 (K : PySem.W.Frag) (a b c : Addr) : It :=
  ⟨fun i H => ∃ (xs ys zs : List V) (x y z : V), SqL K H a xs ∧ SqL K H b ys ∧ SqL K H c zs ∧ xs[i]? = some x ∧ ys[i]? = some y ∧ zs[i]? = some z,
    fun i H v H' => ∃ T x y z, v = .ref T ∧ H T = none ∧ H' = upd H T (.tup [x, y, z]) ∧ (∀ xs, SqL K H a xs → xs[i]? = some x) ∧ (∀ ys, SqL K H b ys → ys[i]? = some y) ∧ ∀ zs, SqL K H c zs → zs[i]? = some z,
    fun i H => ∃ xs ys zs : List V, SqL K H a xs ∧ SqL K H b ys ∧ SqL K H c zs ∧ i ≤ xs.length ∧ i ≤ ys.length ∧ i ≤ zs.length ∧ (xs.length = i ∨ ys.length = i ∨ zs.length = i)⟩
theorem turn_zip3 {P : Program} {w : World} {K : PySem.W.Frag} {elts : List Expr} {kk : Nat} {tpos : Pos} {a b c z TI TO i1 i2 i3 : Addr} (D : ZipSep3 z TI TO i1 i2 i3 [i1, a] [i2, b] [i3, c]) (n1 : a ≠ i1) (n2 : b ≠ i2) (n3 : c ≠ i3) :
    Turn P w K (.Tuple elts kk tpos) (Itz3 K a b c) [z, TI, TO, i1, i2, i3] z (fun i h => IsZip h z TI TO .none ∧ IsTupOf3 h TI (.ref i1) (.ref i2) (.ref i3) ∧ (∃ x y z, IsTupOf3 h TO x y z) ∧ h.IsListIter i1 a i ∧ h.IsListIter i2 b i ∧ h.IsListIter i3 c i) where
  mem := by simp
  obj := fun i h st c hc => by
    obtain ⟨hz, hTI, ⟨_, _, _, hTO⟩, ⟨o1, e1, _, d1⟩, ⟨o2, e2, _, d2⟩, ⟨o3, e3, _, d3⟩⟩ := st
    have e' : c = z ∨ c = TI ∨ c = TO ∨ c = i1 ∨ c = i2 ∨ c = i3 := by simpa using hc
    rcases e' with q | q | q | q | q | q
    · rw [q]; exact ⟨_, hz, fun v q => nomatch q⟩
    · rw [q]; exact ⟨_, hTI, fun v q => nomatch q⟩
    · rw [q]; exact ⟨_, hTO, fun v q => nomatch q⟩
    · rw [q]; exact ⟨o1, e1, fun v q => by rw [d1] at q; cases q⟩
    · rw [q]; exact ⟨o2, e2, fun v q => by rw [d2] at q; cases q⟩
    · rw [q]; exact ⟨o3, e3, fun v q => by rw [d3] at q; cases q⟩
  keep := fun i h h' st k => by
    obtain ⟨hz, hTI, ⟨x, y, v, hTO⟩, h1, h2, h3⟩ := st
    exact ⟨k z (by simp) _ hz, k TI (by simp) _ hTI, ⟨x, y, v, k TO (by simp) _ hTO⟩, h1.at fun o q => k i1 (by simp) o q, h2.at fun o q => k i2 (by simp) o q, h3.at fun o q => k i3 (by simp) o q⟩
  item := by
    intro X hP hw hK hc i pins s σ H E I hf st hg
    subst hP hw hK
    obtain ⟨hz, hTI, ⟨x0, y0, v0, hTO⟩, h1, h2, h3⟩ := st
    obtain ⟨xs, ys, zs, x, y, v, hqx, hqy, hqz, hx, hy, hv⟩ := hg
    obtain ⟨its, rv, p, _⟩ := I.list hqx
    obtain ⟨its2, rv2, p2, _⟩ := I.list hqy
    obtain ⟨its3, rv3, p3, _⟩ := I.list hqz
    obtain ⟨u, hu, ru⟩ := rv.get hx
    obtain ⟨u2, hu2, ru2⟩ := rv2.get hy
    obtain ⟨u3, hu3, ru3⟩ := rv3.get hv
    have hh := I.ok.hd hc
    have hzl : z < s.heap.objs.size := Heap.lt_size hz
    have l1 : i < its.toArray.size := by
      obtain ⟨q, _⟩ := List.getElem?_eq_some_iff.mp hu
      simpa using q
    have l2 : i < its2.toArray.size := by
      obtain ⟨q, _⟩ := List.getElem?_eq_some_iff.mp hu2
      simpa using q
    have l3 : i < its3.toArray.size := by
      obtain ⟨q, _⟩ := List.getElem?_eq_some_iff.mp hu3
      simpa using q
    refine wpAny_pyNext_zipD3_item D (Draws.list (A := X.A.in1) hh i1 a n1 its.toArray) (Draws.list (A := X.A.in1) hh i2 b n2 its2.toArray) (Draws.list (A := X.A.in1) hh i3 c n3 its3.toArray) hz hTI hTO ⟨h1, p.isList⟩ ⟨h2, p2.isList⟩ ⟨h3, p3.isList⟩ l1 l2 l3
      fun w1 w2 w3 h' tk y1 y2 y3 b1 b2 d1 d2 d3 b5 b6 hk => ?_
    have ew1 : w1 = u := by
      have y1 : its.toArray[i]? = some w1 := y1
      simp only [List.getElem?_toArray] at y1
      exact Option.some.inj (y1.symm.trans hu)
    have ew2 : w2 = u2 := by
      have y2 : its2.toArray[i]? = some w2 := y2
      simp only [List.getElem?_toArray] at y2
      exact Option.some.inj (y2.symm.trans hu2)
    have ew3 : w3 = u3 := by
      have y3 : its3.toArray[i]? = some w3 := y3
      simp only [List.getElem?_toArray] at y3
      exact Option.some.inj (y3.symm.trans hu3)
    subst ew1 ew2 ew3
    refine ⟨_, rfl, wpAny_letOwnedTupleGo_zip (s := { s with heap := h', toks := tk }) b1 fun h'' z'' sb => ?_⟩
    have hT2 : h''.get? s.heap.objs.size = some { cls := .type "tuple", data := .seq #[w1, w2, w3] } := (sb.2 _ (Nat.ne_of_gt hzl)).trans b5
    have new : ObjOk X.prog X.w (upd H s.heap.objs.size (.tup [x, y, v])) h'' s.heap.objs.size (.tup [x, y, v]) :=
      ⟨by show 3 ≤ sizeLine; decide, [w1, w2, w3], .cons ru (.cons ru2 (.cons ru3 .nil)), ⟨_, hT2, rfl, _, rfl⟩⟩
    have I1 : Inv X pins σ (upd H s.heap.objs.size (.tup [x, y, v])) { s with heap := h'', toks := tk } :=
      I.turnedNew (ch := [z, TI, TO, i1, i2, i3]) (fun c o hb q => (sb.2 c (fun q' => hb (by simp [q']))).trans (hk c o (fun q' => hb (by simp [q'])) (fun q' => hb (by simp [q'])) (fun q' => hb (by simp [q'])) (fun q' => hb (by simp [q'])) (fun q' => hb (by simp [q'])) q)) hf (Nat.le_refl _) new
    refine ⟨.ref s.heap.objs.size, _, I1, rfl, ⟨_, x, y, v, rfl, I.hok.fresh (Nat.le_refl _), rfl, fun l hl => by rw [I.list_inj hl hqx]; exact hx, fun l hl => by rw [I.list_inj hl hqy]; exact hy, fun l hl => by rw [I.list_inj hl hqz]; exact hv⟩, ⟨z'', ?_, ⟨w1, w2, w3, ?_⟩, ?_, ?_, ?_⟩, fun c hcm => ?_⟩
    · exact (sb.2 _ D.TIz).trans (hk _ _ D.TIz D.TITO D.TIi1 D.TIi2 D.TIi3 hTI)
    · exact (sb.2 _ D.TOz).trans b2
    · exact d1.1.at fun o q => (sb.2 _ (fun e => D.zf1 (by simp [e]))).trans q
    · exact d2.1.at fun o q => (sb.2 _ (fun e => D.zf2 (by simp [e]))).trans q
    · exact d3.1.at fun o q => (sb.2 _ (fun e => D.zf3 (by simp [e]))).trans q
    · have hlt : c < s.heap.objs.size := by
        have e' : c = z ∨ c = TI ∨ c = TO ∨ c = i1 ∨ c = i2 ∨ c = i3 := by simpa using hcm
        rcases e' with q | q | q | q | q | q
        · rw [q]; exact hzl
        · rw [q]; exact Heap.lt_size hTI
        · rw [q]; exact Heap.lt_size hTO
        · rw [q]; obtain ⟨_, e1, _⟩ := h1; exact Heap.lt_size e1
        · rw [q]; obtain ⟨_, e2, _⟩ := h2; exact Heap.lt_size e2
        · rw [q]; obtain ⟨_, e3, _⟩ := h3; exact Heap.lt_size e3
      rw [upd_ne (Nat.ne_of_lt hlt)]
      exact (hf c hcm).1
  done := by
    intro X hP hw hK hc i pins s σ H E I hf st hg
    subst hP hw hK
    obtain ⟨hz, hTI, ⟨x0, y0, v0, hTO⟩, h1, h2, h3⟩ := st
    obtain ⟨xs, ys, zs, hqx, hqy, hqz, g1, g2, g3, hend⟩ := hg
    obtain ⟨its, rv, p, _⟩ := I.list hqx
    obtain ⟨its2, rv2, p2, _⟩ := I.list hqy
    obtain ⟨its3, rv3, p3, _⟩ := I.list hqz
    have hh := I.ok.hd hc
    have e1 : its.toArray.size = xs.length := by simpa using rv.length.symm
    have e2 : its2.toArray.size = ys.length := by simpa using rv2.length.symm
    have e3 : its3.toArray.size = zs.length := by simpa using rv3.length.symm
    exact wpAny_pyNext_zipD3_end D (Draws.list (A := X.A.in1) hh i1 a n1 its.toArray) (Draws.list (A := X.A.in1) hh i2 b n2 its2.toArray) (Draws.list (A := X.A.in1) hh i3 c n3 its3.toArray) hz hTI hTO ⟨h1, p.isList⟩ ⟨h2, p2.isList⟩ ⟨h3, p3.isList⟩ (by omega) (by omega) (by omega) (by omega)
      fun h' tk hk => ⟨rfl, I.turnedL (t' := tk) (ch := [z, TI, TO, i1, i2, i3]) (fun c o hb q =>
      hk c o (fun q' => hb (by simp [q'])) (fun q' => hb (by simp [q'])) (fun q' => hb (by simp [q'])) (fun q' => hb (by simp [q'])) (fun q' => hb (by simp [q'])) q) hf⟩
  self := fun A i s Q E st h => wpAny_pyIter_zip st.1 h
def iZip3 (K : PySem.W.Frag) (ta : TA) : TI := fun σ H R => ta σ H fun vs H1 => ∃ a b c xs ys zs, vs = [.ref a, .ref b, .ref c] ∧ SqL K H1 a xs ∧ SqL K H1 b ys ∧ SqL K H1 c zs ∧ R (Itz3 K a b c) H1
theorem pi_zip3 {X : Cx} {e e2 e3 : Expr} {ta : TA} {p pos tpos : Pos} {elts : List Expr} {kk : Nat} (hg : Gl X "zip") (hm : X.mg "zip" = none) (ha : PA X [e, e2, e3] ta)
    (hs : starEach [e, e2, e3] X.env = (false, eval e X.env) :: starEach [e2, e3] X.env := by rfl) (hpl : (backTo pos (starEach [e2, e3] X.env)).any (·.1) = false := by rfl) :
    PI X (.Tuple elts kk tpos) (.Call (.Name "zip" p) [e, e2, e3] [] pos) (iZip3 X.K ta) := by
  refine ⟨fun pins s σ H R I h => ?_⟩
  refine Call_ (ld_blt I hg hm PyProof.Rows.boot_zip (PyProof.Rows.callWith_type1 (thn (ha.run pos pins s σ H _ I h) fun us s1 ⟨vs, H1, I1, r1, q1⟩ => ?_) hs hpl))
  obtain ⟨a, b, c, xs, ys, zs, ex, hqx, hqy, hqz, q⟩ := q1
  subst ex
  cases r1 with
  | cons r rr =>
    cases rr with
    | cons r' rr =>
      cases rr with
      | cons r'' rr =>
        cases rr
        cases r
        cases r'
        cases r''
        obtain ⟨its, rv, p1, _⟩ := I1.list hqx
        obtain ⟨its2, rv2, p2, _⟩ := I1.list hqy
        obtain ⟨its3, rv3, p3, _⟩ := I1.list hqz
        have la : a < s1.heap.objs.size := p1.lt
        have lb : b < s1.heap.objs.size := p2.lt
        have lc : c < s1.heap.objs.size := p3.lt
        refine zip_begins3 (begins_list a its.toArray) (begins_list b its2.toArray) (begins_list c its3.toArray) p1.isList p2.isList p3.isList fun h' hz hTI hTO g1 g2 g3 hsz hk => wpAny_pyIter_zip hz ?_
        have I2 : Inv X pins σ H1 { s1 with heap := h' } := I1.kept (t' := s1.toks) hk
        refine ⟨s1.heap.objs.size + 5, [s1.heap.objs.size + 5, s1.heap.objs.size + 3, s1.heap.objs.size + 4, s1.heap.objs.size, s1.heap.objs.size + 1, s1.heap.objs.size + 2], _, _, H1, rfl, I2,
          turn_zip3 (zip_sep3 (fp1 := [a]) (fp2 := [b]) (fp3 := [c]) (by simpa using la) (by simpa using lb) (by simpa using lc)) (Nat.ne_of_lt la) (Nat.ne_of_lt (Nat.lt_succ_of_lt lb)) (Nat.ne_of_lt (Nat.lt_succ_of_lt (Nat.lt_succ_of_lt lc))),
          ⟨hz, hTI, ⟨_, _, _, hTO⟩, ⟨_, g1, rfl, rfl⟩, ⟨_, g2, rfl, rfl⟩, ⟨_, g3, rfl, rfl⟩⟩, fun d hcm => ?_, q⟩
        have hle : s1.heap.objs.size ≤ d := by
          have e' : d = s1.heap.objs.size + 5 ∨ d = s1.heap.objs.size + 3 ∨ d = s1.heap.objs.size + 4 ∨ d = s1.heap.objs.size ∨ d = s1.heap.objs.size + 1 ∨ d = s1.heap.objs.size + 2 := by simpa using hcm
          rcases e' with z | z | z | z | z | z
          · rw [z]; exact Nat.le_add_right _ _
          · rw [z]; exact Nat.le_add_right _ _
          · rw [z]; exact Nat.le_add_right _ _
          · rw [z]; exact Nat.le_refl _
          · rw [z]; exact Nat.le_add_right _ _
          · rw [z]; exact Nat.le_add_right _ _
        exact I1.fpOk hle (I1.hok.fresh hle)
end Ho

/-! Ho, part C: dicts of texts to texts; == and != of them -/
namespace Ho
open PySem PySem.Spec PyProof.Rows L2 Evl

abbrev Row := List Nat
/-- a dict of texts to texts -/
abbrev Dic := List (Row × Row)
def DS (r : Dic) : List (Key × V) := r.map fun p => (Sum.inr (S p.1), VS p.2)
def look (r : Dic) (k : Row) : Option Row := (r.find? fun p => decide (p.1 = k)).map (·.2)
def put (r : Dic) (k v : Row) : Dic := if (r.any fun p => decide (p.1 = k)) = true then r.map (fun p => if p.1 = k then (p.1, v) else p) else r ++ [(k, v)]
def dEq (r q : Dic) : Bool := r.length == q.length && r.all fun p => decide (look q p.1 = some p.2)
theorem keyS_eq {a b : Row} : (Sum.inr (S a) : Key) = Sum.inr (S b) ↔ a = b := ⟨fun h => S_inj (Sum.inr.inj h), fun h => by rw [h]⟩
theorem look_nil (k : Row) : look [] k = none := rfl
theorem look_cons (p : Row × Row) (r : Dic) (k : Row) : look (p :: r) k = if p.1 = k then some p.2 else look r k := by
  unfold look
  by_cases h : p.1 = k
  · simp [h]
  · simp [h]
theorem DS_val (k : Row) : ∀ r : Dic, valV (DS r) (Sum.inr (S k) : Key) = (look r k).map VS
  | [] => rfl
  | p :: r => by
    rw [look_cons]
    by_cases h : p.1 = k
    · rw [if_pos h]
      exact valV_pos (keyS_eq.mpr h)
    · rw [if_neg h, ← DS_val k r]
      exact valV_neg fun e => h (keyS_eq.mp e)
theorem DS_len (r : Dic) : (DS r).length = r.length := by simp [DS]
theorem DS_any (k : Row) (r : Dic) : ((DS r).any fun kv => decide (kv.1 = (Sum.inr (S k) : Key))) = r.any fun p => decide (p.1 = k) := by
  unfold DS
  rw [List.any_map]
  congr 1
  funext p
  show decide ((Sum.inr (S p.1) : Key) = Sum.inr (S k)) = decide (p.1 = k)
  by_cases h : p.1 = k
  · rw [h]; simp
  · rw [decide_eq_false h, decide_eq_false fun e => h (keyS_eq.mp e)]
theorem DS_put (r : Dic) (k v : Row) : putK (DS r) (Sum.inr (S k) : Key) (VS v) = DS (put r k v) := by
  unfold putK put
  rw [DS_any]
  by_cases h : (r.any fun p => decide (p.1 = k)) = true
  · rw [if_pos h, if_pos h]
    unfold DS
    rw [List.map_map, List.map_map]
    congr 1
    funext p
    show (if (Sum.inr (S p.1) : Key) = Sum.inr (S k) then _ else _) = ((Sum.inr (S (if p.1 = k then (p.1, v) else p).1) : Key), VS (if p.1 = k then (p.1, v) else p).2)
    by_cases e : p.1 = k
    · rw [if_pos (keyS_eq.mpr e), if_pos e]
    · rw [if_neg fun q => e (keyS_eq.mp q), if_neg e]
  · rw [if_neg h, if_neg h]
    simp [DS]
theorem DS_nil : DS [] = [] := rfl
theorem look_mem {r : Dic} {k v : Row} (h : look r k = some v) : (k, v) ∈ r := by
  induction r with
  | nil => cases h
  | cons p r ih =>
    rw [look_cons] at h
    by_cases e : p.1 = k
    · rw [if_pos e] at h
      cases h
      subst e
      exact List.mem_cons_self
    · rw [if_neg e] at h
      exact List.mem_cons_of_mem _ (ih h)
theorem look_nodup {r : Dic} (nd : (r.map (·.1)).Nodup) : ∀ p ∈ r, look r p.1 = some p.2 := by
  induction r with
  | nil => intro p h; cases h
  | cons q r ih =>
    intro p h
    rw [List.map_cons, List.nodup_cons] at nd
    rw [look_cons]
    rcases List.mem_cons.mp h with e | h'
    · rw [e, if_pos rfl]
    · rw [if_neg fun e => nd.1 (List.mem_map.mpr ⟨p, h', e.symm⟩)]
      exact ih nd.2 p h'
theorem dEq_same {r : Dic} (nd : (r.map (·.1)).Nodup) : dEq r r = true := by
  unfold dEq
  simp only [beq_self_eq_true, Bool.true_and, List.all_eq_true, decide_eq_true_eq]
  exact look_nodup nd
theorem look_none {r : Dic} {k : Row} : look r k = none ↔ ∀ p ∈ r, p.1 ≠ k := by
  unfold look
  simp
theorem look_isSome {r : Dic} {k : Row} : (look r k).isSome = r.any fun p => decide (p.1 = k) := by
  unfold look
  rw [Option.isSome_map, Bool.eq_iff_iff, List.find?_isSome, List.any_eq_true]
theorem put_keys (r : Dic) (k v : Row) : (put r k v).map (·.1) = if k ∈ r.map (·.1) then r.map (·.1) else r.map (·.1) ++ [k] := by
  unfold put
  by_cases h : (r.any fun p => decide (p.1 = k)) = true
  · rw [if_pos h, if_pos]
    · rw [List.map_map]
      apply List.map_congr_left
      intro p hp
      show (if p.1 = k then (p.1, v) else p).1 = p.1
      by_cases e : p.1 = k
      · rw [if_pos e]
      · rw [if_neg e]
    · obtain ⟨p, hp, e⟩ := List.any_eq_true.mp h
      exact List.mem_map.mpr ⟨p, hp, of_decide_eq_true e⟩
  · rw [if_neg h, if_neg]
    · simp
    · intro hm
      obtain ⟨p, hp, e⟩ := List.mem_map.mp hm
      exact h (List.any_eq_true.mpr ⟨p, hp, decide_eq_true e⟩)
theorem put_nodup {r : Dic} (nd : (r.map (·.1)).Nodup) (k v : Row) : ((put r k v).map (·.1)).Nodup := by
  rw [put_keys]
  by_cases h : k ∈ r.map (·.1)
  · rw [if_pos h]; exact nd
  · rw [if_neg h]
    rw [List.nodup_append]
    refine ⟨nd, by simp, ?_⟩
    intro a ha b hb
    have : b = k := by simpa using hb
    subst this
    exact fun e => h (e ▸ ha)
theorem put_mem {r : Dic} {k v : Row} {p : Row × Row} (h : p ∈ put r k v) : p ∈ r ∨ p = (k, v) := by
  unfold put at h
  split at h
  · obtain ⟨q, hq, e⟩ := List.mem_map.mp h
    by_cases z : q.1 = k
    · rw [if_pos z] at e
      right; rw [← e, z]
    · rw [if_neg z] at e
      left; rw [← e]; exact hq
  · rcases List.mem_append.mp h with h | h
    · exact .inl h
    · right; simpa using h
theorem put_ne_nil (r : Dic) (k v : Row) : put r k v ≠ [] := by
  unfold put
  split
  · rename_i h
    obtain ⟨p, hp, _⟩ := List.any_eq_true.mp h
    intro e
    have : r = [] := by simpa using e
    rw [this] at hp; cases hp
  · simp
theorem put_len (r : Dic) (k v : Row) : (put r k v).length ≤ r.length + 1 := by
  unfold put
  split <;> simp

/-! ### == of two such dicts -/
theorem hits_S {A : Around} {s : Shared} {q : Dic} {vb : List (Key × Value)} (rb : KV (DS q) vb) : ∀ (r : Dic) (va : List (Key × Value)), KV (DS r) va →
    PySem.W.KeqHits A s vb va (r.all fun p => decide (look q p.1 = some p.2))
  | [], va, ra => by
    cases ra
    exact .nil
  | p :: r, va, ra => by
    unfold KV DS at ra
    rw [List.map_cons] at ra
    cases ra with
    | @cons _ z _ zs h t =>
      obtain ⟨h1, h2⟩ := h
      obtain ⟨k, v⟩ := z
      have h1' : (Sum.inr (S p.1) : Key) = k := h1
      subst h1'
      have h2' : RelV (VS p.2) v := h2
      obtain ⟨tv, rfl⟩ := h2'
      have rr := rb.val (Sum.inr (S p.1))
      rw [DS_val] at rr
      have ih := hits_S rb r zs t (A := A) (s := s)
      rw [List.all_cons]
      cases e : look q p.1 with
      | none =>
        rw [e] at rr
        rw [decide_eq_false (show ¬ (none : Option Row) = some p.2 from fun z => nomatch z), Bool.false_and]
        exact .miss rr.none_of
      | some y =>
        rw [e] at rr
        obtain ⟨u, hu, ru⟩ := rr.some_of
        obtain ⟨tu, rfl⟩ := ru
        have e2 : decide (some y = some p.2) = (S p.2 == S y) := by
          by_cases z : y = p.2
          · subst z; simp
          · rw [decide_eq_false fun w => z (Option.some.inj w)]
            exact (beq_eq_false_iff_ne.mpr fun w => z (S_inj w).symm).symm
        rw [e2]
        exact .hit hu (SeqAt.EqAt.str_str (S p.2) tv (S y) tu) ih
section
variable {X : Cx}
def rEqDS (neg : Bool) : R2 := fun x y H Q => ∃ a b r q, x = .ref a ∧ y = .ref b ∧ H a = some (.dK (DS r)) ∧ H b = some (.dK (DS q)) ∧ Q (.bl (if neg then !dEq r q else dEq r q)) H
theorem op_eq_dict (hu : X.A.units < cLine) : OpR X (compareOp .Eq) (rEqDS false) := by
  intro pins s σ H x y v u Q I rx ry h
  obtain ⟨a, b, r, q, rfl, rfl, ea, eb, k⟩ := h
  obtain rfl : v = Value.ref a := rx
  obtain rfl : u = Value.ref b := ry
  obtain ⟨_, ya, va, ra, da⟩ := (show ObjOk X.prog X.w H s.heap a (.dK (DS r)) from I.hok a _ ea)
  obtain ⟨_, yb, vb, rb, db⟩ := (show ObjOk X.prog X.w H s.heap b (.dK (DS q)) from I.hok b _ eb)
  refine PySem.W.keq_eq (knd := mixKind X.prog X.w) ya yb da db hu (fun _ => hits_S rb r va ra) (fin_bl I k ?_)
  have h1 := ra.length
  have h2 := rb.length
  rw [DS_len] at h1 h2
  simp only [Bool.false_eq_true, if_false]
  rw [dEq, ← h1, ← h2]
theorem op_ne_dict (hu : X.A.units < cLine) : OpR X (compareOp .NotEq) (rEqDS true) := by
  intro pins s σ H x y v u Q I rx ry h
  obtain ⟨a, b, r, q, rfl, rfl, ea, eb, k⟩ := h
  obtain rfl : v = Value.ref a := rx
  obtain rfl : u = Value.ref b := ry
  obtain ⟨_, ya, va, ra, da⟩ := (show ObjOk X.prog X.w H s.heap a (.dK (DS r)) from I.hok a _ ea)
  obtain ⟨_, yb, vb, rb, db⟩ := (show ObjOk X.prog X.w H s.heap b (.dK (DS q)) from I.hok b _ eb)
  refine PySem.W.keq_ne (knd := mixKind X.prog X.w) ya yb da db hu (fun _ => hits_S rb r va ra) (fin_bl I k ?_)
  have h1 := ra.length
  have h2 := rb.length
  rw [DS_len] at h1 h2
  simp only [if_true]
  rw [dEq, ← h1, ← h2]
end
end Ho

/-! Ho, part D: expressions: what each evaluates to -/
namespace Ho
open PySem PySem.Spec PyProof.Rows L2 Evl

/-! ### texts by their codes: joined, counted, cut -/
theorem joinL_nil : ∀ ys : List Row, TL.joinL [] ys = ys.flatten
  | [] => rfl
  | [p] => by simp [TL.joinL]
  | p :: q :: r => by
    show p ++ ([] ++ TL.joinL [] (q :: r)) = _
    rw [joinL_nil (q :: r)]
    simp
theorem map_S_tl : ∀ l : List Row, (l.map S).map TL.tl = l
  | [] => rfl
  | x :: l => by
    rw [List.map_cons, List.map_cons, map_S_tl l]
    rfl
theorem join_nil (ys : List Row) : Txt.join (S []) (ys.map S) = S ys.flatten := by
  rw [TL.join_eq]
  refine TL.ext_tl ?_
  rw [TL.tl_join, map_S_tl]
  show TL.joinL (S []).cps.toList ys = (S ys.flatten).cps.toList
  rw [S_cps, S_cps, joinL_nil]
theorem at_one {l : Row} {c i : Nat} : StrLaws.At (S l) (S [c]) (S l).length i ↔ l[i]? = some c := by
  have hne : TL.tl (S [c]) ≠ [] := by show (S [c]).cps.toList ≠ []; rw [S_cps]; simp
  rw [TL.at_iff hne]
  show ((((S l).cps.toList.drop i).take (S [c]).cps.toList.length) == (S [c]).cps.toList) = true ↔ _
  rw [S_cps, S_cps]
  simp only [beq_iff_eq, List.length_singleton]
  rw [← List.head?_drop]
  cases l.drop i with
  | nil => simp
  | cons a r => simp
theorem chain_count {l : Row} {c : Nat} : ∀ (cuts : List Nat) (a f : Nat), StrLaws.ChainG (S l) (S [c]) (S l).length a cuts f → (∀ k, f ≤ k → ¬ StrLaws.At (S l) (S [c]) (S l).length k) → cuts.length = (l.drop a).count c
  | [], a, f, h, hn => by
    have e : f = a := h
    subst e
    rw [eq_comm, List.length_nil, List.count_eq_zero]
    intro hm
    obtain ⟨i, hi⟩ := List.getElem?_of_mem hm
    rw [List.getElem?_drop] at hi
    exact hn (f + i) (Nat.le_add_right _ _) (at_one.mpr hi)
  | d :: r, a, f, h, hn => by
    obtain ⟨hac, hA, hno, hr⟩ := h
    have ih := chain_count r (d + 1) f (by rw [S_len] at hr; exact hr) hn
    have hd : l[d]? = some c := at_one.mp hA
    obtain ⟨hlt, hdc⟩ := List.getElem?_eq_some_iff.mp hd
    have e1 : l.drop a = (l.drop a).take (d - a) ++ (c :: l.drop (d + 1)) := by
      rw [← hdc, ← List.drop_eq_getElem_cons hlt]
      have : l.drop d = (l.drop a).drop (d - a) := by rw [List.drop_drop]; congr 1; omega
      rw [this, List.take_append_drop]
    rw [e1, List.count_append, List.count_cons, List.length_cons, ih]
    have e2 : ((l.drop a).take (d - a)).count c = 0 := by
      rw [List.count_eq_zero]
      intro hm
      obtain ⟨i, hi⟩ := List.getElem?_of_mem hm
      have hi2 : i < d - a := by
        have := (List.getElem?_eq_some_iff.mp hi).1
        rw [List.length_take] at this
        omega
      rw [List.getElem?_take_of_lt hi2, List.getElem?_drop] at hi
      exact hno (a + i) (Nat.le_add_right _ _) (by omega) (at_one.mpr hi)
    rw [e2]
    simp
theorem count_one (l : Row) (c : Nat) : Txt.count (S l) (S [c]) = (l.count c : Nat) := by
  obtain ⟨f, h1, h2⟩ := StrLaws.occ_tight (S l) (S [c]) (by rw [S_len]; exact Nat.le_refl _)
  have := chain_count _ 0 f h1 h2
  rw [List.drop_zero] at this
  show ((_ : Nat) : Int) = _
  rw [this]
/-- a cut of any list -/
def cutG {α : Type} (l : List α) (lo hi : Option Int) : List α := List.take (HT.sIx l.length l.length hi - HT.sIx l.length 0 lo) (List.drop (HT.sIx l.length 0 lo) l)
theorem cutV_map {α : Type} (f : α → V) (l : List α) (lo hi : Option Int) : cutV (l.map f) lo hi = (cutG l lo hi).map f := by
  unfold cutV cutG
  rw [List.length_map, List.map_take, List.map_drop]
theorem cutS_S (l : Row) (lo hi : Option Int) : cutS (S l) lo hi = S (cutG l lo hi) := by
  unfold cutS cutG
  rw [S_len, S_cps]
  rfl
theorem cutG_to {α : Type} (l : List α) {n : Int} (h : 0 ≤ n) : cutG l none (some n) = l.take n.toNat := by
  obtain ⟨k, rfl⟩ := Int.eq_ofNat_of_zero_le h
  unfold cutG
  rw [HT.sIx_nat, HT.sIx_none]
  simp only [Nat.sub_zero, List.drop_zero, Int.toNat_natCast]
  rw [List.take_eq_take_iff]
  omega
theorem cutG_from {α : Type} (l : List α) {n : Int} (h : 0 ≤ n) : cutG l (some n) none = l.drop n.toNat := by
  obtain ⟨k, rfl⟩ := Int.eq_ofNat_of_zero_le h
  unfold cutG
  rw [HT.sIx_nat, HT.sIx_none]
  simp only [Int.toNat_natCast]
  rw [List.take_of_length_le (by rw [List.length_drop]; omega)]
  by_cases hk : k ≤ l.length
  · rw [Nat.min_eq_left hk]
  · rw [Nat.min_eq_right (by omega), List.drop_eq_nil_of_le (Nat.le_refl _), List.drop_eq_nil_of_le (by omega)]
theorem cutG_both {α : Type} (l : List α) {m n : Int} (h : 0 ≤ m) (h2 : 0 ≤ n) : cutG l (some m) (some n) = (l.take n.toNat).drop m.toNat := by
  obtain ⟨j, rfl⟩ := Int.eq_ofNat_of_zero_le h
  obtain ⟨k, rfl⟩ := Int.eq_ofNat_of_zero_le h2
  unfold cutG
  rw [HT.sIx_nat, HT.sIx_nat]
  simp only [Int.toNat_natCast]
  rw [List.drop_take]
  by_cases hj : j ≤ l.length
  · rw [Nat.min_eq_left hj, List.take_eq_take_iff, List.length_drop]
    omega
  · rw [Nat.min_eq_right (show l.length ≤ j by omega), List.drop_eq_nil_of_le (Nat.le_refl _), List.drop_eq_nil_of_le (as := l) (i := j) (by omega)]
    simp
theorem cutG_butlast {α : Type} (l : List α) : cutG l none (some (-1)) = l.dropLast := by
  unfold cutG
  rw [HT.sIx_none]
  have e : HT.sIx l.length l.length (some (-1)) = l.length - 1 := by
    show (if (-1 : Int) < 0 then ((-1 : Int) + (l.length : Int)).toNat else min (-1 : Int).toNat l.length) = _
    rw [if_pos (by decide)]
    omega
  rw [e, Nat.sub_zero, List.drop_zero, List.dropLast_eq_take]
theorem cutG_all {α : Type} (l : List α) : cutG l none none = l := by
  unfold cutG
  rw [HT.sIx_none, HT.sIx_none]
  simp

/-! ### readings with names -/
section
variable {X : Cx}
def rAddS : R2 := fun x y H Q => ∃ i j, x = .str i ∧ y = .str j ∧ i.length + j.length ≤ sizeLine ∧ Q (.str (i ++ j)) H
theorem op_addS : OpR X (binaryOp .Add) rAddS := op_add_str
def rInC (neg : Bool) : R2 := fun x y H Q => ∃ (c : Nat) (z : Str), x = .str ⟨#[c]⟩ ∧ y = .str z ∧ Q (.bl (if neg then !decide (c ∈ z.cps.toList) else decide (c ∈ z.cps.toList))) H
theorem op_inC : OpR X (compareOp .In) (rInC false) := op_in_sign
theorem op_ninC : OpR X (compareOp .NotIn) (rInC true) := op_notIn_sign
def rIsNo (neg : Bool) : R2 := fun x y H Q => y = .non ∧ Q (.bl (if neg then !decide (x = .non) else decide (x = .non))) H
theorem op_isNo : OpR X (compareOp .Is) (rIsNo false) := op_isN
theorem op_isntNo : OpR X (compareOp .IsNot) (rIsNo true) := op_notN
def rAbs : List V → Hp → VK → Prop := fun xs H Q => ∃ i, xs = [.int i] ∧ Q (.int (if i < 0 then -i else i)) H
theorem cb_abs : CallR X (.builtin "abs") rAbs := call_abs
def rMx : List V → Hp → VK → Prop := fun xs H Q => ∃ i j, xs = [.int i, .int j] ∧ Q (.int (if j > i then j else i)) H
def rMn : List V → Hp → VK → Prop := fun xs H Q => ∃ i j, xs = [.int i, .int j] ∧ Q (.int (if j < i then j else i)) H
theorem cb_max2 (hc : X.calm = true) : CallR X (.builtin "max") rMx := call_max2 hc
theorem cb_min2 (hc : X.calm = true) : CallR X (.builtin "min") rMn := call_min2 hc
def rLenQ (K : PySem.W.Frag) : List V → Hp → VK → Prop := fun xs H Q => ∃ p ys, xs = [.ref p] ∧ (SqL K H p ys ∨ SqT K H p ys) ∧ Q (.int ys.length) H
theorem cb_lenQ : CallR X (.builtin "len") (rLenQ X.K) := call_len_seq
def rLenS : List V → Hp → VK → Prop := fun xs H Q => ∃ z, xs = [.str z] ∧ z.length ≤ sizeLine ∧ Q (.int z.length) H
theorem cb_lenS : CallR X (.builtin "len") rLenS := call_len_str
def rLenD : List V → Hp → VK → Prop := fun xs H Q => ∃ a kvs, xs = [V.ref a] ∧ H a = some (.dK kvs) ∧ Q (.int kvs.length) H
theorem cb_lenD : CallR X (.builtin "len") rLenD := call_lenD
def rListQ (K : PySem.W.Frag) : List V → Hp → VK → Prop := fun xs H Q => ∃ p ys, xs = [.ref p] ∧ (SqL K H p ys ∨ SqT K H p ys) ∧ ∀ l, H l = none → Q (.ref l) (upd H l (.lst ys))
theorem ct_list : CallR X (.type "list") (rListQ X.K) := call_list_of
def rDictD : List V → Hp → VK → Prop := fun xs H Q => ∃ (a : Addr) (kvs : List (Key × V)), xs = [.ref a] ∧ Rd H a (.dK kvs) ∧ ∀ p, H p = none → Q (.ref p) (upd H p (.dK kvs))
theorem ct_dict : CallR X (.type "dict") rDictD := call_dictD
def rInt1 : List V → Hp → VK → Prop := fun xs H Q => (∃ i, xs = [.int i] ∧ Q (.int i) H) ∨ ∃ k, xs = [.bl k] ∧ Q (.int (if k then 1 else 0)) H
theorem ct_int : CallR X (.type "int") rInt1 := call_int1
def rJoin (K : PySem.W.Frag) : V → List V → Hp → VK → Prop := fun x xs H Q => ∃ a p, ∃ ys : List Str, x = .str a ∧ xs = [.ref p] ∧ (SqL K H p (ys.map V.str) ∨ SqT K H p (ys.map V.str)) ∧
    (ys.map (·.length)).sum + ys.length * a.length ≤ 16777216 ∧ Q (.str (Txt.join a ys)) H
theorem pe_joinQ {o e : Expr} {to te : TE} {apos pos : Pos} (ho : PE X o to) (he : PE X e te) (hs : starEach [e] X.env = [(false, eval e X.env)] := by rfl) (hbase : attributeBase o "join" X.env (eval o X.env) = eval o X.env := by rfl) (hline : (apos.endLine == pos.line) = true := by rfl) :
    PE X (.Call (.Attribute o "join" apos) [e] [] pos) (tM1 (rJoin X.K) to te) := pe_join ho he hs hbase hline
def rCount : V → List V → Hp → VK → Prop := fun x xs H Q => ∃ a b, x = .str a ∧ xs = [.str b] ∧ Q (.int (Txt.count a b)) H
theorem mt_countS : MtR X "str.count" rCount := mt_count
def rIsTF (neg : Bool) : R2 := fun x y H Q => ∃ a b, x = .bl a ∧ y = .bl b ∧ Q (.bl (if neg then !decide (a = b) else decide (a = b))) H
theorem op_isTF : OpR X (compareOp .Is) (rIsTF false) := op_is_bl
theorem op_isntTF : OpR X (compareOp .IsNot) (rIsTF true) := op_isnot_bl
end

/-! ### the same rules, the written part by its name -/
section
variable {X : Cx} {K : PySem.W.Frag}
theorem kop_in (hK : X.K = K := by rfl) : OpR X (compareOp .In) (rIn K false) := hK ▸ op_in_seq
theorem kop_notIn (hK : X.K = K := by rfl) : OpR X (compareOp .NotIn) (rIn K true) := hK ▸ op_notIn_seq
theorem kcb_lenQ (hK : X.K = K := by rfl) : CallR X (.builtin "len") (rLenQ K) := hK ▸ cb_lenQ
theorem kct_list (hK : X.K = K := by rfl) : CallR X (.type "list") (rListQ K) := hK ▸ ct_list
theorem kcr_sum (hc : X.calm = true) (hK : X.K = K := by rfl) : CallR X (.builtin "sum") (rSum K) := hK ▸ cr_sum hc
theorem kcr_all (hc : X.calm = true) (hK : X.K = K := by rfl) : CallR X (.builtin "all") (rAll K) := hK ▸ cr_all hc
theorem kcr_any (hc : X.calm = true) (hK : X.K = K := by rfl) : CallR X (.builtin "any") (rAny K) := hK ▸ cr_any hc
theorem kcr_max (hc : X.calm = true) (hK : X.K = K := by rfl) : CallR X (.builtin "max") (rMax K) := hK ▸ cr_max hc
theorem kcr_min (hc : X.calm = true) (hK : X.K = K := by rfl) : CallR X (.builtin "min") (rMin K) := hK ▸ cr_min hc
theorem kix_list (hK : X.K = K := by rfl) : IxR X (rIxL K) := hK ▸ ix_list
theorem kix_tup (hK : X.K = K := by rfl) : IxR X (rIxT K) := hK ▸ ix_tup
theorem ksl_list (hK : X.K = K := by rfl) : SlR X (rSlL K) := hK ▸ sl_list
theorem kcall_isi (hK : X.K = K := by rfl) : CallR X (.builtin "isinstance") (rIsi K) := hK ▸ call_isi
theorem kop_eqD (hu : X.A.units + 64 < cLine) (hK : X.K = K := by rfl) : OpR X (compareOp .Eq) (rEqD K) := hK ▸ op_eqD hu
theorem kop_neD (hu : X.A.units + 64 < cLine) (hK : X.K = K := by rfl) : OpR X (compareOp .NotEq) (rNeD K) := hK ▸ op_neD hu
theorem kpi_list {l : Expr} {tg : Expr} {tl : TE} (hl : PE X l tl) (hK : X.K = K := by rfl) : PI X tg l (iList K tl) := hK ▸ pi_list hl
theorem kpi_tup {l : Expr} {tg : Expr} {tl : TE} (hl : PE X l tl) (hK : X.K = K := by rfl) : PI X tg l (iTup K tl) := hK ▸ pi_tup hl
theorem kpi_zip {e e2 : Expr} {ta : TA} {p pos tpos : Pos} {elts : List Expr} {kk : Nat} (hg : Gl X "zip") (hm : X.mg "zip" = none) (ha : PA X [e, e2] ta)
    (hs : starEach [e, e2] X.env = (false, eval e X.env) :: starEach [e2] X.env := by rfl) (hpl : (backTo pos (starEach [e2] X.env)).any (·.1) = false := by rfl) (hK : X.K = K := by rfl) :
    PI X (.Tuple elts kk tpos) (.Call (.Name "zip" p) [e, e2] [] pos) (iZip K ta) := hK ▸ pi_zip hg hm ha hs hpl
theorem kpi_zip3 {e e2 e3 : Expr} {ta : TA} {p pos tpos : Pos} {elts : List Expr} {kk : Nat} (hg : Gl X "zip") (hm : X.mg "zip" = none) (ha : PA X [e, e2, e3] ta)
    (hs : starEach [e, e2, e3] X.env = (false, eval e X.env) :: starEach [e2, e3] X.env := by rfl) (hpl : (backTo pos (starEach [e2, e3] X.env)).any (·.1) = false := by rfl) (hK : X.K = K := by rfl) :
    PI X (.Tuple elts kk tpos) (.Call (.Name "zip" p) [e, e2, e3] [] pos) (iZip3 K ta) := hK ▸ pi_zip3 hg hm ha hs hpl
theorem kpi_enum {e : Expr} {ta : TA} {p pos tpos : Pos} {elts : List Expr} {kk : Nat} (hg : Gl X "enumerate") (hm : X.mg "enumerate" = none) (ha : PA X [e] ta) (hs : starEach [e] X.env = [(false, eval e X.env)] := by rfl) (hK : X.K = K := by rfl) :
    PI X (.Tuple elts kk tpos) (.Call (.Name "enumerate" p) [e] [] pos) (iEnum K ta) := hK ▸ pi_enum hg hm ha hs
theorem kpe_joinQ {o e : Expr} {to te : TE} {apos pos : Pos} (ho : PE X o to) (he : PE X e te) (hs : starEach [e] X.env = [(false, eval e X.env)] := by rfl) (hbase : attributeBase o "join" X.env (eval o X.env) = eval o X.env := by rfl) (hline : (apos.endLine == pos.line) = true := by rfl) (hK : X.K = K := by rfl) :
    PE X (.Call (.Attribute o "join" apos) [e] [] pos) (tM1 (rJoin K) to te) := hK ▸ pe_joinQ ho he hs hbase hline
theorem kpe_revL {e : Expr} {te : TE} {k : Nat} {p1 p2 p3 pos : Pos} (he : PE X e te) (hK : X.K = K := by rfl) : PE X (.Subscript e (.Slice none none (some (.UnaryOp .USub (.Constant (.int 1) k p1) p2)) p3) pos) (tRevL K te) := hK ▸ pe_revL he
end

/-! ### what evaluates to what -/
section
variable {K : PySem.W.Frag} {σ : L2.St} {H H' : Hp} {ta tb tc te tx tl : TE} {t u : TT} {x y z v : V} {r : R2} {xs ys : List V} {P : V → Hp → Prop} {Ps : List (V → Hp → Prop)} {tr : TA} {i j k : Int} {a b : Row}

theorem ev_cS {z : Str} {l : Row} (h : z = S l) : Ev (tC (.str z)) σ H (VS l) := h ▸ ev_c
theorem lit_nil : (Str.ofString "" : Str) = S [] := by decide +kernel
theorem lit_o : (Str.ofString "o" : Str) = S [111] := by decide +kernel
theorem lit_dot : (Str.ofString "." : Str) = S [46] := by decide +kernel

/-! numbers -/
theorem ev_add (ha : Ev ta σ H (.int i)) (hb : Ev tb σ H (.int j)) : Ev (tOp (rI0 fun i j => .int (i + j)) ta tb) σ H (.int (i + j)) := ev_op ha hb rv_I0
theorem ev_sub (ha : Ev ta σ H (.int i)) (hb : Ev tb σ H (.int j)) : Ev (tOp (rI0 fun i j => .int (i - j)) ta tb) σ H (.int (i - j)) := ev_op ha hb rv_I0
theorem ev_mul (ha : Ev ta σ H (.int i)) (hb : Ev tb σ H (.int j)) (h : CMul i j) : Ev (tOp (rI CMul fun i j => .int (i * j)) ta tb) σ H (.int (i * j)) := ev_op ha hb (rv_I h)
theorem ev_fdiv (ha : Ev ta σ H (.int i)) (hb : Ev tb σ H (.int j)) (h : CDiv i j) : Ev (tOp (rI CDiv fun i j => .int (i / j)) ta tb) σ H (.int (i / j)) := ev_op ha hb (rv_I h)
theorem ev_mod (ha : Ev ta σ H (.int i)) (hb : Ev tb σ H (.int j)) (h : 0 < j) : Ev (tOp (rI (fun _ j => 0 < j) fun i j => .int (i % j)) ta tb) σ H (.int (i % j)) := ev_op ha hb (rv_I h)
theorem ev_pow (ha : Ev ta σ H (.int i)) (hb : Ev tb σ H (.int j)) (h : CPow i j) : Ev (tOp (rI CPow fun i j => .int (i ^ j.toNat)) ta tb) σ H (.int (i ^ j.toNat)) := ev_op ha hb (rv_I h)
theorem ev_shl (ha : Ev ta σ H (.int i)) (hb : Ev tb σ H (.int j)) (h : CPow i j) : Ev (tOp (rI CPow fun i j => .int (i * 2 ^ j.toNat)) ta tb) σ H (.int (i * 2 ^ j.toNat)) := ev_op ha hb (rv_I h)
theorem ev_shr (ha : Ev ta σ H (.int i)) (hb : Ev tb σ H (.int j)) (h : 0 ≤ j) : Ev (tOp (rI (fun _ j => 0 ≤ j) fun i j => .int (i / 2 ^ j.toNat)) ta tb) σ H (.int (i / 2 ^ j.toNat)) := ev_op ha hb (rv_I h)
theorem ev_and (ha : Ev ta σ H (.int i)) (hb : Ev tb σ H (.int j)) : Ev (tOp (rI0 fun i j => .int (Builtin.bitAnd i j)) ta tb) σ H (.int (Builtin.bitAnd i j)) := ev_op ha hb rv_I0
theorem ev_or (ha : Ev ta σ H (.int i)) (hb : Ev tb σ H (.int j)) : Ev (tOp (rI0 fun i j => .int (Builtin.bitOr i j)) ta tb) σ H (.int (Builtin.bitOr i j)) := ev_op ha hb rv_I0
theorem ev_neg (ha : Ev ta σ H (.int i)) : Ev (tUn (rU fun i => .int (-i)) ta) σ H (.int (-i)) := ev_un ha ru_neg
theorem ev_lt (ha : Ev ta σ H (.int i)) (hb : Ev tb σ H (.int j)) : Ev (tOp (rI0 fun i j => .bl (decide (i < j))) ta tb) σ H (.bl (decide (i < j))) := ev_op ha hb rv_I0
theorem ev_le (ha : Ev ta σ H (.int i)) (hb : Ev tb σ H (.int j)) : Ev (tOp (rI0 fun i j => .bl (decide (i ≤ j))) ta tb) σ H (.bl (decide (i ≤ j))) := ev_op ha hb rv_I0
theorem ev_gt (ha : Ev ta σ H (.int i)) (hb : Ev tb σ H (.int j)) : Ev (tOp (rI0 fun i j => .bl (decide (j < i))) ta tb) σ H (.bl (decide (j < i))) := ev_op ha hb rv_I0
theorem ev_ge (ha : Ev ta σ H (.int i)) (hb : Ev tb σ H (.int j)) : Ev (tOp (rI0 fun i j => .bl (decide (j ≤ i))) ta tb) σ H (.bl (decide (j ≤ i))) := ev_op ha hb rv_I0
theorem rv_eqI : RV rEq (.int i) (.int j) H (.bl (decide (i = j))) := fun H1 e Q q => ⟨rfl, by rw [dec_VI]; exact q H1 (Ex.refl H1)⟩
theorem rv_neI : RV rNe (.int i) (.int j) H (.bl (!decide (i = j))) := fun H1 e Q q => ⟨rfl, by rw [dec_VI]; exact q H1 (Ex.refl H1)⟩
theorem rv_eqS : RV rEq (VS a) (VS b) H (.bl (decide (a = b))) := fun H1 e Q q => ⟨rfl, by rw [dec_VS]; exact q H1 (Ex.refl H1)⟩
theorem rv_neS : RV rNe (VS a) (VS b) H (.bl (!decide (a = b))) := fun H1 e Q q => ⟨rfl, by rw [dec_VS]; exact q H1 (Ex.refl H1)⟩
theorem rv_eqB {a b : Bool} : RV rEq (.bl a) (.bl b) H (.bl (decide (a = b))) := fun H1 e Q q => ⟨rfl, by rw [dec_VB]; exact q H1 (Ex.refl H1)⟩
theorem rv_neB {a b : Bool} : RV rNe (.bl a) (.bl b) H (.bl (!decide (a = b))) := fun H1 e Q q => ⟨rfl, by rw [dec_VB]; exact q H1 (Ex.refl H1)⟩
theorem ev_eqI (ha : Ev ta σ H (.int i)) (hb : Ev tb σ H (.int j)) : Ev (tOp rEq ta tb) σ H (.bl (decide (i = j))) := ev_op ha hb rv_eqI
theorem ev_neI (ha : Ev ta σ H (.int i)) (hb : Ev tb σ H (.int j)) : Ev (tOp rNe ta tb) σ H (.bl (!decide (i = j))) := ev_op ha hb rv_neI
theorem ev_eqS (ha : Ev ta σ H (VS a)) (hb : Ev tb σ H (VS b)) : Ev (tOp rEq ta tb) σ H (.bl (decide (a = b))) := ev_op ha hb rv_eqS
theorem ev_neS (ha : Ev ta σ H (VS a)) (hb : Ev tb σ H (VS b)) : Ev (tOp rNe ta tb) σ H (.bl (!decide (a = b))) := ev_op ha hb rv_neS
theorem ev_eqB {a b : Bool} (ha : Ev ta σ H (.bl a)) (hb : Ev tb σ H (.bl b)) : Ev (tOp rEq ta tb) σ H (.bl (decide (a = b))) := ev_op ha hb rv_eqB
theorem ev_neB {a b : Bool} (ha : Ev ta σ H (.bl a)) (hb : Ev tb σ H (.bl b)) : Ev (tOp rNe ta tb) σ H (.bl (!decide (a = b))) := ev_op ha hb rv_neB
theorem ev_isNo (ha : Ev ta σ H x) (hb : Ev tb σ H .non) : Ev (tOp (rIsNo false) ta tb) σ H (.bl (decide (x = .non))) := ev_op ha hb fun H1 _ _ q => ⟨rfl, q H1 (Ex.refl H1)⟩
theorem ev_isntNo (ha : Ev ta σ H x) (hb : Ev tb σ H .non) : Ev (tOp (rIsNo true) ta tb) σ H (.bl (!decide (x = .non))) := ev_op ha hb fun H1 _ _ q => ⟨rfl, q H1 (Ex.refl H1)⟩
theorem ev_isTF {a b : Bool} (ha : Ev ta σ H (.bl a)) (hb : Ev tb σ H (.bl b)) : Ev (tOp (rIsTF false) ta tb) σ H (.bl (decide (a = b))) := ev_op ha hb fun H1 _ _ q => ⟨a, b, rfl, rfl, q H1 (Ex.refl H1)⟩
theorem ev_isntTF {a b : Bool} (ha : Ev ta σ H (.bl a)) (hb : Ev tb σ H (.bl b)) : Ev (tOp (rIsTF true) ta tb) σ H (.bl (!decide (a = b))) := ev_op ha hb fun H1 _ _ q => ⟨a, b, rfl, rfl, q H1 (Ex.refl H1)⟩
/-- a <= b < c and its like -/
theorem ev_chain {p q : Int → Int → Bool} (ha : Ev ta σ H (.int i)) (hb : Ev tb σ H (.int j)) (hc : Ev tc σ H (.int k)) : Ev (tChain (rI0 fun i j => .bl (p i j)) (rI0 fun i j => .bl (q i j)) ta tb tc) σ H (.bl (p i j && q j k)) := fun H1 e Q kq =>
  ha H1 e _ fun H2 e2 => hb H2 (e.trans e2) _ fun H3 e3 => ⟨i, j, rfl, rfl, p i j, rfl, by
    cases hp : p i j with
    | true =>
      rw [hp, Bool.true_and] at kq
      show tc σ H3 _
      exact hc H3 ((e.trans e2).trans e3) _ fun H4 e4 => ⟨j, k, rfl, rfl, kq H4 ((e2.trans e3).trans e4)⟩
    | false =>
      rw [hp, Bool.false_and] at kq
      show Q (.bl false) H3
      exact kq H3 (e2.trans e3)⟩

/-! texts -/
theorem ev_addS (ha : Ev ta σ H (VS a)) (hb : Ev tb σ H (VS b)) (hl : a.length + b.length ≤ 100000) : Ev (tOp rAddS ta tb) σ H (VS (a ++ b)) := ev_op ha hb fun H1 _ _ q =>
  ⟨S a, S b, rfl, rfl, by rw [S_len, S_len]; exact sz_of hl, by rw [S_add]; exact q H1 (Ex.refl H1)⟩
theorem ev_inC {c : Nat} (ha : Ev ta σ H (VS [c])) (hb : Ev tb σ H (VS b)) : Ev (tOp (rInC false) ta tb) σ H (.bl (decide (c ∈ b))) := ev_op ha hb fun H1 _ Q q =>
  ⟨c, S b, rfl, rfl, by
    show Q (.bl (decide (c ∈ (S b).cps.toList))) H1
    simp only [S_cps]
    exact q H1 (Ex.refl H1)⟩
theorem ev_ninC {c : Nat} (ha : Ev ta σ H (VS [c])) (hb : Ev tb σ H (VS b)) : Ev (tOp (rInC true) ta tb) σ H (.bl (!decide (c ∈ b))) := ev_op ha hb fun H1 _ Q q =>
  ⟨c, S b, rfl, rfl, by
    show Q (.bl (!decide (c ∈ (S b).cps.toList))) H1
    simp only [S_cps]
    exact q H1 (Ex.refl H1)⟩
theorem ev_lenS (ha : Ev ta σ H (VS a)) (hl : a.length ≤ 100000) : Ev (tCB rLenS (tCons ta tNil)) σ H (.int (a.length : Int)) := fun H1 e Q q =>
  ha H1 e _ fun H2 e2 => ⟨S a, rfl, by rw [S_len]; exact sz_of hl, by rw [S_len]; exact q H2 e2⟩
theorem atI_getD {α : Type} {l : List α} {i : Int} (d : α) (h0 : 0 ≤ i) (h1 : i < l.length) : atI l i = some (l.getD i.toNat d) := by
  obtain ⟨k, rfl⟩ := Int.eq_ofNat_of_zero_le h0
  have hk : k < l.length := by
    have : (k : Int) < l.length := h1
    omega
  refine atI_nat (j := k) ?_
  show l[k]? = some (l.getD k d)
  rw [List.getD_eq_getElem?_getD, List.getElem?_eq_getElem hk]
  rfl
theorem ev_ixS {i : Int} (ha : Ev ta σ H (VS a)) (hb : Ev tb σ H (.int i)) (hl : a.length ≤ 100000) (h0 : 0 ≤ i) (h1 : i < a.length) : Ev (tOp rIxS ta tb) σ H (VS [a.getD i.toNat 0]) := ev_op ha hb fun H1 _ _ q =>
  ⟨S a, i, a.getD i.toNat 0, rfl, rfl, by rw [S_len]; exact sz_of hl, by rw [S_cps]; exact atI_getD 0 h0 h1, q H1 (Ex.refl H1)⟩
theorem ev_slS {tlo thi : TO} {lo hi : Option Int} (h : Ev te σ H (VS a)) (h1 : EvO tlo σ H lo) (h2 : EvO thi σ H hi) (hl : a.length ≤ 100000) : Ev (tSl rSlS te tlo thi) σ H (VS (cutG a lo hi)) := fun H1 e Q q =>
  h H1 e _ fun H2 e2 => h1 H2 (e.trans e2) _ fun H3 e3 => h2 H3 ((e.trans e2).trans e3) _ fun H4 e4 =>
    ⟨S a, rfl, by rw [S_len]; exact sz_of hl, by rw [cutS_S]; exact q H4 ((e2.trans e3).trans e4)⟩
theorem ev_count {c : Nat} (ha : Ev ta σ H (VS a)) (hb : Ev tb σ H (VS [c])) : Ev (tM1 rCount ta tb) σ H (.int (a.count c : Nat)) := fun H1 e Q q =>
  ha H1 e _ fun H2 e2 => ⟨⟨S a, rfl⟩, hb H2 (e.trans e2) _ fun H3 e3 => ⟨S a, S [c], rfl, rfl, by rw [count_one]; exact q H3 (e2.trans e3)⟩⟩

/-! lists -/
theorem ev_lenQ {α : Type} {l : List α} {g : α → V} (h : EvQ K te σ H (l.map g)) : Ev (tCB (rLenQ K) (tCons te tNil)) σ H (.int (l.length : Int)) := fun H1 e Q q =>
  h H1 e _ fun p H2 e2 h2 => ⟨p, l.map g, rfl, .inl (SL.q h2), by rw [List.length_map]; exact q H2 e2⟩
theorem el_listQ (h : EvQ K te σ H xs) : EvL (tCB (rListQ K) (tCons te tNil)) σ H xs := fun H1 e Q q =>
  h H1 e _ fun p H2 e2 h2 => ⟨p, xs, rfl, .inl (SL.q h2), fun l hl => q l _ (fresh_back e2 hl) (e2.trans (Ex.new hl)) upd_same⟩
theorem el_slQ {α : Type} {l : List α} {g : α → V} {tlo thi : TO} {lo hi : Option Int} (h : EvQ K te σ H (l.map g)) (h1 : EvO tlo σ H lo) (h2 : EvO thi σ H hi) : EvL (tSl (rSlL K) te tlo thi) σ H ((cutG l lo hi).map g) := fun H1 e Q q =>
  h H1 e _ fun a H2 e2 hs => h1 H2 (e.trans e2) _ fun H3 e3 => h2 H3 ((e.trans e2).trans e3) _ fun H4 e4 =>
    ⟨a, l.map g, rfl, (exl (K := K) (e3.trans e4) hs).q, fun p hp => by
      rw [cutV_map]
      exact q p _ (fresh_back ((e2.trans e3).trans e4) hp) (((e2.trans e3).trans e4).trans (Ex.new hp)) upd_same⟩
theorem ev_ixQ {α : Type} {l : List α} {g : α → V} {i : Int} (d : α) (h : EvQ K ta σ H (l.map g)) (hb : Ev tb σ H (.int i)) (h0 : 0 ≤ i) (h1 : i < l.length) : Ev (tOp (rIxL K) ta tb) σ H (g (l.getD i.toNat d)) := fun H1 e Q q =>
  h H1 e _ fun a H2 e2 hs => hb H2 (e.trans e2) _ fun H3 e3 => ⟨a, l.map g, i, _, rfl, rfl, (exl (K := K) e3 hs).q, by
    have h2 : i < ((l.map g).length : Int) := by rw [List.length_map]; exact h1
    rw [atI_getD (g d) h0 h2, List.getD_eq_getElem?_getD, List.getElem?_map, List.getD_eq_getElem?_getD, Option.getD_map]
    , q H3 (e2.trans e3)⟩
theorem ev_ixT {α : Type} {l : List α} {g : α → V} {i : Int} {p : Addr} (d : α) (h : Ev ta σ H (.ref p)) (hs : ST K H p (l.map g)) (hb : Ev tb σ H (.int i)) (h0 : 0 ≤ i) (h1 : i < l.length) : Ev (tOp (rIxT K) ta tb) σ H (g (l.getD i.toNat d)) := fun H1 e Q q =>
  h H1 e _ fun H2 e2 => hb H2 (e.trans e2) _ fun H3 e3 => ⟨p, l.map g, i, _, rfl, rfl, (ext (K := K) ((e.trans e2).trans e3) hs).q, by
    have h2 : i < ((l.map g).length : Int) := by rw [List.length_map]; exact h1
    rw [atI_getD (g d) h0 h2, List.getD_eq_getElem?_getD, List.getElem?_map, List.getD_eq_getElem?_getD, Option.getD_map]
    , q H3 (e2.trans e3)⟩
/-- the last one -/
theorem ev_ixLast {α : Type} {l : List α} {g : α → V} {w : α} (h : EvQ K ta σ H (l.map g)) (hb : Ev tb σ H (.int (-1))) (hw : l.getLast? = some w) : Ev (tOp (rIxL K) ta tb) σ H (g w) := fun H1 e Q q =>
  h H1 e _ fun a H2 e2 hs => hb H2 (e.trans e2) _ fun H3 e3 => ⟨a, l.map g, -1, _, rfl, rfl, (exl (K := K) e3 hs).q, by
    have e1 : l = l.dropLast ++ [w] := by
      cases l with
      | nil => simp at hw
      | cons c r =>
        rw [List.getLast?_eq_getLast (List.cons_ne_nil c r)] at hw
        have := Option.some.inj hw
        rw [← this, List.dropLast_concat_getLast]
    rw [e1, List.map_append, List.map_singleton]
    exact atI_last _ _, q H3 (e2.trans e3)⟩
theorem el_catQ {α : Type} {l m : List α} {g : α → V} (ha : EvL ta σ H (l.map g)) (hb : EvL tb σ H (m.map g)) (hz : l.length + m.length ≤ 100000) : EvL (tOp rCat ta tb) σ H ((l ++ m).map g) := fun H1 e Q q =>
  ha H1 e _ fun p H2 hp e2 h2 => hb H2 (e.trans e2) _ fun p' H3 hp' e3 h3 => ⟨p, p', _, _, rfl, rfl, e3 _ _ h2, h3, by rw [List.length_map, List.length_map]; exact sz_of hz, fun l hl => by
    rw [← List.map_append]
    exact q l _ (fresh_back (e2.trans e3) hl) ((e2.trans e3).trans (Ex.new hl)) upd_same⟩
/-- a list that stands here -/
def EvH (te : TE) (σ : L2.St) (H : Hp) (xs : List V) : Prop := ∀ H1, Ex H H1 → ∀ Q : VK, (∀ p H2, Ex H1 H2 → H2 p = some (.lst xs) → Q (.ref p) H2) → te σ H1 Q
theorem h_new (h : EvL te σ H xs) : EvH te σ H xs := fun H1 e Q q => h H1 e Q fun p H2 _ e2 h2 => q p H2 e2 h2
theorem h_old {p : Addr} (h : Ev te σ H (.ref p)) (hs : H p = some (.lst xs)) : EvH te σ H xs := fun H1 e Q q => h H1 e Q fun H2 e2 => q p H2 e2 (e2 _ _ (e _ _ hs))
theorem q_H (h : EvH te σ H xs) : EvQ K te σ H xs := fun H1 e Q q => h H1 e Q fun p H2 e2 h2 => q p H2 e2 (slof h2)
theorem el_catH {α : Type} {l m : List α} {g : α → V} (ha : EvH ta σ H (l.map g)) (hb : EvH tb σ H (m.map g)) (hz : l.length + m.length ≤ 100000) : EvL (tOp rCat ta tb) σ H ((l ++ m).map g) := fun H1 e Q q =>
  ha H1 e _ fun p H2 e2 h2 => hb H2 (e.trans e2) _ fun p' H3 e3 h3 => ⟨p, p', _, _, rfl, rfl, e3 _ _ h2, h3, by rw [List.length_map, List.length_map]; exact sz_of hz, fun l hl => by
    rw [← List.map_append]
    exact q l _ (fresh_back (e2.trans e3) hl) ((e2.trans e3).trans (Ex.new hl)) upd_same⟩
theorem el_repH {α : Type} {l : List α} {g : α → V} {n : Int} (ha : EvH ta σ H (l.map g)) (hb : Ev tb σ H (.int n)) (h0 : -100000 ≤ n) (h1 : n ≤ 100000) (hz : l.length * n.toNat ≤ 100000) : EvL (tOp rRep ta tb) σ H (((List.replicate n.toNat l).flatten).map g) := fun H1 e Q q =>
  ha H1 e _ fun p H2 e2 h2 => hb H2 (e.trans e2) _ fun H3 e3 => ⟨p, n, _, rfl, rfl, e3 _ _ h2, by omega, by omega, by rw [List.length_map]; exact sz_of hz, fun l hl => by
    rw [List.map_flatten, List.map_replicate] at q
    exact q l _ (fresh_back (e2.trans e3) hl) ((e2.trans e3).trans (Ex.new hl)) upd_same⟩
theorem el_nil : EvL (tLst tNil) σ H [] := el_lst ea_nil (Nat.zero_le _)
theorem ev_sumV {ns : List Int} (h : EvQ K te σ H (ns.map V.int)) : Ev (tCB (rSum K) (tCons te tNil)) σ H (.int ns.sum) := fun H1 e Q q =>
  h H1 e _ fun p H2 e2 h2 => ⟨p, ns, rfl, SL.q h2, q H2 e2⟩
theorem ev_sumQ {α : Type} {l : List α} {f : α → Int} (h : EvQ K te σ H (l.map fun x => V.int (f x))) : Ev (tCB (rSum K) (tCons te tNil)) σ H (.int (l.map f).sum) := ev_sumV (by rw [List.map_map]; exact h)
theorem ev_allV {bs : List Bool} (h : EvQ K te σ H (bs.map V.bl)) : Ev (tCB (rAll K) (tCons te tNil)) σ H (.bl (bs.all id)) := fun H1 e Q q =>
  h H1 e _ fun p H2 e2 h2 => ⟨p, bs, rfl, SL.q h2, q H2 e2⟩
theorem ev_anyV {bs : List Bool} (h : EvQ K te σ H (bs.map V.bl)) : Ev (tCB (rAny K) (tCons te tNil)) σ H (.bl (bs.any id)) := fun H1 e Q q =>
  h H1 e _ fun p H2 e2 h2 => ⟨p, bs, rfl, SL.q h2, q H2 e2⟩
theorem ev_allQ {α : Type} {l : List α} {p : α → Bool} (h : EvQ K te σ H (l.map fun x => V.bl (p x))) : Ev (tCB (rAll K) (tCons te tNil)) σ H (.bl (l.all p)) := by
  have := ev_allV (K := K) (bs := l.map p) (te := te) (σ := σ) (H := H) (by rw [List.map_map]; exact h)
  rw [List.all_map] at this
  exact this
theorem ev_anyQ {α : Type} {l : List α} {p : α → Bool} (h : EvQ K te σ H (l.map fun x => V.bl (p x))) : Ev (tCB (rAny K) (tCons te tNil)) σ H (.bl (l.any p)) := by
  have := ev_anyV (K := K) (bs := l.map p) (te := te) (σ := σ) (H := H) (by rw [List.map_map]; exact h)
  rw [List.any_map] at this
  exact this
theorem flat_len (l : List Row) : l.flatten.length = (l.map (·.length)).sum := List.length_flatten
theorem ev_joinV {l : List Row} (ha : Ev ta σ H (VS [])) (h : EvQ K te σ H (l.map VS)) (hz : l.flatten.length ≤ 100000) : Ev (tM1 (rJoin K) ta te) σ H (VS l.flatten) := fun H1 e Q q =>
  ha H1 e _ fun H2 e2 => ⟨⟨S [], rfl⟩, h H2 (e.trans e2) _ fun p H3 e3 h3 => ⟨S [], p, l.map S, rfl, rfl, .inl (by rw [List.map_map]; exact SL.q h3), by
    rw [List.map_map, show ((fun z : Str => z.length) ∘ S) = fun z : Row => z.length from funext S_len, ← flat_len, S_len]
    show l.flatten.length + _ * 0 ≤ 16777216
    omega, by rw [join_nil]; exact q H3 (e2.trans e3)⟩⟩
theorem ev_joinQ {α : Type} {l : List α} {f : α → Row} (ha : Ev ta σ H (VS [])) (h : EvQ K te σ H (l.map fun x => VS (f x))) (hz : (l.map f).flatten.length ≤ 100000) : Ev (tM1 (rJoin K) ta te) σ H (VS (l.map f).flatten) :=
  ev_joinV ha (by rw [List.map_map]; exact h) hz
theorem ev_inQ {x : V} (ha : Ev ta σ H x) (hb : EvQ K tb σ H xs) (hx : flatV x = true) (hf : xs.all flatV = true) : Ev (tOp (rIn K false) ta tb) σ H (.bl (inV x xs)) := fun H1 e Q q =>
  ha H1 e _ fun H2 e2 => hb H2 (e.trans e2) _ fun p H3 e3 h3 => ⟨p, xs, rfl, .inl (SL.q h3), hx, hf, q H3 (e2.trans e3)⟩
theorem ev_ninQ {x : V} (ha : Ev ta σ H x) (hb : EvQ K tb σ H xs) (hx : flatV x = true) (hf : xs.all flatV = true) : Ev (tOp (rIn K true) ta tb) σ H (.bl (!inV x xs)) := fun H1 e Q q =>
  ha H1 e _ fun H2 e2 => hb H2 (e.trans e2) _ fun p H3 e3 h3 => ⟨p, xs, rfl, .inl (SL.q h3), hx, hf, q H3 (e2.trans e3)⟩
theorem flat_Txts (l : List Row) : (l.map VS).all flatV = true := by simp [flatV]
theorem flat_Ints (l : List Int) : (l.map V.int).all flatV = true := by simp [flatV]
theorem inV_VS (a : Row) (l : List Row) : inV (VS a) (l.map VS) = decide (a ∈ l) := by
  unfold inV
  rw [List.any_map, Bool.eq_iff_iff, List.any_eq_true, decide_eq_true_eq]
  constructor
  · rintro ⟨b, hb, e⟩
    have e : eqV (VS b) (VS a) = true := e
    have : S b = S a := by simpa [eqV] using e
    rw [← S_inj this]; exact hb
  · intro h
    exact ⟨a, h, by simp [eqV]⟩
theorem inV_VI (a : Int) (l : List Int) : inV (.int a) (l.map V.int) = decide (a ∈ l) := by
  unfold inV
  rw [List.any_map, Bool.eq_iff_iff, List.any_eq_true, decide_eq_true_eq]
  constructor
  · rintro ⟨b, hb, e⟩
    have e : eqV (.int b) (.int a) = true := e
    have : b = a := by simpa [eqV] using e
    rw [← this]; exact hb
  · intro h
    exact ⟨a, h, by simp [eqV]⟩
theorem ev_inS {l : List Row} (ha : Ev ta σ H (VS a)) (hb : EvQ K tb σ H (l.map VS)) : Ev (tOp (rIn K false) ta tb) σ H (.bl (decide (a ∈ l))) := (inV_VS a l) ▸ ev_inQ ha hb rfl (flat_Txts l)
theorem ev_inI {l : List Int} (ha : Ev ta σ H (.int i)) (hb : EvQ K tb σ H (l.map V.int)) : Ev (tOp (rIn K false) ta tb) σ H (.bl (decide (i ∈ l))) := (inV_VI i l) ▸ ev_inQ ha hb rfl (flat_Ints l)
theorem ev_ninI {l : List Int} (ha : Ev ta σ H (.int i)) (hb : EvQ K tb σ H (l.map V.int)) : Ev (tOp (rIn K true) ta tb) σ H (.bl (!decide (i ∈ l))) := (inV_VI i l) ▸ ev_ninQ ha hb rfl (flat_Ints l)
/-- in a written tuple of texts -/
theorem ev_inTS {l : List Row} (ha : Ev ta σ H (VS a)) (hb : EvU tb σ H (l.map VS)) : Ev (tOp (rIn K false) ta tb) σ H (.bl (decide (a ∈ l))) := (inV_VS a l) ▸ ev_inU ha hb rfl (flat_Txts l)

/-! calls of built-ins on numbers -/
theorem ev_abs (ha : Ev ta σ H (.int i)) : Ev (tCB rAbs (tCons ta tNil)) σ H (.int (i.natAbs : Nat)) := fun H1 e Q q =>
  ha H1 e _ fun H2 e2 => ⟨i, rfl, by
    have : (if i < 0 then -i else i) = (i.natAbs : Int) := by split <;> omega
    rw [this]; exact q H2 e2⟩
theorem ev_mx2 (ha : Ev ta σ H (.int i)) (hb : Ev tb σ H (.int j)) : Ev (tCB rMx (tCons ta (tCons tb tNil))) σ H (.int (max i j)) := fun H1 e Q q =>
  ha H1 e _ fun H2 e2 => hb H2 (e.trans e2) _ fun H3 e3 => ⟨i, j, rfl, by
    have : (if j > i then j else i) = max i j := by split <;> omega
    rw [this]; exact q H3 (e2.trans e3)⟩
theorem ev_mn2 (ha : Ev ta σ H (.int i)) (hb : Ev tb σ H (.int j)) : Ev (tCB rMn (tCons ta (tCons tb tNil))) σ H (.int (min i j)) := fun H1 e Q q =>
  ha H1 e _ fun H2 e2 => hb H2 (e.trans e2) _ fun H3 e3 => ⟨i, j, rfl, by
    have : (if j < i then j else i) = min i j := by split <;> omega
    rw [this]; exact q H3 (e2.trans e3)⟩
theorem ev_intB {b : Bool} (ha : Ev ta σ H (.bl b)) : Ev (tCB rInt1 (tCons ta tNil)) σ H (.int (if b then 1 else 0)) := fun H1 e Q q =>
  ha H1 e _ fun H2 e2 => .inr ⟨b, rfl, q H2 e2⟩

/-! dicts of texts -/
theorem ed_new : EvD tDNewK σ H [] := fun H1 _ Q q => fun p hp => q p _ hp (Ex.new hp) upd_same
theorem ed_newS : EvD tDNewK σ H (DS []) := ed_new
theorem ed_dict {kvs : List (Key × V)} (h : EvG te σ H (isD kvs)) : EvD (tCB rDictD (tCons te tNil)) σ H kvs := fun H1 e Q q =>
  h H1 e _ fun v H2 e2 ⟨a, ea, h2⟩ => ⟨a, kvs, by rw [ea], .inl h2, fun p hp => q p _ (fresh_back e2 hp) (e2.trans (Ex.new hp)) upd_same⟩
theorem ev_get2 {r : Dic} {p : Addr} {d : Row} (h : Ev ta σ H (.ref p)) (hs : H p = some (.dK (DS r))) (hb : Ev tb σ H (VS a)) (hc : Ev tc σ H (VS d)) : Ev (tDGet2 ta tb tc) σ H (VS ((look r a).getD d)) := fun H1 e Q q =>
  h H1 e _ fun H2 e2 => ⟨p, rfl, .inl ⟨_, .inl (e2 _ _ (e _ _ hs))⟩, hb H2 (e.trans e2) _ fun H3 e3 => hc H3 ((e.trans e2).trans e3) _ fun H4 e4 => ⟨_, DGet.k (k := Sum.inr (S a)) (e4 _ _ (e3 _ _ (e2 _ _ (e _ _ hs)))), by
    rw [DS_val]
    have q4 := q H4 ((e2.trans e3).trans e4)
    cases hk : look r a with
    | none => rw [hk] at q4; exact q4
    | some v => rw [hk] at q4; exact q4⟩⟩
theorem ev_din {r : Dic} {p : Addr} (hb : Ev tb σ H (VS a)) (h : Ev ta σ H (.ref p)) (hs : H p = some (.dK (DS r))) : Ev (tDIn tb ta) σ H (.bl (look r a).isSome) := fun H1 e Q q =>
  hb H1 e _ fun H2 e2 => h H2 (e.trans e2) _ fun H3 e3 => ⟨p, _, rfl, DGet.k (k := Sum.inr (S a)) (e3 _ _ (e2 _ _ (e _ _ hs))), by
    rw [DS_val, Option.isSome_map]
    exact q H3 (e2.trans e3)⟩
theorem ev_dget {r : Dic} {p : Addr} (h : Ev ta σ H (.ref p)) (hs : H p = some (.dK (DS r))) (hb : Ev tb σ H (VS a)) (hv : (look r a).isSome = true) : Ev (tDGet ta tb) σ H (VS ((look r a).getD [])) := fun H1 e Q q =>
  h H1 e _ fun H2 e2 => hb H2 (e.trans e2) _ fun H3 e3 => ⟨p, VS ((look r a).getD []), rfl, by
    have := DGet.k (k := Sum.inr (S a)) (e3 _ _ (e2 _ _ (e _ _ hs)))
    obtain ⟨v, hv⟩ := Option.isSome_iff_exists.mp hv
    rw [DS_val, hv] at this
    rw [hv]
    exact this, q H3 (e2.trans e3)⟩
theorem ev_eqD {r s : Dic} (ha : EvG ta σ H (isD (DS r))) (hb : EvG tb σ H (isD (DS s))) : Ev (tOp (rEqDS false) ta tb) σ H (.bl (dEq r s)) := fun H1 e Q q =>
  ha H1 e _ fun v H2 e2 ⟨p, ep, h2⟩ => hb H2 (e.trans e2) _ fun w H3 e3 ⟨p', ep', h3⟩ => ⟨p, p', r, s, ep, ep', e3 _ _ h2, h3, q H3 (e2.trans e3)⟩
theorem ev_neD {r s : Dic} (ha : EvG ta σ H (isD (DS r))) (hb : EvG tb σ H (isD (DS s))) : Ev (tOp (rEqDS true) ta tb) σ H (.bl (!dEq r s)) := fun H1 e Q q =>
  ha H1 e _ fun v H2 e2 ⟨p, ep, h2⟩ => hb H2 (e.trans e2) _ fun w H3 e3 ⟨p', ep', h3⟩ => ⟨p, p', r, s, ep, ep', e3 _ _ h2, h3, q H3 (e2.trans e3)⟩
theorem el_keys {r : Dic} (h : EvG te σ H (isD (DS r))) : EvL (tCB rListD (tCons te tNil)) σ H ((r.map (·.1)).map VS) := fun H1 e Q q =>
  h H1 e _ fun v H2 e2 ⟨p, ep, h2⟩ => ⟨p, DS r, by rw [ep], h2, fun l hl => by
    have : ((DS r).map fun kv => kV kv.1) = (r.map (·.1)).map VS := by
      unfold DS
      rw [List.map_map, List.map_map]
      rfl
    rw [this]
    exact q l _ (fresh_back e2 hl) (e2.trans (Ex.new hl)) upd_same⟩
theorem ev_lenDS {r : Dic} (h : EvG te σ H (isD (DS r))) : Ev (tCB rLenD (tCons te tNil)) σ H (.int (r.length : Int)) := fun H1 e Q q =>
  h H1 e _ fun v H2 e2 ⟨p, ep, h2⟩ => ⟨p, DS r, by rw [ep], h2, by rw [DS_len]; exact q H2 e2⟩

/-! conditional expressions -/
theorem ev_ifV {b : Bool} (h : EvT t σ H b) (h1 : b = true → Ev ta σ H x) (h2 : b = false → Ev tb σ H y) : Ev (tIf t ta tb) σ H (if b then x else y) := by
  cases b with
  | true => exact ev_if h (fun e => h1 e) (fun e => nomatch e)
  | false => exact ev_if h (fun e => nomatch e) (fun e => h2 e)
theorem ev_ifS {c : Bool} (h : EvT t σ H c) (h1 : c = true → Ev ta σ H (VS a)) (h2 : c = false → Ev tb σ H (VS b)) : Ev (tIf t ta tb) σ H (VS (if c then a else b)) := by
  cases c with
  | true => exact ev_if h (fun e => h1 e) (fun e => nomatch e)
  | false => exact ev_if h (fun e => nomatch e) (fun e => h2 e)
theorem ev_ifI {c : Bool} (h : EvT t σ H c) (h1 : c = true → Ev ta σ H (.int i)) (h2 : c = false → Ev tb σ H (.int j)) : Ev (tIf t ta tb) σ H (.int (if c then i else j)) := by
  cases c with
  | true => exact ev_if h (fun e => h1 e) (fun e => nomatch e)
  | false => exact ev_if h (fun e => nomatch e) (fun e => h2 e)

/-! what kind of thing -/
theorem ev_isi {c : V} {tt cc : Value} {b : Bool} (ha : EvG ta σ H P) (hb : Ev tb σ H c) (hp : ∀ v H1, Ex H H1 → P v H1 → TyX K H1 v tt) (m : Mon P) (hc : ClsV c cc) (hk : PySem.W.kitOne K tt cc = some b) : Ev (tCB (rIsi K) (tCons ta (tCons tb tNil))) σ H (.bl b) := fun H1 e Q q =>
  ha H1 e _ fun v H2 e2 hv => hb H2 (e.trans e2) _ fun H3 e3 => ⟨v, c, tt, cc, b, rfl, hc, hp v H3 ((e.trans e2).trans e3) (m v _ _ e3 hv), hk, q H3 (e2.trans e3)⟩
theorem ev_isiS {n : String} {b : Bool} (ha : Ev ta σ H (VS a)) (hb : Ev tb σ H (.ty n)) (hk : kitB "str" n = some b) : Ev (tCB (rIsi K) (tCons ta (tCons tb tNil))) σ H (.bl b) :=
  ev_isi (g_V ha) hb (fun v H1 _ hv => by cases hv; exact .base (.str _)) (mon_V _) (.ty n) (kit_ty hk)
theorem ev_isiI {n : String} {b : Bool} (ha : Ev ta σ H (.int i)) (hb : Ev tb σ H (.ty n)) (hk : kitB "int" n = some b) : Ev (tCB (rIsi K) (tCons ta (tCons tb tNil))) σ H (.bl b) :=
  ev_isi (g_V ha) hb (fun v H1 _ hv => by cases hv; exact .base (.int _)) (mon_V _) (.ty n) (kit_ty hk)
theorem ev_isiB {n : String} {c b : Bool} (ha : Ev ta σ H (.bl c)) (hb : Ev tb σ H (.ty n)) (hk : kitB "bool" n = some b) : Ev (tCB (rIsi K) (tCons ta (tCons tb tNil))) σ H (.bl b) :=
  ev_isi (g_V ha) hb (fun v H1 _ hv => by cases hv; exact .base (.bl _)) (mon_V _) (.ty n) (kit_ty hk)
theorem ev_isiN {n : String} {b : Bool} (ha : Ev ta σ H .non) (hb : Ev tb σ H (.ty n)) (hk : kitB "NoneType" n = some b) : Ev (tCB (rIsi K) (tCons ta (tCons tb tNil))) σ H (.bl b) :=
  ev_isi (g_V ha) hb (fun v H1 _ hv => by cases hv; exact .base .non) (mon_V _) (.ty n) (kit_ty hk)
theorem tyx_L {p : Addr} (h : SL K H p xs) : TyX K H (.ref p) (.type "list") := by
  rcases h with h | ⟨o, h⟩
  · exact .base (.lst h)
  · exact .base (.frz h)
theorem tyx_T {p : Addr} (h : ST K H p xs) : TyX K H (.ref p) (.type "tuple") := by
  rcases h with h | ⟨o, h⟩
  · exact .base (.tup h)
  · exact .fTuple h
theorem ev_isiL {n : String} {b : Bool} (ha : EvQ K ta σ H xs) (hb : Ev tb σ H (.ty n)) (hk : kitB "list" n = some b) : Ev (tCB (rIsi K) (tCons ta (tCons tb tNil))) σ H (.bl b) :=
  ev_isi (g_L ha) hb (fun v H1 _ hv => by obtain ⟨p, rfl, h⟩ := hv; exact tyx_L h) (mon_L _ _) (.ty n) (kit_ty hk)
theorem ev_isiD {n : String} {b : Bool} {kvs : List (Key × V)} (ha : EvG ta σ H (isD kvs)) (hb : Ev tb σ H (.ty n)) (hk : kitB "dict" n = some b) : Ev (tCB (rIsi K) (tCons ta (tCons tb tNil))) σ H (.bl b) :=
  ev_isi ha hb (fun v H1 _ hv => by obtain ⟨p, rfl, h⟩ := hv; exact .base (.dK h)) (mon_D _) (.ty n) (kit_ty hk)
end
end Ho

/-! Ho, part E: what is walked; comprehensions; loops; statements -/
namespace Ho
open PySem PySem.Spec PyProof.Rows L2 Evl

/-! ### all but some addresses stay -/
def Xb (s : List Addr) (H H' : Hp) : Prop := ∀ a o, a ∉ s → H a = some o → H' a = some o
theorem Xb.refl (s : List Addr) (H : Hp) : Xb s H H := fun _ _ _ h => h
theorem Ex.xb {s : List Addr} {H H' : Hp} (e : Ex H H') : Xb s H H' := fun a o _ h => e a o h
theorem Xb.trans {s : List Addr} {H H1 H2 : Hp} (x : Xb s H H1) (y : Xb s H1 H2) : Xb s H H2 := fun a o n h => y a o n (x a o n h)
theorem Xb.ex {s : List Addr} {H H1 H2 : Hp} (x : Xb s H H1) (e : Ex H1 H2) : Xb s H H2 := fun a o n h => e a o (x a o n h)
theorem Xb.ex0 {s : List Addr} {H H1 H2 : Hp} (e : Ex H H1) (x : Xb s H1 H2) : Xb s H H2 := fun a o n h => x a o n (e a o h)
theorem Xb.upd {s : List Addr} {H H1 : Hp} {p : Addr} {o : HO} (x : Xb s H H1) (hp : p ∈ s) : Xb s H (upd H1 p o) := fun a u n h => by
  rw [upd_ne (fun e => n (by rw [e]; exact hp))]
  exact x a u n h
theorem xb_upd {H : Hp} {p : Addr} {o : HO} : Xb [p] H (upd H p o) := (Xb.refl _ H).upd (by simp)
theorem Xb.mono {s t : List Addr} {H H' : Hp} (x : Xb s H H') (h : ∀ a ∈ s, a ∈ t) : Xb t H H' := fun a o n => x a o fun m => n (h a m)
theorem Xb.nil {H H' : Hp} (x : Xb [] H H') : Ex H H' := fun a o h => x a o (by simp) h
/-- what H0 does not know may change -/
theorem Ex.xb0 {s : List Addr} {H0 H H' : Hp} (e : Ex H0 H) (x : Xb s H H') (n : ∀ a ∈ s, H0 a = none) : Ex H0 H' := fun a o h => x a o (fun m => by rw [n a m] at h; cases h) (e a o h)
theorem Xb.rd {s : List Addr} {H H' : Hp} {a : Addr} {u : HO} (x : Xb s H H') (n : a ∉ s) (h : Rd H a u) : Rd H' a u := by
  rcases h with h | ⟨o, h⟩
  · exact .inl (x a _ n h)
  · exact .inr ⟨o, x a _ n h⟩
theorem Xb.l {K : PySem.W.Frag} {s : List Addr} {H H' : Hp} {a : Addr} {xs : List V} (x : Xb s H H') (n : a ∉ s) (h : SL K H a xs) : SL K H' a xs := x.rd n h
theorem Xb.t {K : PySem.W.Frag} {s : List Addr} {H H' : Hp} {a : Addr} {xs : List V} (x : Xb s H H') (n : a ∉ s) (h : ST K H a xs) : ST K H' a xs := x.rd n h
theorem Xb.lq {K : PySem.W.Frag} {s : List Addr} {H H' : Hp} {a : Addr} {xs : List V} (x : Xb s H H') (n : a ∉ s) (h : SqL K H a xs) : SqL K H' a xs := by
  rcases h with h | h
  · exact .inl (x.rd n h)
  · exact .inr h
theorem Xb.tq {K : PySem.W.Frag} {s : List Addr} {H H' : Hp} {a : Addr} {xs : List V} (x : Xb s H H') (n : a ∉ s) (h : SqT K H a xs) : SqT K H' a xs := by
  rcases h with h | h
  · exact .inl (x.rd n h)
  · exact .inr h
theorem nin1 {a p : Addr} (h : a ≠ p) : a ∉ [p] := by simpa using h
theorem nin2 {a p q : Addr} (h : a ≠ p) (h2 : a ≠ q) : a ∉ [p, q] := by simp [h, h2]
theorem nin0 {a : Addr} : a ∉ ([] : List Addr) := by simp
theorem ne_fresh {H : Hp} {a b : Addr} {o : HO} (h : H a = some o) (h' : H b = none) : a ≠ b := ne_of_none h h'
theorem ne_new {H : Hp} {a b : Addr} {o : HO} (h : H b = none) (h' : H a = some o) : b ≠ a := fun e => by rw [e, h'] at h; cases h

/-! ### what is walked -/
/-- J walks l; g stores each; τ: the slots behind; while Gd -/
structure Src (J : It) {α : Type} (l : List α) (g : TG) (τ : α → L2.St → L2.St) (Gd : Hp → Prop) : Prop where
  go : ∀ i H, i < l.length → Gd H → J.go i H
  stop : ∀ H, Gd H → J.stop l.length H
  yld : ∀ i H x H' σ K, (hi : i < l.length) → Gd H → J.yld i H x H' → (∀ H'', Ex H H'' → K (τ l[i] σ) H'') → g x σ H' K
/-- the iterable begins a walk of l; it reads addresses of A or new ones alone -/
def EvI (A : Addr → Prop) {α : Type} (wi : TI) (g : TG) (σ : L2.St) (H : Hp) (l : List α) (τ : α → L2.St → L2.St) : Prop :=
  ∀ H1, Ex H H1 → ∀ R : It → Hp → Prop, (∀ (J : It) (H2 : Hp) (Gd : Hp → Prop) (fp : List Addr), Ex H1 H2 → (∀ a ∈ fp, A a ∨ H1 a = none) → Gd H2 → (∀ s Ha Hb, Xb s Ha Hb → (∀ a ∈ fp, a ∉ s) → Gd Ha → Gd Hb) → Src J l g τ Gd → R J H2) → wi σ H1 R
def isLA (K : PySem.W.Frag) (A : Addr → Prop) (H0 : Hp) (xs : List V) : V → Hp → Prop := fun u H => ∃ a, u = .ref a ∧ (A a ∨ H0 a = none) ∧ SL K H a xs
theorem mon_LA (K : PySem.W.Frag) (A : Addr → Prop) (H0 : Hp) (xs : List V) : Mon (isLA K A H0 xs) := fun _ _ _ e ⟨a, h1, h2, h3⟩ => ⟨a, h1, h2, exl e h3⟩
def EvQA (K : PySem.W.Frag) (A : Addr → Prop) (te : TE) (σ : L2.St) (H : Hp) (xs : List V) : Prop := ∀ H1, Ex H H1 → ∀ Q : VK, (∀ a H2, Ex H1 H2 → (A a ∨ H1 a = none) → SL K H2 a xs → Q (.ref a) H2) → te σ H1 Q
def EvQT (K : PySem.W.Frag) (A : Addr → Prop) (te : TE) (σ : L2.St) (H : Hp) (xs : List V) : Prop := ∀ H1, Ex H H1 → ∀ Q : VK, (∀ a H2, Ex H1 H2 → (A a ∨ H1 a = none) → ST K H2 a xs → Q (.ref a) H2) → te σ H1 Q
section
variable {K : PySem.W.Frag} {A : Addr → Prop} {σ : L2.St} {H H' : Hp} {ta tb tc te tx tl : TE} {t u : TT} {x y z v : V} {xs ys : List V} {tr : TA} {α β γ : Type}
theorem qa_new (h : EvL te σ H xs) : EvQA K A te σ H xs := fun H1 e Q q => h H1 e Q fun p H2 hp e2 h2 => q p H2 e2 (.inr hp) (slof h2)
theorem qa_old {a : Addr} (h : Ev te σ H (.ref a)) (hs : SL K H a xs) (ha : A a) : EvQA K A te σ H xs := fun H1 e Q q => h H1 e Q fun H2 e2 => q a H2 e2 (.inl ha) (exl (e.trans e2) hs)
theorem qt_new (h : EvU te σ H xs) : EvQT K A te σ H xs := fun H1 e Q q => h H1 e Q fun p H2 hp e2 h2 => q p H2 e2 (.inr hp) (stof h2)
theorem qt_old {a : Addr} (h : Ev te σ H (.ref a)) (hs : ST K H a xs) (ha : A a) : EvQT K A te σ H xs := fun H1 e Q q => h H1 e Q fun H2 e2 => q a H2 e2 (.inl ha) (ext (e.trans e2) hs)
theorem i_list {l : List α} {gv : α → V} {j : Nat} (h : EvQA K A tl σ H (l.map gv)) : EvI A (iList K tl) (gName j) σ H l (fun x s => s.set j (some (gv x))) := fun H1 e R q =>
  h H1 e _ fun a H2 e2 ha hs => have hs := hs.q; ⟨a, rfl, ⟨_, hs⟩, q (Itl K a) H2 (fun H => SqL K H a (l.map gv)) [a] e2 (by simpa using ha) hs (fun s Ha Hb x n g => x.lq (n a (by simp)) g)
    ⟨fun i H hi g => ⟨_, gv l[i], g, by simp [hi]⟩, fun H g => ⟨_, g, by simp⟩, fun i H x H' σ K hi g y k => by
      obtain ⟨e1, y⟩ := y
      subst e1
      have := y _ g
      simp [hi] at this
      subst this
      exact k H' (Ex.refl _)⟩⟩
theorem i_tup {l : List α} {gv : α → V} {j : Nat} (h : EvQT K A tl σ H (l.map gv)) : EvI A (iTup K tl) (gName j) σ H l (fun x s => s.set j (some (gv x))) := fun H1 e R q =>
  h H1 e _ fun a H2 e2 ha hs => have hs := hs.q; ⟨a, rfl, ⟨_, hs⟩, q (Itt K a) H2 (fun H => SqT K H a (l.map gv)) [a] e2 (by simpa using ha) hs (fun s Ha Hb x n g => x.tq (n a (by simp)) g)
    ⟨fun i H hi g => ⟨_, gv l[i], g, by simp [hi]⟩, fun H g => ⟨_, g, by simp⟩, fun i H x H' σ K hi g y k => by
      obtain ⟨e1, y⟩ := y
      subst e1
      have := y _ g
      simp [hi] at this
      subst this
      exact k H' (Ex.refl _)⟩⟩
theorem i_tupV {j : Nat} (h : EvQT K A tl σ H xs) : EvI A (iTup K tl) (gName j) σ H xs (fun x s => s.set j (some x)) := by
  have := i_tup (l := xs) (gv := fun x => x) (j := j) (by rw [List.map_id']; exact h)
  exact this
theorem i_listV {j : Nat} (h : EvQA K A tl σ H xs) : EvI A (iList K tl) (gName j) σ H xs (fun x s => s.set j (some x)) := by
  have := i_list (l := xs) (gv := fun x => x) (j := j) (by rw [List.map_id']; exact h)
  exact this
theorem i_str {l : Row} {j : Nat} (h : Ev te σ H (VS l)) : EvI A (iStr te) (gName j) σ H l (fun c s => s.set j (some (VS [c]))) := fun H1 e R q =>
  h H1 e _ fun H2 e2 => ⟨S l, rfl, q (Its (S l)) H2 (fun _ => True) [] e2 (by simp) trivial (fun _ _ _ _ _ _ => trivial)
    ⟨fun i H hi _ => by show i < l.toArray.size; simpa using hi, fun H _ => by show l.toArray.size ≤ l.length; simp, fun i H x H' σ K hi _ y k => by
      obtain ⟨e1, c, ec, e3⟩ := y
      subst e1
      have ec : l.toArray[i]? = some c := ec
      simp [hi] at ec
      subst ec e3
      exact k H' (Ex.refl _)⟩⟩
theorem i_rng1 {ta : TA} {n : Int} {j : Nat} (h : EvA ta σ H [.int n]) (hn : -1000000 ≤ n ∧ n ≤ 1000000) : EvI A (iRng1 ta) (gName j) σ H (List.range n.toNat) (fun (i : Nat) s => s.set j (some (.int (i : Int)))) := fun H1 e R q =>
  h H1 e _ fun H2 e2 => ⟨n, rfl, by omega, by omega, q (Itr 0 n.toNat) H2 (fun _ => True) [] e2 (by simp) trivial (fun _ _ _ _ _ _ => trivial)
    ⟨fun i H hi _ => by show i < n.toNat; simpa using hi, fun H _ => by show n.toNat ≤ _; simp, fun i H x H' σ K hi _ y k => by
      obtain ⟨e1, e3⟩ := y
      subst e1 e3
      simp only [List.getElem_range] at k
      show K (σ.set j (some (.int (0 + (i : Int))))) H'
      rw [Int.zero_add]
      exact k H' (Ex.refl _)⟩⟩
theorem i_rng2 {ta : TA} {lo n : Int} {j : Nat} (h : EvA ta σ H [.int lo, .int n]) (hn : -1000000 ≤ n ∧ n ≤ 1000000) (hl : -1000000 ≤ lo ∧ lo ≤ 1000000) : EvI A (iRng2 ta) (gName j) σ H (List.range (n - lo).toNat) (fun (i : Nat) s => s.set j (some (.int (lo + (i : Int))))) := fun H1 e R q =>
  h H1 e _ fun H2 e2 => ⟨lo, n, rfl, ⟨by omega, by omega, by omega, by omega⟩, q (Itr lo (n - lo).toNat) H2 (fun _ => True) [] e2 (by simp) trivial (fun _ _ _ _ _ _ => trivial)
    ⟨fun i H hi _ => by show i < (n - lo).toNat; simpa using hi, fun H _ => by show (n - lo).toNat ≤ _; simp, fun i H x H' σ K hi _ y k => by
      obtain ⟨e1, e3⟩ := y
      subst e1 e3
      simp only [List.getElem_range] at k
      exact k H' (Ex.refl _)⟩⟩
theorem zip_get {l : List α} {m : List β} {i : Nat} (hi : i < (l.zip m).length) : ∃ (h1 : i < l.length) (h2 : i < m.length), (l.zip m)[i] = (l[i], m[i]) := by
  rw [List.length_zip] at hi
  exact ⟨by omega, by omega, List.getElem_zip⟩
theorem gTup2 {g1 g2 : TG} {T : Addr} {H : Hp} {σ : L2.St} {K' : L2.St → Hp → Prop} (hT : SqT K H T [x, y]) (k : g1 x σ H fun σ' H' => g2 y σ' H' K') : gTup K 2 (gCons g1 (gCons g2 gNil)) (.ref T) σ H K' :=
  ⟨T, [x, y], rfl, hT, rfl, x, [y], rfl, by
    show g1 x σ H _
    have : (fun σ' H' => g2 y σ' H' K') = fun σ' H' => gCons g2 gNil [y] σ' H' K' := by
      funext σ' H'
      apply propext
      constructor
      · intro h
        refine ⟨y, [], rfl, ?_⟩
        have : (fun σ' H' => gNil [] σ' H' K') = K' := by
          funext a b
          apply propext
          exact ⟨fun h => h.2, fun h => ⟨rfl, h⟩⟩
        rw [this]; exact h
      · rintro ⟨v, r, e, h⟩
        injection e with e1 e2
        subst e1 e2
        have : (fun σ' H' => gNil [] σ' H' K') = K' := by
          funext a b
          apply propext
          exact ⟨fun h => h.2, fun h => ⟨rfl, h⟩⟩
        rw [this] at h; exact h
    rw [← this]; exact k⟩
theorem gTup2n {j1 j2 : Nat} {T : Addr} {H : Hp} {σ : L2.St} {K' : L2.St → Hp → Prop} (hT : SqT K H T [x, y]) (k : K' ((σ.set j1 (some x)).set j2 (some y)) H) : gTup K 2 (gCons (gName j1) (gCons (gName j2) gNil)) (.ref T) σ H K' :=
  ⟨T, [x, y], rfl, hT, rfl, x, [y], rfl, y, [], rfl, rfl, k⟩
theorem gTup3n {j1 j2 j3 : Nat} {T : Addr} {H : Hp} {σ : L2.St} {K' : L2.St → Hp → Prop} (hT : SqT K H T [x, y, z]) (k : K' (((σ.set j1 (some x)).set j2 (some y)).set j3 (some z)) H) : gTup K 3 (gCons (gName j1) (gCons (gName j2) (gCons (gName j3) gNil))) (.ref T) σ H K' :=
  ⟨T, [x, y, z], rfl, hT, rfl, x, [y, z], rfl, y, [z], rfl, z, [], rfl, rfl, k⟩
theorem i_zip {l : List α} {m : List β} {g1 : α → V} {g2 : β → V} {j1 j2 : Nat} (h1 : EvQA K A ta σ H (l.map g1)) (h2 : EvQA K A tb σ H (m.map g2)) :
    EvI A (iZip K (tCons ta (tCons tb tNil))) (gTup K 2 (gCons (gName j1) (gCons (gName j2) gNil))) σ H (l.zip m) (fun p s => (s.set j1 (some (g1 p.1))).set j2 (some (g2 p.2))) := fun H1 e R q =>
  h1 H1 e _ fun a H2 e2 ha hs => have hs := hs.q; h2 H2 (e.trans e2) _ fun b H3 e3 hb ht => have ht := ht.q; ⟨a, b, _, _, rfl, ex_l e3 hs, ht, q (Itz K a b) H3 (fun H => SqL K H a (l.map g1) ∧ SqL K H b (m.map g2)) [a, b] (e2.trans e3)
    (by
      intro c hc
      rcases List.mem_cons.mp hc with rfl | hc
      · exact ha
      · obtain rfl := List.mem_singleton.mp hc
        rcases hb with hb | hb
        · exact .inl hb
        · exact .inr (fresh_back e2 hb)) ⟨ex_l e3 hs, ht⟩ (fun s Ha Hb x n g => ⟨x.lq (n a (by simp)) g.1, x.lq (n b (by simp)) g.2⟩)
    ⟨fun i H hi g => by
      obtain ⟨p1, p2, _⟩ := zip_get hi
      exact ⟨_, _, g1 l[i], g2 m[i], g.1, g.2, by simp [p1], by simp [p2]⟩, fun H g => ⟨_, _, g.1, g.2, by
      rw [List.length_map, List.length_map, List.length_zip]; omega⟩, fun i H x H' σ K hi g y k => by
      obtain ⟨p1, p2, e1⟩ := zip_get hi
      obtain ⟨T, x1, x2, rfl, hT, rfl, y1, y2⟩ := y
      have y1 := y1 _ g.1
      have y2 := y2 _ g.2
      simp [p1] at y1
      simp [p2] at y2
      subst y1 y2
      rw [e1] at k
      exact gTup2n (st_of upd_same) (k _ (Ex.new hT))⟩⟩
theorem i_zipSS {l m : Row} {j1 j2 : Nat} (h1 : Ev ta σ H (VS l)) (h2 : Ev tb σ H (VS m)) :
    EvI A (iZipSS (tCons ta (tCons tb tNil))) (gTup K 2 (gCons (gName j1) (gCons (gName j2) gNil))) σ H (l.zip m) (fun p s => (s.set j1 (some (VS [p.1]))).set j2 (some (VS [p.2]))) := fun H1 e R q =>
  h1 H1 e _ fun H2 e2 => h2 H2 (e.trans e2) _ fun H3 e3 => ⟨S l, S m, rfl, q (ItzS (S l) (S m)) H3 (fun _ => True) [] (e2.trans e3) (by simp) trivial (fun _ _ _ _ _ _ => trivial)
    ⟨fun i H hi _ => by
      obtain ⟨p1, p2, _⟩ := zip_get hi
      show i < l.toArray.size ∧ i < m.toArray.size
      simpa using ⟨p1, p2⟩, fun H _ => by
      show l.toArray.size ≤ _ ∨ m.toArray.size ≤ _
      simp only [List.size_toArray, List.length_zip]; omega, fun i H x H' σ K hi _ y k => by
      obtain ⟨p1, p2, e1⟩ := zip_get hi
      obtain ⟨T, c, d, rfl, hT, rfl, y1, y2⟩ := y
      have y1 : l.toArray[i]? = some c := y1
      have y2 : m.toArray[i]? = some d := y2
      simp [p1] at y1
      simp [p2] at y2
      subst y1 y2
      rw [e1] at k
      exact gTup2n (st_of upd_same) (k _ (Ex.new hT))⟩⟩
theorem i_enum {l : List α} {g1 : α → V} {j1 j2 : Nat} (h1 : EvQA K A ta σ H (l.map g1)) :
    EvI A (iEnum K (tCons ta tNil)) (gTup K 2 (gCons (gName j1) (gCons (gName j2) gNil))) σ H (l.zipIdx) (fun p s => (s.set j1 (some (.int (p.2 : Nat)))).set j2 (some (g1 p.1))) := fun H1 e R q =>
  h1 H1 e _ fun a H2 e2 ha hs => have hs := hs.q; ⟨a, _, rfl, hs, q (Ite K a) H2 (fun H => SqL K H a (l.map g1)) [a] e2 (by simpa using ha) hs (fun s Ha Hb x n g => x.lq (n a (by simp)) g)
    ⟨fun i H hi g => by
      rw [List.length_zipIdx] at hi
      exact ⟨_, g1 l[i], g, by simp [hi]⟩, fun H g => ⟨_, g, by simp⟩, fun i H x H' σ K hi g y k => by
      have hi' : i < l.length := by rw [List.length_zipIdx] at hi; exact hi
      obtain ⟨T, x2, rfl, hT, rfl, y2⟩ := y
      have y2 := y2 _ g
      simp [hi'] at y2
      subst y2
      have k := k (upd H T (.tup [.int (i : Nat), g1 l[i]])) (Ex.new hT)
      simp only [List.getElem_zipIdx, Nat.zero_add] at k
      exact gTup2n (st_of upd_same) k⟩⟩
theorem i_zip3 {l : List α} {m : List β} {n : List γ} {g1 : α → V} {g2 : β → V} {g3 : γ → V} {j1 j2 j3 : Nat} (h1 : EvQA K A ta σ H (l.map g1)) (h2 : EvQA K A tb σ H (m.map g2)) (h3 : EvQA K A tc σ H (n.map g3)) :
    EvI A (iZip3 K (tCons ta (tCons tb (tCons tc tNil)))) (gTup K 3 (gCons (gName j1) (gCons (gName j2) (gCons (gName j3) gNil)))) σ H (l.zip (m.zip n)) (fun p s => ((s.set j1 (some (g1 p.1))).set j2 (some (g2 p.2.1))).set j3 (some (g3 p.2.2))) := fun H1 e R q =>
  h1 H1 e _ fun a H2 e2 ha hs => have hs := hs.q; h2 H2 (e.trans e2) _ fun b H3 e3 hb ht => have ht := ht.q; h3 H3 ((e.trans e2).trans e3) _ fun c H4 e4 hc hu => have hu := hu.q; ⟨a, b, c, _, _, _, rfl, ex_l (e3.trans e4) hs, ex_l e4 ht, hu,
    q (Itz3 K a b c) H4 (fun H => SqL K H a (l.map g1) ∧ SqL K H b (m.map g2) ∧ SqL K H c (n.map g3)) [a, b, c] ((e2.trans e3).trans e4)
    (by
      intro d hd
      simp only [List.mem_cons, List.not_mem_nil, or_false] at hd
      rcases hd with rfl | rfl | rfl
      · exact ha
      · rcases hb with hb | hb
        · exact .inl hb
        · exact .inr (fresh_back e2 hb)
      · rcases hc with hc | hc
        · exact .inl hc
        · exact .inr (fresh_back (e2.trans e3) hc)) ⟨ex_l (e3.trans e4) hs, ex_l e4 ht, hu⟩ (fun s Ha Hb x n g => ⟨x.lq (n a (by simp)) g.1, x.lq (n b (by simp)) g.2.1, x.lq (n c (by simp)) g.2.2⟩)
    ⟨fun i H hi g => by
      obtain ⟨p1, p2, _⟩ := zip_get hi
      obtain ⟨p3, p4, _⟩ := zip_get p2
      exact ⟨_, _, _, g1 l[i], g2 m[i], g3 n[i], g.1, g.2.1, g.2.2, by simp [p1], by simp [p3], by simp [p4]⟩, fun H g => ⟨_, _, _, g.1, g.2.1, g.2.2, by
      simp only [List.length_map, List.length_zip]; omega⟩, fun i H x H' σ K hi g y k => by
      obtain ⟨p1, p2, e1⟩ := zip_get hi
      obtain ⟨p3, p4, e2⟩ := zip_get p2
      obtain ⟨T, x1, x2, x3, rfl, hT, rfl, y1, y2, y3⟩ := y
      have y1 := y1 _ g.1
      have y2 := y2 _ g.2.1
      have y3 := y3 _ g.2.2
      simp [p1] at y1
      simp [p3] at y2
      simp [p4] at y3
      subst y1 y2 y3
      rw [e1, e2] at k
      exact gTup3n (st_of upd_same) (k _ (Ex.new hT))⟩⟩

/-! ### comprehensions -/
theorem wipe_one (σ : L2.St) (j : Nat) (y : Option V) : wipe ((wipe σ [j]).set j y) [j] = wipe σ [j] := by
  show (((σ.set j none).set j y).set j none) = σ.set j none
  rw [List.set_set, List.set_set]
theorem wipe_two (σ : L2.St) {i j : Nat} (h : i ≠ j) (y z : Option V) : wipe (((wipe σ [i, j]).set i y).set j z) [i, j] = wipe σ [i, j] := by
  show (((((σ.set j none).set i none).set i y).set j z).set j none).set i none = (σ.set j none).set i none
  rw [List.set_set, List.set_set, List.set_comm _ _ h, List.set_set, List.set_set]
/-- l gone through so far: what stands at Dl -/
def CwL (H : Hp) (Dl : Addr) (acc : List V) (H' : Hp) : Prop := H Dl = none ∧ Ex H H' ∧ H' Dl = some (.lst acc)
theorem el_lc {l : List α} {b : α → Bool} {f : α → V} {wi : TI} {g : TG} {τ : α → L2.St → L2.St} {vs : List Nat} (src : EvI (fun _ => True) wi g σ H l τ) (hz : l.length ≤ 40000) (hw : ∀ x, wipe (τ x (wipe σ vs)) vs = wipe σ vs)
    (ht : ∀ x ∈ l, ∀ H1, Ex H H1 → EvT t (τ x (wipe σ vs)) H1 (b x)) (he : ∀ x ∈ l, b x = true → ∀ H1, Ex H H1 → Ev te (τ x (wipe σ vs)) H1 (f x)) : EvL (tLc wi g t te vs) σ H ((l.filter b).map f) := fun H0 e Q q =>
  src H0 e _ fun J H1 Gd fp e1 hfp gd0 stay S Dl hD => by
    refine ⟨fun i m H' => m = l.length - i ∧ i ≤ l.length ∧ CwL H1 Dl (((l.take i).filter b).map f) H', ⟨l.length, by simp, Nat.zero_le _, hD, Ex.new hD, upd_same⟩, ?_⟩
    rintro i m H' ⟨rfl, hi, p1, p2, p3⟩
    have gd : Gd H' := stay [] H1 H' (fun a o _ h => p2 a o h) (fun _ _ => by simp) gd0
    by_cases hlt : i < l.length
    · refine .inr ⟨S.go i H' hlt gd, fun H'' => CwL H1 Dl (((l.take (i + 1)).filter b).map f) H'', fun H'' c => ⟨l.length - (i + 1), by omega, rfl, hlt, c⟩, fun x H2 y => ?_⟩
      refine S.yld i H' x H2 (wipe σ vs) _ hlt gd y fun H3 e3 => ⟨hw _, ?_⟩
      have eH : Ex H H3 := (e.trans e1).trans (p2.trans e3)
      have hm : l[i] ∈ l := List.getElem_mem hlt
      have hx : l.take (i + 1) = l.take i ++ [l[i]] := by rw [List.take_succ, List.getElem?_eq_getElem hlt]; rfl
      refine ht l[i] hm H3 eH H3 (Ex.refl _) _ fun H4 e4 => ?_
      cases hb : b l[i] with
      | true =>
        show te _ H4 _
        refine he l[i] hm hb H4 (eH.trans e4) H4 (Ex.refl _) _ fun H5 e5 => ⟨_, e5 _ _ (e4 _ _ (e3 _ _ p3)), ?_, p1, Ex.mut (((p2.trans e3).trans e4).trans e5) p1, ?_⟩
        · refine sz_lt ?_
          rw [List.length_map]
          have := List.length_filter_le b (l.take i)
          rw [List.length_take] at this
          omega
        · rw [upd_same, hx, List.filter_append, List.map_append, List.filter_cons, if_pos hb]
          rfl
      | false =>
        show CwL H1 Dl _ H4
        refine ⟨p1, (p2.trans e3).trans e4, ?_⟩
        rw [hx, List.filter_append, List.filter_cons, if_neg (by rw [hb]; decide), List.filter_nil, List.append_nil]
        exact e4 _ _ (e3 _ _ p3)
    · have ei : i = l.length := by omega
      subst ei
      rw [List.take_length] at p3
      exact .inl ⟨S.stop H' gd, q Dl H' (fresh_back e1 p1) (e1.trans p2) p3⟩
theorem el_lc1 {l : List α} {f : α → V} {wi : TI} {g : TG} {τ : α → L2.St → L2.St} {vs : List Nat} (src : EvI (fun _ => True) wi g σ H l τ) (hz : l.length ≤ 40000) (hw : ∀ x, wipe (τ x (wipe σ vs)) vs = wipe σ vs)
    (he : ∀ x ∈ l, ∀ H1, Ex H H1 → Ev te (τ x (wipe σ vs)) H1 (f x)) : EvL (tLc wi g tYes te vs) σ H (l.map f) := by
  have := el_lc (b := fun _ => true) (t := tYes) (te := te) (f := f) src hz hw (fun x _ H1 _ H2 _ Q q => q H2 (Ex.refl _)) (fun x hx _ => he x hx)
  rwa [List.filter_eq_self.mpr (fun _ _ => rfl)] at this

/-! ### loops -/
variable {D : Ends} {tu tw tz : TS} {g : TG}
theorem s_for {s : List Addr} {l : List α} {wi : TI} {τ : α → L2.St → L2.St} (src : EvI (· ∉ s) wi g σ H l τ) (hs : ∀ a ∈ s, H a ≠ none)
    (k : ∀ H1, Ex H H1 → ∃ Pv : Nat → L2.St → Hp → Prop, Pv 0 σ H1 ∧ (∀ i σ' H', Pv i σ' H' → Xb s H1 H') ∧
      (∀ i x σ' H' H2, l[i]? = some x → Pv i σ' H' → Ex H' H2 → tu { D with nx := Pv (i + 1), ct := Pv (i + 1), bk := D.nx } (τ x σ') H2) ∧ (∀ σ' H', Pv l.length σ' H' → D.nx σ' H')) : tFor wi g tu D σ H :=
  src H (Ex.refl H) _ fun J H1 Gd fp e1 hfp gd0 stay S => by
    obtain ⟨Pv, h0, hx, hst, hd⟩ := k H1 e1
    refine ⟨fun i m σ' H' => m = l.length - i ∧ i ≤ l.length ∧ Pv i σ' H', ⟨l.length, by simp, Nat.zero_le _, h0⟩, ?_⟩
    rintro i m σ' H' ⟨rfl, hi, p⟩
    have gd : Gd H' := stay s H1 H' (hx i σ' H' p) (fun a ha hm => by
      rcases hfp a ha with h | h
      · exact h hm
      · exact hs a hm h) gd0
    by_cases hlt : i < l.length
    · refine .inr ⟨S.go i H' hlt gd, Pv (i + 1), fun σ'' H'' c => ⟨l.length - (i + 1), by omega, rfl, hlt, c⟩, fun x H2 y => ?_⟩
      exact S.yld i H' x H2 σ' _ hlt gd y fun H3 e3 => hst i l[i] σ' H' H3 (by simp [hlt]) p e3
    · have ei : i = l.length := by omega
      subst ei
      exact .inl ⟨S.stop H' gd, hd σ' H' p⟩
theorem q_for {s : List Addr} {l : List α} {wi : TI} {τ : α → L2.St → L2.St} (src : EvI (· ∉ s) wi g σ H l τ) (hs : ∀ a ∈ s, H a ≠ none)
    (k : ∀ H1, Ex H H1 → ∃ Pv : Nat → L2.St → Hp → Prop, Pv 0 σ H1 ∧ (∀ i σ' H', Pv i σ' H' → Xb s H1 H') ∧
      (∀ i x σ' H' H2, l[i]? = some x → Pv i σ' H' → Ex H' H2 → tu { D with nx := Pv (i + 1), ct := Pv (i + 1), bk := tz D } (τ x σ') H2) ∧ (∀ σ' H', Pv l.length σ' H' → tz D σ' H')) : tSeq (tFor wi g tu) tz D σ H :=
  s_for (D := { D with nx := tz D }) src hs k

/-- d while it is walked -/
def Lk (H : Hp) (d : Addr) (r : Dic) (od : Obj) : Hp := upd H d (.frz od (.dK (DS r)))
theorem lk_back {r : Dic} {d : Addr} {od : Obj} (hd : H d = some (.dK (DS r))) {H' : Hp} (e : Ex (Lk H d r od) H') : H' d = some (.frz od (.dK (DS r))) ∧ Ex H (upd H' d (.dK (DS r))) := ⟨e d _ upd_same, fun a o h => by
  by_cases ha : a = d
  · subst ha; rw [upd_same, ← hd, h]
  · rw [upd_ne ha]; exact e a o (by unfold Lk; rw [upd_ne ha]; exact h)⟩
/-- for row, letter in d.items(): .., a body that changes nothing -/
theorem s_items {r : Dic} {d : Addr} {td : TE} {j1 j2 : Nat} {Pv : Nat → L2.St → Prop} (hd : H d = some (.dK (DS r))) (ht : ∀ od, Ev td σ (Lk H d r od) (.ref d)) (h0 : Pv 0 σ)
    (hs : ∀ od i p σ' H', r[i]? = some p → Pv i σ' → Ex (Lk H d r od) H' →
      tu ⟨fun σ2 H2 => Ex (Lk H d r od) H2 ∧ Pv (i + 1) σ2, fun v H2 => H2 d = some (.frz od (.dK (DS r))) ∧ D.rt v (upd H2 d (.dK (DS r))), fun σ2 H2 => H2 d = some (.frz od (.dK (DS r))) ∧ D.nx σ2 (upd H2 d (.dK (DS r))), fun σ2 H2 => Ex (Lk H d r od) H2 ∧ Pv (i + 1) σ2⟩ ((σ'.set j1 (some (VS p.1))).set j2 (some (VS p.2))) H')
    (k : ∀ σ' H', Ex H H' → Pv r.length σ' → D.nx σ' H') : tLock (tFor (iItems td) (gTup K 2 (gCons (gName j1) (gCons (gName j2) gNil))) tu) D σ H := by
  refine ⟨d, _, hd, trivial, fun od => ?_⟩
  refine ht od _ (Ex.refl _) _ fun H1 e1 => ⟨d, od, DS r, rfl, e1 d _ upd_same, ?_⟩
  refine ⟨fun i m σ' H' => m = r.length - i ∧ i ≤ r.length ∧ Ex (Lk H d r od) H' ∧ Pv i σ', ⟨r.length, by simp, Nat.zero_le _, e1, h0⟩, ?_⟩
  rintro i m σ' H' ⟨rfl, hi, ex, p⟩
  have hq := lk_back hd ex
  by_cases hlt : i < r.length
  · refine .inr ⟨⟨hq.1, by rw [DS_len]; exact hlt⟩, fun σ'' H'' => Ex (Lk H d r od) H'' ∧ Pv (i + 1) σ'', fun σ'' H'' c => ⟨r.length - (i + 1), by omega, rfl, hlt, c⟩, fun x H2 y => ?_⟩
    obtain ⟨T, kk, v, hkv, rfl, hT, rfl⟩ := y
    have hkv : (DS r)[i]? = some (kk, v) := hkv
    unfold DS at hkv
    simp [hlt] at hkv
    obtain ⟨rfl, rfl⟩ := hkv
    exact gTup2n (x := VS r[i].1) (st_of upd_same) (hs od i r[i] σ' _ (by simp [hlt]) p (ex.trans (Ex.new hT)))
  · have ei : i = r.length := by omega
    subst ei
    exact .inl ⟨⟨hq.1, by rw [DS_len]; exact Nat.le_refl _⟩, hq.1, k σ' _ hq.2 p⟩
theorem q_items {r : Dic} {d : Addr} {td : TE} {j1 j2 : Nat} {Pv : Nat → L2.St → Prop} (hd : H d = some (.dK (DS r))) (ht : ∀ od, Ev td σ (Lk H d r od) (.ref d)) (h0 : Pv 0 σ)
    (hs : ∀ od i p σ' H', r[i]? = some p → Pv i σ' → Ex (Lk H d r od) H' →
      tu ⟨fun σ2 H2 => Ex (Lk H d r od) H2 ∧ Pv (i + 1) σ2, fun v H2 => H2 d = some (.frz od (.dK (DS r))) ∧ D.rt v (upd H2 d (.dK (DS r))), fun σ2 H2 => H2 d = some (.frz od (.dK (DS r))) ∧ tz D σ2 (upd H2 d (.dK (DS r))), fun σ2 H2 => Ex (Lk H d r od) H2 ∧ Pv (i + 1) σ2⟩ ((σ'.set j1 (some (VS p.1))).set j2 (some (VS p.2))) H')
    (k : ∀ σ' H', Ex H H' → Pv r.length σ' → tz D σ' H') : tSeq (tLock (tFor (iItems td) (gTup K 2 (gCons (gName j1) (gCons (gName j2) gNil))) tu)) tz D σ H :=
  s_items (D := { D with nx := tz D }) hd ht h0 hs k

/-! ### statements -/
theorem s_par {i j : Nat} {P1 P2 : V → Hp → Prop} (h : EvAG tr σ H [P1, P2]) (k : ∀ v w H1, Ex H H1 → P1 v H1 → P2 w H1 → D.nx ((σ.set i (some v)).set j (some w)) H1) : tPar i j tr D σ H :=
  h H (Ex.refl H) _ fun vs H1 e1 hp => by
    obtain ⟨v, r, rfl, h1, w, r', rfl, h2, rfl⟩ := hp
    exact ⟨v, w, rfl, k v w H1 e1 h1 h2⟩
theorem q_par {i j : Nat} {P1 P2 : V → Hp → Prop} (h : EvAG tr σ H [P1, P2]) (k : ∀ v w H1, Ex H H1 → P1 v H1 → P2 w H1 → tz D ((σ.set i (some v)).set j (some w)) H1) : tSeq (tPar i j tr) tz D σ H := s_par (D := { D with nx := tz D }) h k
/-- a new list, a new dict -/
def isNL (H0 : Hp) (xs : List V) : V → Hp → Prop := fun u H => ∃ p, u = .ref p ∧ H0 p = none ∧ H p = some (.lst xs)
def isND (H0 : Hp) (kvs : List (Key × V)) : V → Hp → Prop := fun u H => ∃ p, u = .ref p ∧ H0 p = none ∧ H p = some (.dK kvs)
theorem ag_NL {Ps : List (V → Hp → Prop)} (h : EvL te σ H xs) (hr : EvAG tr σ H Ps) : EvAG (tCons te tr) σ H (isNL H xs :: Ps) :=
  ag_cons (fun H1 e Q q => h H1 e Q fun p H2 hp e2 h2 => q _ H2 e2 ⟨p, rfl, fresh_back e hp, h2⟩) (fun _ _ _ e ⟨p, h1, h2, h3⟩ => ⟨p, h1, h2, e _ _ h3⟩) hr
theorem ag_ND {Ps : List (V → Hp → Prop)} {kvs : List (Key × V)} (h : EvD te σ H kvs) (hr : EvAG tr σ H Ps) : EvAG (tCons te tr) σ H (isND H kvs :: Ps) :=
  ag_cons (fun H1 e Q q => h H1 e Q fun p H2 hp e2 h2 => q _ H2 e2 ⟨p, rfl, fresh_back e hp, h2⟩) (fun _ _ _ e ⟨p, h1, h2, h3⟩ => ⟨p, h1, h2, e _ _ h3⟩) hr
theorem s_asgD {i : Nat} {kvs : List (Key × V)} (h : EvD te σ H kvs) (k : ∀ p H1, H p = none → Ex H H1 → H1 p = some (.dK kvs) → D.nx (σ.set i (some (.ref p))) H1) : tAsg te (gName i) D σ H := h H (Ex.refl H) _ fun p H1 hp e h1 => k p H1 hp e h1
theorem q_asgD {i : Nat} {kvs : List (Key × V)} (h : EvD te σ H kvs) (k : ∀ p H1, H p = none → Ex H H1 → H1 p = some (.dK kvs) → tz D (σ.set i (some (.ref p))) H1) : tSeq (tAsg te (gName i)) tz D σ H := s_asgD (D := { D with nx := tz D }) h k
theorem s_asgG {i : Nat} {P : V → Hp → Prop} (h : EvG te σ H P) (k : ∀ v H1, Ex H H1 → P v H1 → D.nx (σ.set i (some v)) H1) : tAsg te (gName i) D σ H := h H (Ex.refl H) _ fun v H1 e h1 => k v H1 e h1
theorem q_asgG {i : Nat} {P : V → Hp → Prop} (h : EvG te σ H P) (k : ∀ v H1, Ex H H1 → P v H1 → tz D (σ.set i (some v)) H1) : tSeq (tAsg te (gName i)) tz D σ H := s_asgG (D := { D with nx := tz D }) h k
theorem s_retD {kvs : List (Key × V)} (h : EvD te σ H kvs) (k : ∀ p H1, H p = none → Ex H H1 → H1 p = some (.dK kvs) → D.rt (.ref p) H1) : tRet te D σ H := h H (Ex.refl H) _ fun p H1 hp e h1 => k p H1 hp e h1
theorem s_retG {P : V → Hp → Prop} (h : EvG te σ H P) (k : ∀ v H1, Ex H H1 → P v H1 → D.rt v H1) : tRet te D σ H := h H (Ex.refl H) _ k
/-- d[k] = v, a dict of texts -/
theorem s_dput {d : Addr} {r : Dic} {a b : Row} (hd : H d = some (.dK (DS r))) (hv : Ev te σ H (VS b)) (ho : Ev ta σ H (.ref d)) (hk : Ev tb σ H (VS a)) (hz : r.length < 100000) (k : ∀ H1, Ex H H1 → D.nx σ (upd H1 d (.dK (DS (put r a b))))) : sDPut ta tb te D σ H :=
  hv H (Ex.refl H) _ fun H1 e1 => ho H1 e1 _ fun H2 e2 => hk H2 (e1.trans e2) _ fun H3 e3 => ⟨d, _, rfl, DPut.k (k := Sum.inr (S a)) (e3 _ _ (e2 _ _ (e1 _ _ hd))) (by rw [DS_len]; exact sz_lt hz), by
    rw [DS_put]
    exact k H3 ((e1.trans e2).trans e3)⟩
theorem q_dput {d : Addr} {r : Dic} {a b : Row} (hd : H d = some (.dK (DS r))) (hv : Ev te σ H (VS b)) (ho : Ev ta σ H (.ref d)) (hk : Ev tb σ H (VS a)) (hz : r.length < 100000) (k : ∀ H1, Ex H H1 → tz D σ (upd H1 d (.dK (DS (put r a b))))) : tSeq (sDPut ta tb te) tz D σ H := s_dput (D := { D with nx := tz D }) hd hv ho hk hz k
/-- a test whose answer is known -/
theorem q_ifT (h : EvT t σ H true) (k : ∀ H1, Ex H H1 → tu { D with nx := tz D } σ H1) : tSeq (tIfS t tu tw) tz D σ H := q_if h (fun _ => k) (fun e => nomatch e)
theorem q_ifF (h : EvT t σ H false) (k : ∀ H1, Ex H H1 → tw { D with nx := tz D } σ H1) : tSeq (tIfS t tu tw) tz D σ H := q_if h (fun e => nomatch e) (fun _ => k)
/-- if ..: (never) -/
theorem q_skip (h : EvT t σ H false) (k : ∀ H1, Ex H H1 → tz D σ H1) : tSeq (tIfS t tu tNext) tz D σ H := q_if h (fun e => nomatch e) (fun _ => k)
theorem s_skip (h : EvT t σ H false) (k : ∀ H1, Ex H H1 → D.nx σ H1) : tIfS t tu tNext D σ H := s_if h (fun e => nomatch e) (fun _ => k)
/-- an if without else whose ways meet in J -/
theorem q_whenJ {b : Bool} (J : L2.St → Hp → Prop) (h : EvT t σ H b) (h1 : b = true → ∀ H1, Ex H H1 → (∀ σ' H', J σ' H' → tz D σ' H') → tu { D with nx := tz D } σ H1) (h2 : b = false → ∀ H1, Ex H H1 → J σ H1)
    (k : ∀ σ' H', J σ' H' → tz D σ' H') : tSeq (tIfS t tu tNext) tz D σ H := q_when h (fun hb H1 e => h1 hb H1 e k) fun hb H1 e => k _ _ (h2 hb H1 e)
/-- an if with else whose ways meet in J -/
theorem q_ifJ {b : Bool} (J : L2.St → Hp → Prop) (h : EvT t σ H b) (h1 : b = true → ∀ H1, Ex H H1 → (∀ σ' H', J σ' H' → tz D σ' H') → tu { D with nx := tz D } σ H1)
    (h2 : b = false → ∀ H1, Ex H H1 → (∀ σ' H', J σ' H' → tz D σ' H') → tw { D with nx := tz D } σ H1)
    (k : ∀ σ' H', J σ' H' → tz D σ' H') : tSeq (tIfS t tu tw) tz D σ H := q_if h (fun hb H1 e => h1 hb H1 e k) fun hb H1 e => h2 hb H1 e k
theorem s_ret2 (h : Ev te σ H v) (k : RetV v H D.rt) : tRet te D σ H := s_ret h k
theorem s_retL2 (h : EvL te σ H xs) (k : RetL xs H D.rt) : tRet te D σ H := s_retL h k
end
theorem exh {H H' : Hp} {a : Addr} {o : HO} (e : Ex H H') (h : H a = some o) : H' a = some o := e a o h
/-- the promises, transported -/
theorem RetV.ex {v : V} {H H1 : Hp} {Q : VK} (k : RetV v H Q) (e : Ex H H1) : RetV v H1 Q := fun H2 e2 => k H2 (e.trans e2)
theorem RetL.ex {xs : List V} {H H1 : Hp} {Q : VK} (k : RetL xs H Q) (e : Ex H H1) : RetL xs H1 Q := fun p H2 hp e2 h => k p H2 (fresh_back e hp) (e.trans e2) h
end Ho

/-! Ho, part F: == of lists of texts and numbers; displays -/
namespace Ho
open PySem PySem.Spec PyProof.Rows L2 Evl

/-- codes that a text may hold -/
def SmR (r : Row) : Prop := ∀ c ∈ r, c < 1114112
def SmT (l : List Row) : Prop := ∀ r ∈ l, SmR r
def dS (r : Row) : PyData := .str (S r)
theorem strOk_S {r : Row} (h : SmR r) : PyData.strOk (S r) = true := by
  unfold PyData.strOk
  show (r.toArray).all (· < 0x110000) = true
  rw [List.all_toArray]
  simp only [List.all_eq_true, decide_eq_true_eq]
  exact h
theorem eqvAll_S : ∀ l m : List Row, PyData.eqvAll (l.map dS) (m.map dS) = decide (l = m)
  | [], [] => by simp [PyData.eqvAll]
  | [], b :: m => by simp [PyData.eqvAll]
  | a :: l, [] => by simp [PyData.eqvAll]
  | a :: l, b :: m => by
    rw [List.map_cons, List.map_cons, PyData.eqvAll, eqvAll_S l m]
    show (PyData.eqv (.str (S a)) (.str (S b)) && _) = _
    rw [PyData.eqv]
    by_cases h : a = b
    · subst h; simp
    · have : (S a == S b) = false := beq_eq_false_iff_ne.mpr fun e => h (S_inj e)
      rw [this]; simp [h]
theorem eqvAll_I : ∀ l m : List Int, PyData.eqvAll (l.map .int) (m.map .int) = decide (l = m)
  | [], [] => by simp [PyData.eqvAll]
  | [], b :: m => by simp [PyData.eqvAll]
  | a :: l, [] => by simp [PyData.eqvAll]
  | a :: l, b :: m => by
    rw [List.map_cons, List.map_cons, PyData.eqvAll, eqvAll_I l m, PyData.eqv]
    by_cases h : a = b
    · subst h; simp
    · simp [h]
theorem lay_S : ∀ l : List Row, SmT l → PyData.canLayAll0 (l.map dS) = true
  | [], _ => by simp [PyData.canLayAll0]
  | a :: l, h => by
    rw [List.map_cons, PyData.canLayAll0, lay_S l fun r hr => h r (List.mem_cons_of_mem _ hr)]
    show (PyData.canLay0 (.str (S a)) && true) = true
    rw [PyData.canLay0, strOk_S (h a List.mem_cons_self)]
    rfl
theorem lay_I : ∀ l : List Int, PyData.canLayAll0 (l.map .int) = true
  | [] => by simp [PyData.canLayAll0]
  | a :: l => by rw [List.map_cons, PyData.canLayAll0, lay_I l, PyData.canLay0]; rfl
theorem depth_S : ∀ l : List Row, PyData.depthAll (l.map dS) = 0
  | [] => by simp [PyData.depthAll]
  | a :: l => by
    rw [List.map_cons, PyData.depthAll, depth_S l]
    show max (PyData.depth (.str (S a))) 0 = 0
    rw [PyData.depth]; rfl
theorem depth_I : ∀ l : List Int, PyData.depthAll (l.map .int) = 0
  | [] => by simp [PyData.depthAll]
  | a :: l => by rw [List.map_cons, PyData.depthAll, depth_I l, PyData.depth]; rfl
theorem shaped_S {l : List Row} (h : SmT l) : SeqAt.shaped (.list (l.map dS)) = true := by
  unfold SeqAt.shaped
  rw [PyData.canLay0, lay_S l h, PyData.depth, depth_S]
  rfl
theorem shaped_I (l : List Int) : SeqAt.shaped (.list (l.map .int)) = true := by
  unfold SeqAt.shaped
  rw [PyData.canLay0, lay_I l, PyData.depth, depth_I]
  rfl
section
variable {K : PySem.W.Frag} {σ : L2.St} {H : Hp} {ta tb te : TE} {t : TT} {tr : TA} {a b : Row} {i : Int}
theorem dp_S : ∀ l : List Row, DpAll K H (l.map VS) (l.map dS)
  | [] => .nil
  | a :: l => .cons (.str (S a)) (dp_S l)
theorem dp_I : ∀ l : List Int, DpAll K H (l.map V.int) (l.map .int)
  | [] => .nil
  | a :: l => .cons (.int a) (dp_I l)
theorem ev_eqLS {l m : List Row} (h1 : EvQ K ta σ H (l.map VS)) (h2 : EvQ K tb σ H (m.map VS)) (s1 : SmT l) (s2 : SmT m) : Ev (tOp (rEqD K) ta tb) σ H (.bl (decide (l = m))) := fun H1 e Q q =>
  h1 H1 e _ fun p H2 e2 g1 => h2 H2 (e.trans e2) _ fun p' H3 e3 g2 => ⟨.list (l.map dS), .list (m.map dS), .lst (SL.q (K := K) (exl (K := K) e3 g1)) (dp_S l), .lst (SL.q g2) (dp_S m), shaped_S s1, shaped_S s2, by
    rw [PyData.eqv, eqvAll_S]; exact q H3 (e2.trans e3)⟩
theorem ev_neLS {l m : List Row} (h1 : EvQ K ta σ H (l.map VS)) (h2 : EvQ K tb σ H (m.map VS)) (s1 : SmT l) (s2 : SmT m) : Ev (tOp (rNeD K) ta tb) σ H (.bl (!decide (l = m))) := fun H1 e Q q =>
  h1 H1 e _ fun p H2 e2 g1 => h2 H2 (e.trans e2) _ fun p' H3 e3 g2 => ⟨.list (l.map dS), .list (m.map dS), .lst (SL.q (K := K) (exl (K := K) e3 g1)) (dp_S l), .lst (SL.q g2) (dp_S m), shaped_S s1, shaped_S s2, by
    rw [PyData.eqv, eqvAll_S]; exact q H3 (e2.trans e3)⟩
theorem ev_eqLI {l m : List Int} (h1 : EvQ K ta σ H (l.map V.int)) (h2 : EvQ K tb σ H (m.map V.int)) : Ev (tOp (rEqD K) ta tb) σ H (.bl (decide (l = m))) := fun H1 e Q q =>
  h1 H1 e _ fun p H2 e2 g1 => h2 H2 (e.trans e2) _ fun p' H3 e3 g2 => ⟨.list (l.map .int), .list (m.map .int), .lst (SL.q (K := K) (exl (K := K) e3 g1)) (dp_I l), .lst (SL.q g2) (dp_I m), shaped_I l, shaped_I m, by
    rw [PyData.eqv, eqvAll_I]; exact q H3 (e2.trans e3)⟩
theorem ev_neLI {l m : List Int} (h1 : EvQ K ta σ H (l.map V.int)) (h2 : EvQ K tb σ H (m.map V.int)) : Ev (tOp (rNeD K) ta tb) σ H (.bl (!decide (l = m))) := fun H1 e Q q =>
  h1 H1 e _ fun p H2 e2 g1 => h2 H2 (e.trans e2) _ fun p' H3 e3 g2 => ⟨.list (l.map .int), .list (m.map .int), .lst (SL.q (K := K) (exl (K := K) e3 g1)) (dp_I l), .lst (SL.q g2) (dp_I m), shaped_I l, shaped_I m, by
    rw [PyData.eqv, eqvAll_I]; exact q H3 (e2.trans e3)⟩

/-! ### displays -/
theorem el_nilM {α : Type} {g : α → V} : EvL (tLst tNil) σ H (List.map g []) := el_nil
theorem emS_nil : EvA tNil σ H (List.map VS []) := ea_nil
theorem emS_cons {l : List Row} (h : Ev te σ H (VS a)) (hr : EvA tr σ H (List.map VS l)) : EvA (tCons te tr) σ H (List.map VS (a :: l)) := ea_cons h hr
theorem emI_nil : EvA tNil σ H (List.map V.int []) := ea_nil
theorem emI_cons {l : List Int} (h : Ev te σ H (.int i)) (hr : EvA tr σ H (List.map V.int l)) : EvA (tCons te tr) σ H (List.map V.int (i :: l)) := ea_cons h hr
/-- {k: v, ..} of texts -/
def EvPS (trs : List (TE × TE)) (σ : L2.St) (H : Hp) (ps : Dic) : Prop := ∀ H1, Ex H H1 → ∀ Q : List (V × V) → Hp → Prop, (∀ H2, Ex H1 H2 → Q (ps.map fun p => (VS p.1, VS p.2)) H2) → tPairs trs σ H1 Q
theorem ep_nil : EvPS [] σ H [] := fun H1 _ Q q => q H1 (Ex.refl _)
theorem ep_cons {trs : List (TE × TE)} {ps : Dic} (hk : Ev ta σ H (VS a)) (hv : Ev tb σ H (VS b)) (hr : EvPS trs σ H ps) : EvPS ((ta, tb) :: trs) σ H ((a, b) :: ps) := fun H1 e Q q =>
  hk H1 e _ fun H2 e2 => hv H2 (e.trans e2) _ fun H3 e3 => hr H3 ((e.trans e2).trans e3) _ fun H4 e4 => q H4 ((e2.trans e3).trans e4)
def putAll (ps : Dic) : Dic := ps.foldl (fun acc p => put acc p.1 p.2) []
theorem mergeK_DS : ∀ (ps acc : Dic), mergeK (DS acc) (DS ps) = DS (ps.foldl (fun acc p => put acc p.1 p.2) acc)
  | [], acc => rfl
  | p :: ps, acc => by
    show mergeK (putK (DS acc) (Sum.inr (S p.1)) (VS p.2)) (DS ps) = _
    rw [DS_put, mergeK_DS ps]
    rfl
theorem ed_disp {trs : List (TE × TE)} {ps : Dic} (h : EvPS trs σ H ps) (hl : ps.length ≤ 15) : EvD (tDisp trs) σ H (DS (putAll ps)) := fun H1 e Q q => fun p hp =>
  h _ (e.trans (Ex.new hp)) _ fun H2 e2 => ⟨e2 _ _ upd_same, DS ps, by
    unfold DS
    rw [List.map_map]
    rfl, by rw [DS_len]; exact hl, by
    have := mergeK_DS ps []
    rw [DS_nil] at this
    rw [this]
    exact q p _ hp (Ex.xb0 ((Ex.new hp).trans e2) (xb_upd (p := p)) (fun a ha => by rw [List.mem_singleton.mp ha]; exact hp)) upd_same⟩
end
end Ho

/-! Ho, part G: enumerate of a text; count, order, sorting of texts; lists of lists -/
namespace Ho
open PySem PySem.Spec PyProof.Rows L2 Evl

/-! ### enumerate(text) -/
def IteS (x : Str) : It :=
  ⟨fun i _ => i < x.cps.size, fun i H v H' => ∃ T c, v = .ref T ∧ H T = none ∧ H' = upd H T (.tup [.int (i : Nat), .str ⟨#[c]⟩]) ∧ x.cps[i]? = some c, fun i _ => x.cps.size ≤ i⟩
theorem turn_enumS {P : Program} {w : World} {K : PySem.W.Frag} {elts : List Expr} {kk : Nat} {tpos : Pos} {x : Str} {t : Tok} (e it : Addr) :
    Turn P w K (.Tuple elts kk tpos) (IteS x) [e, it] e (fun i h => i ≤ x.cps.size ∧ (∃ old, IsEnum h e it ((i : Nat) : Int) old) ∧ h.IsStrIter it (strIterType x) x t i ∧ e ≠ it) where
  mem := by simp
  obj := fun i h st b hb => by
    obtain ⟨_, ⟨old, he⟩, ⟨o, ho, hc, hd⟩, _⟩ := st
    have e' : b = e ∨ b = it := by simpa using hb
    rcases e' with z | z
    · rw [z]; exact ⟨_, he, fun v q => nomatch q⟩
    · rw [z]; exact ⟨o, ho, fun v q => by rw [hd] at q; cases q⟩
  keep := fun i h h' st k => let ⟨hl, ⟨old, he⟩, hi, hne⟩ := st; ⟨hl, ⟨old, k e (by simp) _ he⟩, strit_at hi fun o q => k it (by simp) o q, hne⟩
  item := by
    intro X hP hw hK hc i pins s σ H E I hf st hg
    subst hP hw hK
    obtain ⟨_, ⟨old, he⟩, hit, hne⟩ := st
    have hg : i < x.cps.size := hg
    have hh := I.ok.hd hc
    have hel : e < s.heap.objs.size := Heap.lt_size he
    have hil : it < s.heap.objs.size := by obtain ⟨_, q, _⟩ := hit; exact Heap.lt_size q
    refine wpAny_pyNext_enum_itemD (Draws.text (A := X.A.in1) hh it x t) he hit hg hne (by simpa using hne) fun y h' tk hP ho hit' hT hsz hk => ?_
    obtain ⟨c, tc, ec, rfl⟩ := hP
    refine ⟨_, rfl, wpAny_letOwnedTupleGo_enum (s := { s with heap := h', toks := tk + 1 }) ho fun h'' he' sb => ?_⟩
    have hT2 : h''.get? s.heap.objs.size = some { cls := .type "tuple", data := .seq #[.int i tk, .str ⟨#[c]⟩ tc] } := (sb.2 _ (Nat.ne_of_gt hel)).trans hT
    have new : ObjOk X.prog X.w (upd H s.heap.objs.size (.tup [.int (i : Nat), .str ⟨#[c]⟩])) h'' s.heap.objs.size (.tup [.int (i : Nat), .str ⟨#[c]⟩]) :=
      ⟨by show 2 ≤ sizeLine; decide, [.int i tk, .str ⟨#[c]⟩ tc], .cons ⟨_, rfl⟩ (.cons ⟨_, rfl⟩ .nil), ⟨_, hT2, rfl, _, rfl⟩⟩
    have I1 : Inv X pins σ (upd H s.heap.objs.size (.tup [.int (i : Nat), .str ⟨#[c]⟩])) { s with heap := h'', toks := tk + 1 } :=
      I.turnedNew (ch := [e, it]) (fun b ob hb q => (sb.2 b (fun z => hb (by simp [z]))).trans (hk b ob (fun z => hb (by simp [z])) (fun z => hb (by simp [z])) q)) hf (Nat.le_refl _) new
    refine ⟨.ref s.heap.objs.size, _, I1, rfl, ⟨_, c, rfl, I.hok.fresh (Nat.le_refl _), rfl, ec⟩, ⟨hg, ⟨.str ⟨#[c]⟩ tc, ?_⟩, strit_at hit' fun o q => (sb.2 it (Ne.symm hne)).trans q, hne⟩, fun b hb => ?_⟩
    · have e1 : ((i + 1 : Nat) : Int) = (i : Int) + 1 := by omega
      rw [e1]; exact he'
    · have hb' : b < s.heap.objs.size := by
        have e' : b = e ∨ b = it := by simpa using hb
        rcases e' with z | z
        · rw [z]; exact hel
        · rw [z]; exact hil
      rw [upd_ne (Nat.ne_of_lt hb')]
      exact (hf b hb).1
  done := by
    intro X hP hw hK hc i pins s σ H E I hf st hg
    subst hP hw hK
    obtain ⟨hl, ⟨old, he⟩, hit, hne⟩ := st
    have hg : x.cps.size ≤ i := hg
    have hi : i = x.cps.size := Nat.le_antisymm hl hg
    subst hi
    obtain ⟨f0, f1, f2, f3, f4, f5⟩ := hf it (by simp)
    exact wpAny_pyNext_enum_endD (Draws.text (A := X.A.in1) (I.ok.hd hc) it x t) he hit fun h' eb => ⟨rfl, I.turned (t' := s.toks) (fun b o hb q => eb b o hb q) f0 f1 f3 f4 f5⟩
  self := fun A i s Q E st h => let ⟨_, ⟨_, he⟩, _⟩ := st; wpAny_pyIter_enum he h
def iEnumS (ta : TA) : TI := fun σ H R => ta σ H fun vs H1 => ∃ x, vs = [.str x] ∧ R (IteS x) H1
theorem pi_enumS {X : Cx} {e : Expr} {ta : TA} {p pos tpos : Pos} {elts : List Expr} {kk : Nat} (hg : Gl X "enumerate") (hm : X.mg "enumerate" = none) (ha : PA X [e] ta) (hs : starEach [e] X.env = [(false, eval e X.env)] := by rfl) :
    PI X (.Tuple elts kk tpos) (.Call (.Name "enumerate" p) [e] [] pos) (iEnumS ta) := by
  refine ⟨fun pins s σ H R I h => ?_⟩
  refine Call_ (ld_blt I hg hm boot_enumerate (PyProof.Rows.callWith_type1 (thn (ha.run pos pins s σ H _ I h) fun us s1 ⟨vs, H1, I1, r1, q1⟩ => ?_) hs rfl))
  obtain ⟨x, ex, q⟩ := q1
  subst ex
  cases r1 with
  | cons r rr =>
    cases rr
    obtain ⟨t, rfl⟩ := r
    refine call_enumerate_str fun h' he hit hsz hk => wpAny_pyIter_enum he ?_
    have I2 : Inv X pins σ H1 { s1 with heap := h' } := I1.kept (t' := s1.toks) hk
    refine ⟨s1.heap.objs.size + 1, [s1.heap.objs.size + 1, s1.heap.objs.size], _, _, H1, rfl, I2, turn_enumS (t := t) (s1.heap.objs.size + 1) s1.heap.objs.size, ⟨Nat.zero_le _, ⟨.none, he⟩, hit, Nat.succ_ne_self _⟩, fun b hb => ?_, q⟩
    have e' : b = s1.heap.objs.size + 1 ∨ b = s1.heap.objs.size := by simpa using hb
    have hle : s1.heap.objs.size ≤ b := by
      rcases e' with z | z
      · rw [z]; exact Nat.le_add_right _ _
      · rw [z]; exact Nat.le_refl _
    exact I1.fpOk hle (I1.hok.fresh hle)

/-! ### xs.count(x), flat items -/
def rCntG (K : PySem.W.Frag) : V → List V → Hp → VK → Prop := fun x xs H Q => ∃ (p : Addr) (ys : List V) (y : V), x = .ref p ∧ xs = [y] ∧ SqL K H p ys ∧ flatV y = true ∧ ys.all flatV = true ∧ Q (.int (ys.countP fun z => eqV z y : Nat)) H
theorem count_eqU {x : V} : ∀ {xs : List V} {us : List Value}, Vals xs us → xs.all flatV = true → us.countP (eqU x) = xs.countP fun y => eqV y x
  | _, _, .nil, _ => rfl
  | y :: xs, u :: us, .cons r t, f => by
    rw [List.all_cons, Bool.and_eq_true] at f
    rw [List.countP_cons, List.countP_cons, eqU_of r f.1, count_eqU t f.2]
theorem kmt_lcount {X : Cx} {K : PySem.W.Frag} (hK : X.K = K := by rfl) : MtR X "list.count" (rCntG K) := by
  subst hK
  intro pins s σ H x xs v us Q I rx rxs h
  obtain ⟨p, ys, y, rfl, rfl, hs, fy, fs, q⟩ := h
  cases rx
  obtain ⟨u, rfl, ru⟩ := rxs.one
  obtain ⟨its, rv, ⟨⟨cls, dd, data, sl⟩, n, ho, hc, hdn, hd⟩, hlen⟩ := I.list hs
  simp only at hc hd
  subst hc hd
  refine call_meets PySem.F.slot_list_count ⟨_, ho, rfl⟩ PySem.F.entry_list_count (PySem.F.args_list_count_2 _ _)
    (SeqAt.list_countAt p its.toArray n dd sl u (eqU y)) ⟨ho, fun z hz => mem_eqAt ru fy rv fs z (by simpa using hz), ?_⟩
  refine ⟨.int (ys.countP fun z => eqV z y : Nat), H, I.tok _, ⟨s.toks, ?_⟩, q⟩
  show Value.int ((its.toArray.toList.countP (eqU y) : Nat) : Int) s.toks = _
  rw [show its.toArray.toList = its from rfl, count_eqU rv fs]

/-! ### texts: order -/
theorem lt_iff_ltCps : ∀ (a b : Row), PySem.Spec.ltCps a b = decide (a < b)
  | [], [] => by simp [PySem.Spec.ltCps]
  | [], _ :: _ => by simp [PySem.Spec.ltCps]
  | _ :: _, [] => by simp [PySem.Spec.ltCps]
  | a :: r, b :: t => by
    unfold PySem.Spec.ltCps
    rw [lt_iff_ltCps r t, Bool.eq_iff_iff]
    simp [List.cons_lt_cons_iff]
def rising : List Row → Prop
  | [] => True
  | a :: r => (∀ b ∈ r, ¬ b < a) ∧ rising r
theorem row_le_trans {a b c : Row} (h1 : ¬ b < a) (h2 : ¬ c < b) : ¬ c < a := List.not_lt.mpr (List.le_trans (List.not_lt.mp h1) (List.not_lt.mp h2))
theorem risingS_rows : ∀ (p : Row) (l : List Row), risingS (S p) (l.map S) = true → (∀ b ∈ l, ¬ b < p) ∧ rising l
  | p, [], _ => ⟨fun b hb => (nomatch hb), trivial⟩
  | p, a :: r, h => by
    have h : (!PySem.Spec.ltCps a p && risingS (S a) (r.map S)) = true := h
    rw [Bool.and_eq_true, lt_iff_ltCps] at h
    have ih := risingS_rows a r h.2
    have hp : ¬ a < p := by simpa using h.1
    refine ⟨fun b hb => ?_, ih.1, ih.2⟩
    rcases List.mem_cons.mp hb with rfl | hb
    · exact hp
    · exact row_le_trans hp (ih.1 b hb)
theorem sortedS_rows : ∀ (l : List Row), sortedS (l.map S) = true → rising l
  | [], _ => trivial
  | a :: r, h => ⟨(risingS_rows a r h).1, (risingS_rows a r h).2⟩
theorem rising_perm : ∀ {l m : List Row}, rising l → rising m → l.Perm m → l = m
  | [], m, _, _, p => (List.perm_nil.mp p.symm).symm
  | a :: r, [], _, _, p => by simpa using p
  | a :: r, b :: t, h1, h2, p => by
    have e : a = b := by
      have ha : a ∈ b :: t := p.subset List.mem_cons_self
      have hb : b ∈ a :: r := p.symm.subset List.mem_cons_self
      rcases List.mem_cons.mp ha with e | ha
      · exact e
      · rcases List.mem_cons.mp hb with e | hb
        · exact e.symm
        · have q1 := h1.1 b hb
          have q2 := h2.1 a ha
          exact List.le_antisymm (List.not_lt.mp q1) (List.not_lt.mp q2)
    subst e
    rw [rising_perm h1.2 h2.2 (List.Perm.cons_inv p)]
theorem map_S_inj : ∀ {ys : List Str} {l : List Row}, ys.Perm (l.map S) → ∃ m : List Row, ys = m.map S ∧ m.Perm l := by
  intro ys l p
  refine ⟨ys.map fun z => z.cps.toList, ?_, ?_⟩
  · rw [List.map_map]
    have : (S ∘ fun z : Str => z.cps.toList) = id := by
      funext z
      show (⟨z.cps.toList.toArray⟩ : Str) = z
      cases z
      simp
    rw [this, List.map_id]
  · have := p.map fun z : Str => z.cps.toList
    rw [List.map_map] at this
    have e : ((fun z : Str => z.cps.toList) ∘ S) = id := rfl
    rwa [e, List.map_id] at this
section
variable {K : PySem.W.Frag} {σ : L2.St} {H H' : Hp} {ta tb tc te tx tl : TE} {t u : TT} {x y z v : V} {r : R2} {xs ys : List V} {P : V → Hp → Prop} {Ps : List (V → Hp → Prop)} {tr : TA} {i j k : Int} {a b : Row} {A : Addr → Prop}
theorem kcr_sortedS {X : Cx} (hK : X.K = K := by rfl) : CallR X (.builtin "sorted") (rSortedS K) := hK ▸ cr_sortedS
theorem el_sortedS {l m : List Row} (h : EvQ K te σ H (l.map VS)) (hz : l.length < 64) (hp : m.Perm l) (hm : rising m) : EvL (tCB (rSortedS K) (tCons te tNil)) σ H (m.map VS) := fun H1 e Q q =>
  h H1 e _ fun a H2 e2 hs => ⟨a, l.map S, rfl, by
    rw [List.map_map]
    exact hs.q, by rw [List.length_map]; exact hz, fun ys p h1 h2 hn => by
    obtain ⟨m', rfl, h3⟩ := map_S_inj h1
    have e : m' = m := rising_perm (sortedS_rows m' h2) hm (h3.trans hp.symm)
    subst e
    refine q p _ (fresh_back e2 hn) (e2.trans (Ex.new hn)) ?_
    rw [upd_same, List.map_map]
    rfl⟩
theorem ev_ltS (ha : Ev ta σ H (VS a)) (hb : Ev tb σ H (VS b)) : Ev (tOp (fun x y H Q => ∃ i j, x = .str i ∧ y = .str j ∧ Q (.bl (decide (i.cps.toList < j.cps.toList))) H) ta tb) σ H (.bl (decide (a < b))) := fun H1 e Q q =>
  ha H1 e _ fun H2 e2 => hb H2 (e.trans e2) _ fun H3 e3 => ⟨S a, S b, rfl, rfl, q H3 (e2.trans e3)⟩
theorem flat_texts (l : List Row) : (l.map VS).all flatV = true := by
  rw [List.all_map]
  exact List.all_eq_true.mpr fun _ _ => rfl
theorem eqV_S (a b : Row) : eqV (VS a) (VS b) = decide (a = b) := by
  show decide (S a = S b) = _
  by_cases h : a = b
  · simp [h]
  · rw [decide_eq_false h, decide_eq_false (fun e => h (S_inj e))]
theorem ev_lcountS {l : List Row} (h : EvQ K ta σ H (l.map VS)) (hb : Ev tb σ H (VS b)) : Ev (tBM K "list" (rCntG K) ta (tCons tb tNil)) σ H (.int ((l.count b : Nat) : Int)) := fun H1 e Q q =>
  h H1 e _ fun p H2 e2 hs => ⟨.inl ⟨rfl, _, hs.q⟩, hb H2 (e.trans e2) _ fun H3 e3 => ⟨p, l.map VS, VS b, rfl, rfl, (exl (K := K) e3 hs).q, rfl, flat_texts l, by
    have : ((l.map VS).countP fun z => eqV z (VS b)) = l.count b := by
      rw [List.countP_map, List.count_eq_countP]
      refine List.countP_congr fun c _ => ?_
      show eqV (VS c) (VS b) = true ↔ _
      rw [eqV_S]
      simp
    rw [this]
    exact q H3 (e2.trans e3)⟩⟩
theorem i_enumS {l : Row} {j1 j2 : Nat} (h : Ev ta σ H (VS l)) :
    EvI A (iEnumS (tCons ta tNil)) (gTup K 2 (gCons (gName j1) (gCons (gName j2) gNil))) σ H l.zipIdx (fun p s => (s.set j1 (some (.int (p.2 : Nat)))).set j2 (some (VS [p.1]))) := fun H1 e R q =>
  h H1 e _ fun H2 e2 => ⟨S l, rfl, q (IteS (S l)) H2 (fun _ => True) [] e2 (by simp) trivial (fun _ _ _ _ _ _ => trivial)
    ⟨fun i H hi _ => by
      show i < l.toArray.size
      rw [List.length_zipIdx] at hi
      simpa using hi, fun H _ => by
      show l.toArray.size ≤ _
      simp, fun i H x H' σ K hi _ y k => by
      have hi' : i < l.length := by rw [List.length_zipIdx] at hi; exact hi
      obtain ⟨T, c, rfl, hT, rfl, y1⟩ := y
      have y1 : l.toArray[i]? = some c := y1
      simp [hi'] at y1
      subst y1
      have e1 : l.zipIdx[i] = (l[i], i) := by simp
      rw [e1] at k
      exact gTup2n (st_of upd_same) (k _ (Ex.new hT))⟩⟩
end
end Ho

/-! Ho, part H: lists of lists, of tuples -/
namespace Ho
open PySem PySem.Spec PyProof.Rows L2 Evl
/-- an address of A, of a list (a tuple) with these items -/
def kL {β : Type} (K : PySem.W.Frag) (f : β → List V) (A : Addr → Prop) (y : β) : V → Hp → Prop := fun u H => ∃ a, u = .ref a ∧ H a = some (.lst (f y)) ∧ A a
def kT {β : Type} (K : PySem.W.Frag) (f : β → List V) (A : Addr → Prop) (y : β) : V → Hp → Prop := fun u H => ∃ a, u = .ref a ∧ H a = some (.tup (f y)) ∧ A a
def tru : Addr → Prop := fun _ => True
def fre (H0 : Hp) : Addr → Prop := fun a => H0 a = none
def frx (H0 : Hp) (p : Addr) : Addr → Prop := fun a => H0 a = none ∧ a ≠ p
def oldx (H : Hp) (p : Addr) : Addr → Prop := fun a => H a ≠ none ∧ a ≠ p
theorem SL.some {K : PySem.W.Frag} {H : Hp} {a : Addr} {xs : List V} (h : SL K H a xs) : H a ≠ none := fun n => h.ne n rfl
theorem ST.some {K : PySem.W.Frag} {H : Hp} {a : Addr} {xs : List V} (h : ST K H a xs) : H a ≠ none := fun n => h.ne n rfl
def MonK {β : Type} (Pk : β → V → Hp → Prop) : Prop := ∀ y, Mon (Pk y)
theorem mkL {β : Type} {K : PySem.W.Frag} {f : β → List V} {A : Addr → Prop} : MonK (kL K f A) := fun y v H H' e ⟨a, h1, h2, h3⟩ => ⟨a, h1, e _ _ h2, h3⟩
theorem mkT {β : Type} {K : PySem.W.Frag} {f : β → List V} {A : Addr → Prop} : MonK (kT K f A) := fun y v H H' e ⟨a, h1, h2, h3⟩ => ⟨a, h1, e _ _ h2, h3⟩
theorem allP_imp {β : Type} {P Q : β → V → Hp → Prop} {H H' : Hp} (h : ∀ y u, P y u H → Q y u H') : ∀ {ys : List β} {vs : List V}, AllP (ys.map P) vs H → AllP (ys.map Q) vs H'
  | [], _, z => z
  | y :: ys, _, ⟨v, r, e, p, t⟩ => ⟨v, r, e, h y v p, allP_imp h t⟩
theorem allP_impM {β : Type} {P Q : β → V → Hp → Prop} {H H' : Hp} : ∀ {ys : List β} {vs : List V}, (∀ y ∈ ys, ∀ u, P y u H → Q y u H') → AllP (ys.map P) vs H → AllP (ys.map Q) vs H'
  | [], _, _, z => z
  | y :: ys, _, h, ⟨v, r, e, p, t⟩ => ⟨v, r, e, h y List.mem_cons_self v p, allP_impM (fun y' hy => h y' (List.mem_cons_of_mem _ hy)) t⟩
theorem allP_ex {β : Type} {P : β → V → Hp → Prop} {H H' : Hp} (m : MonK P) (e : Ex H H') {ys : List β} {vs : List V} (h : AllP (ys.map P) vs H) : AllP (ys.map P) vs H' := allP_imp (fun y u p => m y u _ _ e p) h
theorem allP_len {β : Type} {P : β → V → Hp → Prop} {H : Hp} {ys : List β} {vs : List V} (h : AllP (ys.map P) vs H) : vs.length = ys.length := by rw [AllP.length h, List.length_map]
theorem allP_at {β : Type} {P : β → V → Hp → Prop} {H : Hp} : ∀ {ys : List β} {vs : List V}, AllP (ys.map P) vs H → ∀ (i : Nat) (y : β), ys[i]? = some y → ∃ v, vs[i]? = some v ∧ P y v H
  | [], _, _, i, y, h => by simp at h
  | y0 :: ys, _, ⟨v, r, rfl, p, t⟩, i, y, h => by
    cases i with
    | zero =>
      simp at h
      subst h
      exact ⟨v, rfl, p⟩
    | succ i =>
      simp at h
      simpa using allP_at t i y h
theorem allP_app {Ps Qs : List (V → Hp → Prop)} {H : Hp} : ∀ {vs ws : List V}, AllP Ps vs H → AllP Qs ws H → AllP (Ps ++ Qs) (vs ++ ws) H := by
  induction Ps with
  | nil =>
    intro vs ws h1 h2
    have h1 : vs = [] := h1
    subst h1
    exact h2
  | cons P Ps ih =>
    intro vs ws h1 h2
    obtain ⟨v, r, rfl, p, t⟩ := h1
    exact ⟨v, r ++ ws, rfl, p, ih t h2⟩
theorem allP_snoc {β : Type} {P : β → V → Hp → Prop} {H : Hp} {ys : List β} {vs : List V} {y : β} {v : V} (h : AllP (ys.map P) vs H) (hv : P y v H) : AllP ((ys ++ [y]).map P) (vs ++ [v]) H := by
  rw [List.map_append]
  exact allP_app h ⟨v, [], rfl, hv, rfl⟩
theorem allP_rev {β : Type} {P : β → V → Hp → Prop} {H : Hp} : ∀ {ys : List β} {vs : List V}, AllP (ys.map P) vs H → AllP (ys.reverse.map P) vs.reverse H
  | [], _, h => by
    obtain rfl : _ = [] := h
    exact rfl
  | y :: ys, _, ⟨v, r, rfl, p, t⟩ => by
    rw [List.reverse_cons, List.reverse_cons]
    exact allP_snoc (allP_rev t) p
theorem allP_filter {β : Type} {P : β → V → Hp → Prop} {H : Hp} : ∀ {ys : List β} {vs : List V}, AllP (ys.map P) vs H → ∀ b : β → Bool, ∃ ws, AllP ((ys.filter b).map P) ws H
  | [], _, h, b => ⟨[], rfl⟩
  | y :: ys, _, ⟨v, r, _, p, t⟩, b => by
    obtain ⟨ws, hw⟩ := allP_filter t b
    rw [List.filter_cons]
    split
    · exact ⟨v :: ws, v, ws, rfl, p, hw⟩
    · exact ⟨ws, hw⟩
/-- the list at a, its items as told -/
def AG {β : Type} (K : PySem.W.Frag) (H : Hp) (a : Addr) (Pk : β → V → Hp → Prop) (ys : List β) : Prop := ∃ vs, SL K H a vs ∧ AllP (ys.map Pk) vs H
def isA {β : Type} (K : PySem.W.Frag) (Pk : β → V → Hp → Prop) (ys : List β) : V → Hp → Prop := fun u H => ∃ a, u = .ref a ∧ AG K H a Pk ys
theorem AG.ex {β : Type} {K : PySem.W.Frag} {H H' : Hp} {a : Addr} {Pk : β → V → Hp → Prop} {ys : List β} (m : MonK Pk) (e : Ex H H') (h : AG K H a Pk ys) : AG K H' a Pk ys := by
  obtain ⟨vs, h1, h2⟩ := h
  exact ⟨vs, exl e h1, allP_ex m e h2⟩
theorem mon_A {β : Type} {K : PySem.W.Frag} {Pk : β → V → Hp → Prop} (m : MonK Pk) (ys : List β) : Mon (isA K Pk ys) := fun v H H' e ⟨a, h1, h2⟩ => ⟨a, h1, h2.ex m e⟩
theorem AG.imp {β : Type} {K : PySem.W.Frag} {H : Hp} {a : Addr} {P Q : β → V → Hp → Prop} {ys : List β} (h : AG K H a P ys) (i : ∀ y u, P y u H → Q y u H) : AG K H a Q ys := by
  obtain ⟨vs, h1, h2⟩ := h
  exact ⟨vs, h1, allP_imp i h2⟩
theorem AG.tru {β : Type} {K : PySem.W.Frag} {H : Hp} {a : Addr} {f : β → List V} {A : Addr → Prop} {ys : List β} (h : AG K H a (kL K f A) ys) : AG K H a (kL K f tru) ys := h.imp fun y u ⟨a, h1, h2, _⟩ => ⟨a, h1, h2, trivial⟩
theorem AG.ne {β : Type} {K : PySem.W.Frag} {H : Hp} {a b : Addr} {P : β → V → Hp → Prop} {ys : List β} (h : AG K H a P ys) (n : H b = none) : a ≠ b := by
  obtain ⟨vs, h1, _⟩ := h
  exact h1.ne n
/-- while p alone changes -/
theorem allx_xb {β : Type} {K : PySem.W.Frag} {f : β → List V} {A : Addr → Prop} {H H' : Hp} {p : Addr} {ys : List β} {vs : List V} (hA : ∀ a, A a → a ≠ p) (x : Xb [p] H H') (h : AllP (ys.map (kL K f A)) vs H) : AllP (ys.map (kL K f A)) vs H' :=
  allP_imp (fun y u ⟨a, h1, h2, h3⟩ => ⟨a, h1, x _ _ (nin1 (hA a h3)) h2, h3⟩) h
theorem allx_xbT {β : Type} {K : PySem.W.Frag} {f : β → List V} {A : Addr → Prop} {H H' : Hp} {p : Addr} {ys : List β} {vs : List V} (hA : ∀ a, A a → a ≠ p) (x : Xb [p] H H') (h : AllP (ys.map (kT K f A)) vs H) : AllP (ys.map (kT K f A)) vs H' :=
  allP_imp (fun y u ⟨a, h1, h2, h3⟩ => ⟨a, h1, x _ _ (nin1 (hA a h3)) h2, h3⟩) h
/-- to a new list of new items -/
def EvNA {β : Type} (te : TE) (σ : L2.St) (H : Hp) (N : Hp → β → V → Hp → Prop) (ys : List β) : Prop := ∀ H1, Ex H H1 → ∀ Q : VK, (∀ p vs H2, H1 p = none → Ex H1 H2 → H2 p = some (.lst vs) → AllP (ys.map (N H1)) vs H2 → Q (.ref p) H2) → te σ H1 Q
def RetA {β : Type} (N : Hp → β → V → Hp → Prop) (ys : List β) (H : Hp) (Q : VK) : Prop := ∀ p vs H2, H p = none → Ex H H2 → H2 p = some (.lst vs) → AllP (ys.map (N H)) vs H2 → Q (.ref p) H2
def spA {β : Type} (N : Hp → β → V → Hp → Prop) (n : Nat) (R : List V → Hp → List β → Prop) : Sp := fun vs H Q _ => vs.length = n ∧ ∃ ys H0, Ex H0 H ∧ R vs H0 ys ∧ RetA N ys H Q
def AntiN {β : Type} (N : Hp → β → V → Hp → Prop) : Prop := ∀ H0 H1 y u H, Ex H0 H1 → N H1 y u H → N H0 y u H
abbrev nL {β : Type} (K : PySem.W.Frag) (f : β → List V) : Hp → β → V → Hp → Prop := fun H0 => kL K f (fre H0)
abbrev nT {β : Type} (K : PySem.W.Frag) (f : β → List V) : Hp → β → V → Hp → Prop := fun H0 => kT K f (fre H0)
abbrev tS2 (p : Row × Row) : List V := [VS p.1, VS p.2]
theorem anti_nL {β : Type} {K : PySem.W.Frag} {f : β → List V} : AntiN (nL K f) := fun H0 H1 y u H e ⟨a, h1, h2, h3⟩ => ⟨a, h1, h2, fresh_back e h3⟩
theorem anti_nT {β : Type} {K : PySem.W.Frag} {f : β → List V} : AntiN (nT K f) := fun H0 H1 y u H e ⟨a, h1, h2, h3⟩ => ⟨a, h1, h2, fresh_back e h3⟩
section
variable {K : PySem.W.Frag} {σ : L2.St} {H H' : Hp} {ta tb tc te tx tl : TE} {t u : TT} {x y z v : V} {r : R2} {xs : List V} {P : V → Hp → Prop} {Ps : List (V → Hp → Prop)} {tr : TA} {i j k : Int} {a b : Row} {A : Addr → Prop} {β : Type} {N : Hp → β → V → Hp → Prop} {Pk : β → V → Hp → Prop} {ys : List β}
theorem RetA.ex {Q : VK} (m : AntiN N) (k : RetA N ys H Q) {H1 : Hp} (e : Ex H H1) : RetA N ys H1 Q := fun p vs H2 hp e2 h1 h2 => k p vs H2 (fresh_back e hp) (e.trans e2) h1 (allP_imp (fun y u q => m _ _ y u _ e q) h2)
theorem en_callG {n : Nat} {R : List V → Hp → List β → Prop} {E : XK} (m : AntiN N) (h : EvAG tr σ H Ps) (hn : Ps.length = n) (hr : ∀ vs H1, Ex H H1 → AllP Ps vs H1 → R vs H1 ys) : EvNA (tCallO (spA N n R) E tr) σ H N ys := fun H1 e Q q =>
  h H1 e _ fun vs H2 e2 hp => ⟨hp.length.trans hn, ys, H2, Ex.refl H2, hr vs H2 (e.trans e2) hp, fun p ws H3 hp3 e3 h3 h4 => q p ws H3 (fresh_back e2 hp3) (e2.trans e3) h3 (allP_imp (fun y u z => m _ _ y u _ e2 z) h4)⟩
theorem g_A (h : EvNA te σ H N ys) (w : ∀ H0 y u H1, N H0 y u H1 → Pk y u H1) : EvG te σ H (isA K Pk ys) := fun H1 e Q q => h H1 e Q fun p vs H2 _ e2 h2 h3 => q _ H2 e2 ⟨p, rfl, vs, slof h2, allP_imp (fun y u z => w _ y u _ z) h3⟩
theorem g_AL {f : β → List V} (h : EvNA te σ H (nL K f) ys) : EvG te σ H (isA K (kL K f tru) ys) := g_A h fun _ _ _ _ ⟨a, h1, h2, _⟩ => ⟨a, h1, h2, trivial⟩
theorem g_AT {f : β → List V} (h : EvNA te σ H (nT K f) ys) : EvG te σ H (isA K (kT K f tru) ys) := g_A h fun _ _ _ _ ⟨a, h1, h2, _⟩ => ⟨a, h1, h2, trivial⟩
theorem g_Aold {p : Addr} (m : MonK Pk) (h : Ev te σ H (.ref p)) (hs : AG K H p Pk ys) : EvG te σ H (isA K Pk ys) := fun H1 e Q q => h H1 e Q fun H2 e2 => q _ H2 e2 ⟨p, rfl, hs.ex m (e.trans e2)⟩
theorem q_G (h : EvG te σ H (isL K xs)) : EvQ K te σ H xs := fun H1 e Q q => h H1 e Q fun v H2 e2 ⟨a, ea, hs⟩ => by
  subst ea
  exact q a H2 e2 hs
theorem q_GL {f : β → List V} {y : β} (h : EvG te σ H (kL K f A y)) : EvQ K te σ H (f y) := fun H1 e Q q => h H1 e Q fun v H2 e2 ⟨a, ea, hs, _⟩ => by
  subst ea
  exact q a H2 e2 (slof hs)
theorem ag_A (m : MonK Pk) (h : EvG te σ H (isA K Pk ys)) (hr : EvAG tr σ H Ps) : EvAG (tCons te tr) σ H (isA K Pk ys :: Ps) := ag_cons h (mon_A m ys) hr
theorem ev_lenA (h : EvG te σ H (isA K Pk ys)) : Ev (tCB (rLenQ K) (tCons te tNil)) σ H (.int (ys.length : Int)) := fun H1 e Q q =>
  h H1 e _ fun v H2 e2 ⟨p, ev, vs, h1, h2⟩ => by
    subst ev
    refine ⟨p, vs, rfl, .inl (SL.q h1), ?_⟩
    rw [allP_len h2]
    exact q H2 e2
theorem eg_ixA (d : β) (m : MonK Pk) (h : EvG ta σ H (isA K Pk ys)) (hb : Ev tb σ H (.int i)) (h0 : 0 ≤ i) (h1 : i < ys.length) : EvG (tOp (rIxL K) ta tb) σ H (Pk (ys.getD i.toNat d)) := fun H1 e Q q =>
  h H1 e _ fun v H2 e2 ⟨p, ev, vs, h2, h3⟩ => hb H2 (e.trans e2) _ fun H3 e3 => by
    subst ev
    have hy : ys[i.toNat]? = some (ys.getD i.toNat d) := by
      rw [List.getD_eq_getElem?_getD, List.getElem?_eq_getElem (show i.toNat < ys.length by omega)]
      rfl
    obtain ⟨w, hw, hp⟩ := allP_at h3 i.toNat _ hy
    have hl : i < (vs.length : Int) := by rw [allP_len h3]; exact h1
    refine ⟨p, vs, i, _, rfl, rfl, (exl (K := K) e3 h2).q, atI_getD V.non h0 hl, ?_⟩
    rw [List.getD_eq_getElem?_getD, hw]
    exact q w H3 (e2.trans e3) (m _ _ _ _ e3 hp)
theorem eg_ixLastA {w : β} (m : MonK Pk) (h : EvG ta σ H (isA K Pk ys)) (hb : Ev tb σ H (.int (-1))) (hw : ys.getLast? = some w) : EvG (tOp (rIxL K) ta tb) σ H (Pk w) := fun H1 e Q q =>
  h H1 e _ fun v H2 e2 ⟨p, ev, vs, h2, h3⟩ => hb H2 (e.trans e2) _ fun H3 e3 => by
    subst ev
    have hl := allP_len h3
    have hn : ys ≠ [] := by rintro rfl; simp at hw
    have hy : ys[ys.length - 1]? = some w := by rw [← List.getLast?_eq_getElem?]; exact hw
    obtain ⟨w', hw', hp⟩ := allP_at h3 _ _ hy
    have hvn : vs ≠ [] := by
      rintro rfl
      simp at hw'
    have hv : vs = vs.dropLast ++ [w'] := by
      have : vs.getLast hvn = w' := by
        rw [← hl, ← List.getLast?_eq_getElem?, List.getLast?_eq_getLast hvn] at hw'
        exact Option.some.inj hw'
      rw [← this, List.dropLast_concat_getLast]
    refine ⟨p, vs, -1, w', rfl, rfl, (exl (K := K) e3 h2).q, ?_, q w' H3 (e2.trans e3) (m _ _ _ _ e3 hp)⟩
    rw [hv]
    exact atI_last _ _
/-- a list made of what is told -/
theorem en_lst {N : Hp → β → V → Hp → Prop} (h : ∀ H1, Ex H H1 → ∀ Q : List V → Hp → Prop, (∀ vs H2, Ex H1 H2 → AllP (ys.map (N H1)) vs H2 → Q vs H2) → tr σ H1 Q) (m : ∀ H0, MonK (N H0)) (hz : ys.length ≤ 100000) : EvNA (tLst tr) σ H N ys := fun H1 e Q q =>
  h H1 e _ fun vs H2 e2 hp => ⟨sz_of (by rw [allP_len hp]; exact hz), fun p hp0 => q p vs _ (fresh_back e2 hp0) (e2.trans (Ex.new hp0)) upd_same (allP_ex (m _) (Ex.new hp0) hp)⟩
theorem en_one {f : β → List V} {y : β} (h : EvL te σ H (f y)) : EvNA (tLst (tCons te tNil)) σ H (nL K f) [y] :=
  en_lst (fun H1 e Q q => h H1 e _ fun p H2 hp e2 h2 => q [.ref p] H2 e2 ⟨_, _, rfl, ⟨p, rfl, h2, hp⟩, rfl⟩) (fun H0 => mkL) (by simp)
theorem en_nilA : EvNA (tLst tNil) σ H N [] := fun H1 e Q q => ⟨sz_of (Nat.zero_le _), fun p hp0 => q p [] _ hp0 (Ex.new hp0) upd_same rfl⟩
/-- reversed: new, its items as they were -/
theorem s_retA {D : Ends} (h : EvNA te σ H N ys) (k : RetA N ys H D.rt) : tRet te D σ H := h H (Ex.refl H) _ fun p vs H1 hp e h1 h2 => k p vs H1 hp e h1 h2
theorem s_asgA {D : Ends} {i : Nat} (h : EvNA te σ H N ys) (k : ∀ p vs H1, H p = none → Ex H H1 → H1 p = some (.lst vs) → AllP (ys.map (N H)) vs H1 → D.nx (σ.set i (some (.ref p))) H1) : tAsg te (gName i) D σ H := h H (Ex.refl H) _ fun p vs H1 hp e h1 h2 => k p vs H1 hp e h1 h2
theorem q_asgA {D : Ends} {tz : TS} {i : Nat} (h : EvNA te σ H N ys) (k : ∀ p vs H1, H p = none → Ex H H1 → H1 p = some (.lst vs) → AllP (ys.map (N H)) vs H1 → tz D (σ.set i (some (.ref p))) H1) : tSeq (tAsg te (gName i)) tz D σ H := s_asgA (D := { D with nx := tz D }) h k
/-- xs[::-1] of what one has the items of -/
theorem el_revV {vs : List V} (h : EvQ K te σ H vs) : EvL (tRevL K te) σ H vs.reverse := fun H1 e Q q =>
  h H1 e _ fun a H2 e2 hs => ⟨a, vs, rfl, hs.q, fun p hp => q p _ (fresh_back e2 hp) (e2.trans (Ex.new hp)) upd_same⟩
theorem EvNA.is {zs : List β} (h : EvNA te σ H N ys) (e : ys = zs) : EvNA te σ H N zs := e ▸ h
/-- the items of a new list made here are not the list itself, where each is laid before it -/
theorem allP_one {f : β → List V} {H0 H1 : Hp} {p : Addr} {y : β} {vs : List V} (hp : H1 p = some (.lst vs)) (hv : AllP ([y].map (kL K f (fre H0))) vs H1) (hy : ∀ a, vs = [.ref a] → f y ≠ vs) : AllP ([y].map (kL K f (frx H0 p))) vs H1 := by
  obtain ⟨v, r, rfl, ⟨a, rfl, h1, h2⟩, h3⟩ := hv
  obtain rfl : r = [] := h3
  refine ⟨_, [], rfl, ⟨a, rfl, h1, h2, fun e => ?_⟩, rfl⟩
  subst e
  rw [hp] at h1
  exact hy a rfl (HO.lst.inj (Option.some.inj h1)).symm
theorem el_revQ {α : Type} {l : List α} {g : α → V} (h : EvQ K te σ H (l.map g)) : EvL (tRevL K te) σ H (l.reverse.map g) := by
  have := el_revV h
  rwa [← List.map_reverse] at this
/-- the items with their addresses -/
abbrev gR {β : Type} (q : Addr × β) : V := .ref q.1
theorem allP_pairs {f : β → List V} {A : Addr → Prop} {H : Hp} : ∀ {ys : List β} {vs : List V}, AllP (ys.map (kL K f A)) vs H → ∃ ps : List (Addr × β), vs = ps.map gR ∧ ys = ps.map (·.2) ∧ ∀ q ∈ ps, H q.1 = some (.lst (f q.2)) ∧ A q.1
  | [], _, h => ⟨[], h, rfl, fun q hq => nomatch hq⟩
  | y :: ys, _, ⟨v, r, e, ⟨a, ea, h1, h2⟩, t⟩ => by
    subst e ea
    obtain ⟨ps, e1, e2, e3⟩ := allP_pairs t
    refine ⟨(a, y) :: ps, by rw [e1]; rfl, by rw [e2]; rfl, fun q hq => ?_⟩
    rcases List.mem_cons.mp hq with rfl | hq
    · exact ⟨h1, h2⟩
    · exact e3 q hq
theorem allP_of {f : β → List V} {A : Addr → Prop} {H : Hp} : ∀ {ps : List (Addr × β)}, (∀ q ∈ ps, H q.1 = some (.lst (f q.2)) ∧ A q.1) → AllP ((ps.map (·.2)).map (kL K f A)) (ps.map gR) H
  | [], _ => rfl
  | q :: ps, h => ⟨_, _, rfl, ⟨q.1, rfl, (h q List.mem_cons_self).1, (h q List.mem_cons_self).2⟩, allP_of fun p hp => h p (List.mem_cons_of_mem _ hp)⟩
/-! in a par -/
def isNA {β : Type} (H0 : Hp) (N : Hp → β → V → Hp → Prop) (ys : List β) : V → Hp → Prop := fun u H => ∃ p vs, u = .ref p ∧ H0 p = none ∧ H p = some (.lst vs) ∧ AllP (ys.map (N H0)) vs H
theorem ag_NA (m : ∀ H0, MonK (N H0)) (an : AntiN N) (h : EvNA te σ H N ys) (hr : EvAG tr σ H Ps) : EvAG (tCons te tr) σ H (isNA H N ys :: Ps) :=
  ag_cons (fun H1 e Q q => h H1 e Q fun p vs H2 hp e2 h2 h3 => q _ H2 e2 ⟨p, vs, rfl, fresh_back e hp, h2, allP_imp (fun y u z => an _ _ y u _ e z) h3⟩) (fun _ _ _ e ⟨p, vs, h1, h2, h3, h4⟩ => ⟨p, vs, h1, h2, e _ _ h3, allP_ex (m _) e h4⟩) hr
theorem ag_G (m : Mon P) (h : EvG te σ H P) (hr : EvAG tr σ H Ps) : EvAG (tCons te tr) σ H (P :: Ps) := ag_cons h m hr
theorem s_par3 {D : Ends} {i j l : Nat} {P1 P2 P3 : V → Hp → Prop} (h : EvAG tr σ H [P1, P2, P3]) (k : ∀ v1 v2 v3 H1, Ex H H1 → P1 v1 H1 → P2 v2 H1 → P3 v3 H1 → D.nx (((σ.set i (some v1)).set j (some v2)).set l (some v3)) H1) : tPar3 i j l tr D σ H :=
  h H (Ex.refl H) _ fun vs H1 e1 hp => by
    obtain ⟨v1, _, rfl, h1, v2, _, rfl, h2, v3, _, rfl, h3, rfl⟩ := hp
    exact ⟨v1, v2, v3, rfl, k v1 v2 v3 H1 e1 h1 h2 h3⟩
theorem q_par3 {D : Ends} {tz : TS} {i j l : Nat} {P1 P2 P3 : V → Hp → Prop} (h : EvAG tr σ H [P1, P2, P3]) (k : ∀ v1 v2 v3 H1, Ex H H1 → P1 v1 H1 → P2 v2 H1 → P3 v3 H1 → tz D (((σ.set i (some v1)).set j (some v2)).set l (some v3)) H1) : tSeq (tPar3 i j l tr) tz D σ H := s_par3 (D := { D with nx := tz D }) h k
theorem s_par4 {D : Ends} {i j l m : Nat} {P1 P2 P3 P4 : V → Hp → Prop} (h : EvAG tr σ H [P1, P2, P3, P4]) (m1 : Mon P1) (m2 : Mon P2) (m3 : Mon P3) (m4 : Mon P4)
    (k : ∀ v1 v2 v3 v4 H1, Ex H H1 → P1 v1 H1 → P2 v2 H1 → P3 v3 H1 → P4 v4 H1 → D.nx ((((σ.set i (some v1)).set j (some v2)).set l (some v3)).set m (some v4)) H1) :
    tAsg (tTup tr) (gTup K 4 (gCons (gName i) (gCons (gName j) (gCons (gName l) (gCons (gName m) gNil))))) D σ H :=
  h H (Ex.refl H) _ fun vs H1 e1 hp => by
    obtain ⟨v1, _, rfl, h1, v2, _, rfl, h2, v3, _, rfl, h3, v4, _, rfl, h4, rfl⟩ := hp
    refine ⟨sz_of (by simp), fun p hp => ?_⟩
    have e2 : Ex H1 (upd H1 p (.tup [v1, v2, v3, v4])) := Ex.new hp
    exact ⟨p, _, rfl, st_of upd_same, rfl, v1, _, rfl, v2, _, rfl, v3, _, rfl, v4, _, rfl, rfl, k v1 v2 v3 v4 _ (e1.trans e2) (m1 _ _ _ e2 h1) (m2 _ _ _ e2 h2) (m3 _ _ _ e2 h3) (m4 _ _ _ e2 h4)⟩
theorem q_par4 {D : Ends} {tz : TS} {i j l m : Nat} {P1 P2 P3 P4 : V → Hp → Prop} (h : EvAG tr σ H [P1, P2, P3, P4]) (m1 : Mon P1) (m2 : Mon P2) (m3 : Mon P3) (m4 : Mon P4)
    (k : ∀ v1 v2 v3 v4 H1, Ex H H1 → P1 v1 H1 → P2 v2 H1 → P3 v3 H1 → P4 v4 H1 → tz D ((((σ.set i (some v1)).set j (some v2)).set l (some v3)).set m (some v4)) H1) :
    tSeq (tAsg (tTup tr) (gTup K 4 (gCons (gName i) (gCons (gName j) (gCons (gName l) (gCons (gName m) gNil)))))) tz D σ H := s_par4 (D := { D with nx := tz D }) h m1 m2 m3 m4 k
theorem s_tup2 {D : Ends} {i j : Nat} {P1 P2 : V → Hp → Prop} (h : EvAG tr σ H [P1, P2]) (m1 : Mon P1) (m2 : Mon P2)
    (k : ∀ v1 v2 H1, Ex H H1 → P1 v1 H1 → P2 v2 H1 → D.nx ((σ.set i (some v1)).set j (some v2)) H1) : tAsg (tTup tr) (gTup K 2 (gCons (gName i) (gCons (gName j) gNil))) D σ H :=
  h H (Ex.refl H) _ fun vs H1 e1 hp => by
    obtain ⟨v1, _, rfl, h1, v2, _, rfl, h2, rfl⟩ := hp
    refine ⟨sz_of (by simp), fun p hp => ?_⟩
    have e2 : Ex H1 (upd H1 p (.tup [v1, v2])) := Ex.new hp
    exact ⟨p, _, rfl, st_of upd_same, rfl, v1, _, rfl, v2, _, rfl, rfl, k v1 v2 _ (e1.trans e2) (m1 _ _ _ e2 h1) (m2 _ _ _ e2 h2)⟩
theorem q_tup2 {D : Ends} {tz : TS} {i j : Nat} {P1 P2 : V → Hp → Prop} (h : EvAG tr σ H [P1, P2]) (m1 : Mon P1) (m2 : Mon P2)
    (k : ∀ v1 v2 H1, Ex H H1 → P1 v1 H1 → P2 v2 H1 → tz D ((σ.set i (some v1)).set j (some v2)) H1) : tSeq (tAsg (tTup tr) (gTup K 2 (gCons (gName i) (gCons (gName j) gNil)))) tz D σ H := s_tup2 (D := { D with nx := tz D }) h m1 m2 k
theorem s_tup3 {D : Ends} {i j l : Nat} {P1 P2 P3 : V → Hp → Prop} (h : EvAG tr σ H [P1, P2, P3]) (m1 : Mon P1) (m2 : Mon P2) (m3 : Mon P3)
    (k : ∀ v1 v2 v3 H1, Ex H H1 → P1 v1 H1 → P2 v2 H1 → P3 v3 H1 → D.nx (((σ.set i (some v1)).set j (some v2)).set l (some v3)) H1) : tAsg (tTup tr) (gTup K 3 (gCons (gName i) (gCons (gName j) (gCons (gName l) gNil)))) D σ H :=
  h H (Ex.refl H) _ fun vs H1 e1 hp => by
    obtain ⟨v1, _, rfl, h1, v2, _, rfl, h2, v3, _, rfl, h3, rfl⟩ := hp
    refine ⟨sz_of (by simp), fun p hp => ?_⟩
    have e2 : Ex H1 (upd H1 p (.tup [v1, v2, v3])) := Ex.new hp
    exact ⟨p, _, rfl, st_of upd_same, rfl, v1, _, rfl, v2, _, rfl, v3, _, rfl, rfl, k v1 v2 v3 _ (e1.trans e2) (m1 _ _ _ e2 h1) (m2 _ _ _ e2 h2) (m3 _ _ _ e2 h3)⟩
theorem q_tup3 {D : Ends} {tz : TS} {i j l : Nat} {P1 P2 P3 : V → Hp → Prop} (h : EvAG tr σ H [P1, P2, P3]) (m1 : Mon P1) (m2 : Mon P2) (m3 : Mon P3)
    (k : ∀ v1 v2 v3 H1, Ex H H1 → P1 v1 H1 → P2 v2 H1 → P3 v3 H1 → tz D (((σ.set i (some v1)).set j (some v2)).set l (some v3)) H1) : tSeq (tAsg (tTup tr) (gTup K 3 (gCons (gName i) (gCons (gName j) (gCons (gName l) gNil))))) tz D σ H := s_tup3 (D := { D with nx := tz D }) h m1 m2 m3 k
theorem mon_NL {H0 : Hp} {xs : List V} : Mon (isNL H0 xs) := fun _ _ _ e ⟨p, h1, h2, h3⟩ => ⟨p, h1, h2, e _ _ h3⟩
theorem mon_ND {H0 : Hp} {kvs : List (Key × V)} : Mon (isND H0 kvs) := fun _ _ _ e ⟨p, h1, h2, h3⟩ => ⟨p, h1, h2, e _ _ h3⟩
theorem mon_NA {H0 : Hp} (m : ∀ H0, MonK (N H0)) : Mon (isNA H0 N ys) := fun _ _ _ e ⟨p, vs, h1, h2, h3, h4⟩ => ⟨p, vs, h1, h2, e _ _ h3, allP_ex (m _) e h4⟩
/-! a loop whose ways (through, broken off) meet in J -/
theorem q_forJ {α : Type} {D : Ends} {g : TG} {tu tz : TS} {s : List Addr} {l : List α} {wi : TI} {τ : α → L2.St → L2.St} (J : L2.St → Hp → Prop) (src : EvI (· ∉ s) wi g σ H l τ) (hs : ∀ a ∈ s, H a ≠ none)
    (k : ∀ H1, Ex H H1 → (∀ σ' H', J σ' H' → tz D σ' H') → ∃ Pv : Nat → L2.St → Hp → Prop, Pv 0 σ H1 ∧ (∀ i σ' H', Pv i σ' H' → Xb s H1 H') ∧
      (∀ i x σ' H' H2, l[i]? = some x → Pv i σ' H' → Ex H' H2 → tu { D with nx := Pv (i + 1), ct := Pv (i + 1), bk := tz D } (τ x σ') H2) ∧ (∀ σ' H', Pv l.length σ' H' → J σ' H')) (fin : ∀ σ' H', J σ' H' → tz D σ' H') : tSeq (tFor wi g tu) tz D σ H :=
  q_for src hs fun H1 e1 => by
    obtain ⟨Pv, h0, h1, h2, h3⟩ := k H1 e1 fin
    exact ⟨Pv, h0, h1, h2, fun σ' H' p => fin _ _ (h3 σ' H' p)⟩
/-- over a new list of new pairs -/
theorem i_arrT {f : β → List V} {g1 g2 : β → V} {j1 j2 : Nat} (hf : ∀ y, f y = [g1 y, g2 y]) (h : EvNA tl σ H (nT K f) ys) :
    EvI A (iList K tl) (gTup K 2 (gCons (gName j1) (gCons (gName j2) gNil))) σ H ys (fun p s => (s.set j1 (some (g1 p))).set j2 (some (g2 p))) := fun H1 e R q =>
  h H1 e _ fun a vs H2 ha e2 h2 h3 => ⟨a, rfl, ⟨_, (slof h2).q⟩, q (Itl K a) H2 (fun H' => H' a = some (.lst vs) ∧ AllP (ys.map (kT K f (fun b => V.ref b ∈ vs ∧ H1 b = none))) vs H') (a :: vs.filterMap fun v => match v with | .ref b => some b | _ => none) e2
    (by
      intro b hb
      rcases List.mem_cons.mp hb with rfl | hb
      · exact .inr ha
      · obtain ⟨v, hv, eb⟩ := List.mem_filterMap.mp hb
        cases v with
        | ref c =>
          obtain rfl := Option.some.inj eb
          obtain ⟨i, hi⟩ := List.mem_iff_getElem?.mp hv
          have hl := allP_len h3
          have hi2 := (List.getElem?_eq_some_iff.mp hi).1
          obtain ⟨w, hw, ⟨b', eb', _, hb'⟩⟩ := allP_at h3 i _ (List.getElem?_eq_getElem (show i < ys.length by omega))
          rw [hi] at hw
          obtain rfl := Option.some.inj hw
          cases eb'
          exact .inr hb'
        | _ => cases eb)
    ⟨h2, by
      have key : ∀ {zs : List β} {ws : List V}, (∀ v ∈ ws, v ∈ vs) → AllP (zs.map (nT K f H1)) ws H2 → AllP (zs.map (kT K f (fun b => V.ref b ∈ vs ∧ H1 b = none))) ws H2 := by
        intro zs
        induction zs with
        | nil => intro ws _ z; exact z
        | cons z zs ih =>
          rintro _ hw ⟨v, r, rfl, ⟨b, rfl, p2, p3⟩, t⟩
          exact ⟨_, r, rfl, ⟨b, rfl, p2, hw _ List.mem_cons_self, p3⟩, ih (fun v hv => hw v (List.mem_cons_of_mem _ hv)) t⟩
      exact key (fun _ h => h) h3⟩
    (fun s Ha Hb x n ⟨p1, p2⟩ => ⟨x a _ (n a (by simp)) p1, allP_imp (fun y u ⟨b, h1, h2, h3⟩ => ⟨b, h1, x _ _ (n b (List.mem_cons_of_mem _ (List.mem_filterMap.mpr ⟨_, h3.1, rfl⟩))) h2, h3⟩) p2⟩)
    ⟨fun i H hi ⟨g, g2⟩ => by
      have hl := allP_len g2
      exact ⟨_, vs[i]'(by omega), (slof g).q, by simp [hl, hi]⟩, fun H ⟨g, g2⟩ => ⟨_, (slof g).q, by rw [allP_len g2]; exact Nat.le_refl _⟩, fun i H x H' σ K' hi ⟨g, g2⟩ y k => by
      obtain ⟨e1, y⟩ := y
      subst e1
      have yy := y _ (slof g).q
      obtain ⟨w, hw, ⟨b, rfl, hb, _⟩⟩ := allP_at g2 i _ (List.getElem?_eq_getElem hi)
      rw [hw] at yy
      obtain rfl := Option.some.inj yy
      rw [hf] at hb
      exact gTup2n (st_of hb) (k _ (Ex.refl _))⟩⟩
end

/-! ### comprehensions that make new lists, new tuples -/
def CwA {β : Type} (f : β → HO) (H0 H : Hp) (Dl : Addr) (ys : List β) (H' : Hp) : Prop := ∃ vs, H Dl = none ∧ Ex H H' ∧ H' Dl = some (.lst vs) ∧ AllP (ys.map fun y u H => ∃ a, u = V.ref a ∧ H a = some (f y) ∧ frx H0 Dl a) vs H'
section
variable {K : PySem.W.Frag} {σ : L2.St} {H : Hp} {te : TE} {t : TT} {α β : Type}
theorem en_lcO {l : List α} {b : α → Bool} {f : β → HO} {g : α → β} {wi : TI} {gt : TG} {τ : α → L2.St → L2.St} {vs : List Nat} (src : EvI (fun _ => True) wi gt σ H l τ) (hz : l.length ≤ 40000) (hw : ∀ x, wipe (τ x (wipe σ vs)) vs = wipe σ vs)
    (ht : ∀ x ∈ l, ∀ H1, Ex H H1 → EvT t (τ x (wipe σ vs)) H1 (b x))
    (he : ∀ x ∈ l, b x = true → ∀ H1, Ex H H1 → ∀ H2, Ex H1 H2 → ∀ Q : VK, (∀ p H3, H2 p = none → Ex H2 H3 → H3 p = some (f (g x)) → Q (.ref p) H3) → te (τ x (wipe σ vs)) H2 Q) :
    EvNA (tLc wi gt t te vs) σ H (fun H0 (y : β) (u : V) (H : Hp) => ∃ a, u = V.ref a ∧ H a = some (f y) ∧ fre H0 a) ((l.filter b).map g) := fun H0 e Q q =>
  src H0 e _ fun J H1 Gd fp e1 hfp gd0 stay S Dl hD => by
    refine ⟨fun i m H' => m = l.length - i ∧ i ≤ l.length ∧ CwA f H0 H1 Dl (((l.take i).filter b).map g) H', ⟨l.length, by simp, Nat.zero_le _, [], hD, Ex.new hD, upd_same, rfl⟩, ?_⟩
    rintro i m H' ⟨rfl, hi, ws, p1, p2, p3, p4⟩
    have gd : Gd H' := stay [] H1 H' (fun a o _ h => p2 a o h) (fun _ _ => by simp) gd0
    by_cases hlt : i < l.length
    · refine .inr ⟨S.go i H' hlt gd, fun H'' => CwA f H0 H1 Dl (((l.take (i + 1)).filter b).map g) H'', fun H'' c => ⟨l.length - (i + 1), by omega, rfl, hlt, c⟩, fun x H2 y => ?_⟩
      refine S.yld i H' x H2 (wipe σ vs) _ hlt gd y fun H3 e3 => ⟨hw _, ?_⟩
      have eH : Ex H H3 := (e.trans e1).trans (p2.trans e3)
      have hm : l[i] ∈ l := List.getElem_mem hlt
      have hx : l.take (i + 1) = l.take i ++ [l[i]] := by rw [List.take_succ, List.getElem?_eq_getElem hlt]; rfl
      refine ht l[i] hm H3 eH H3 (Ex.refl _) _ fun H4 e4 => ?_
      have up : ∀ {Ha Hb : Hp}, Ex Ha Hb → AllP ((((l.take i).filter b).map g).map fun y u H => ∃ a, u = V.ref a ∧ H a = some (f y) ∧ frx H0 Dl a) ws Ha → AllP ((((l.take i).filter b).map g).map fun y u H => ∃ a, u = V.ref a ∧ H a = some (f y) ∧ frx H0 Dl a) ws Hb :=
        fun ee => allP_imp fun y u ⟨a, h1, h2, h3⟩ => ⟨a, h1, ee _ _ h2, h3⟩
      cases hb : b l[i] with
      | true =>
        show te _ H4 _
        refine he l[i] hm hb H4 (eH.trans e4) H4 (Ex.refl _) _ fun p H5 hp e5 h5 => ⟨ws, e5 _ _ (e4 _ _ (e3 _ _ p3)), ?_, ws ++ [.ref p], p1, Ex.mut (((p2.trans e3).trans e4).trans e5) p1, upd_same, ?_⟩
        · refine sz_lt ?_
          rw [allP_len p4, List.length_map]
          have := List.length_filter_le b (l.take i)
          rw [List.length_take] at this
          omega
        · have hpD : p ≠ Dl := fun z => by
            rw [z, e4 _ _ (e3 _ _ p3)] at hp
            cases hp
          have hp0 : H0 p = none := fresh_back (e1.trans ((p2.trans e3).trans e4)) hp
          rw [hx, List.filter_append, List.map_append, List.filter_cons, if_pos hb]
          refine allP_snoc (P := fun y u H => ∃ a, u = V.ref a ∧ H a = some (f y) ∧ frx H0 Dl a) ?_ ⟨p, rfl, ?_, hp0, hpD⟩
          · refine allP_imp (fun y u ⟨a, h1, h2, h3⟩ => ⟨a, h1, ?_, h3⟩) (up ((e3.trans e4).trans e5) p4)
            exact (xb_upd (p := Dl)) _ _ (nin1 h3.2) h2
          · exact (xb_upd (p := Dl)) _ _ (nin1 hpD) h5
      | false =>
        show CwA f H0 H1 Dl _ H4
        refine ⟨ws, p1, (p2.trans e3).trans e4, e4 _ _ (e3 _ _ p3), ?_⟩
        rw [hx, List.filter_append, List.filter_cons, if_neg (by rw [hb]; decide), List.filter_nil, List.append_nil]
        exact up (e3.trans e4) p4
    · have ei : i = l.length := by omega
      subst ei
      rw [List.take_length] at p4
      exact .inl ⟨S.stop H' gd, q Dl ws H' (fresh_back e1 p1) (e1.trans p2) p3 (allP_imp (fun y u ⟨a, h1, h2, h3⟩ => ⟨a, h1, h2, h3.1⟩) p4)⟩
theorem en_lcL {l : List α} {b : α → Bool} {f : β → List V} (g : α → β) {wi : TI} {gt : TG} {τ : α → L2.St → L2.St} {vs : List Nat} (src : EvI (fun _ => True) wi gt σ H l τ) (hz : l.length ≤ 40000) (hw : ∀ x, wipe (τ x (wipe σ vs)) vs = wipe σ vs)
    (ht : ∀ x ∈ l, ∀ H1, Ex H H1 → EvT t (τ x (wipe σ vs)) H1 (b x)) (he : ∀ x ∈ l, b x = true → ∀ H1, Ex H H1 → EvL te (τ x (wipe σ vs)) H1 (f (g x))) : EvNA (tLc wi gt t te vs) σ H (nL K f) ((l.filter b).map g) :=
  en_lcO (f := fun y => .lst (f y)) src hz hw ht he
theorem en_lcU {l : List α} {b : α → Bool} {f : β → List V} (g : α → β) {wi : TI} {gt : TG} {τ : α → L2.St → L2.St} {vs : List Nat} (src : EvI (fun _ => True) wi gt σ H l τ) (hz : l.length ≤ 40000) (hw : ∀ x, wipe (τ x (wipe σ vs)) vs = wipe σ vs)
    (ht : ∀ x ∈ l, ∀ H1, Ex H H1 → EvT t (τ x (wipe σ vs)) H1 (b x)) (he : ∀ x ∈ l, b x = true → ∀ H1, Ex H H1 → EvU te (τ x (wipe σ vs)) H1 (f (g x))) : EvNA (tLc wi gt t te vs) σ H (nT K f) ((l.filter b).map g) :=
  en_lcO (f := fun y => .tup (f y)) src hz hw ht he
theorem en_lcL1 {l : List α} {f : β → List V} (g : α → β) {wi : TI} {gt : TG} {τ : α → L2.St → L2.St} {vs : List Nat} (src : EvI (fun _ => True) wi gt σ H l τ) (hz : l.length ≤ 40000) (hw : ∀ x, wipe (τ x (wipe σ vs)) vs = wipe σ vs)
    (he : ∀ x ∈ l, ∀ H1, Ex H H1 → EvL te (τ x (wipe σ vs)) H1 (f (g x))) : EvNA (tLc wi gt tYes te vs) σ H (nL K f) (l.map g) := by
  have := en_lcL (K := K) (b := fun _ => true) (t := tYes) (te := te) (f := f) g src hz hw (fun x _ H1 _ H2 _ Q q => q H2 (Ex.refl _)) (fun x hx _ => he x hx)
  rwa [List.filter_eq_self.mpr (fun _ _ => rfl)] at this
theorem en_lcU1 {l : List α} {f : β → List V} (g : α → β) {wi : TI} {gt : TG} {τ : α → L2.St → L2.St} {vs : List Nat} (src : EvI (fun _ => True) wi gt σ H l τ) (hz : l.length ≤ 40000) (hw : ∀ x, wipe (τ x (wipe σ vs)) vs = wipe σ vs)
    (he : ∀ x ∈ l, ∀ H1, Ex H H1 → EvU te (τ x (wipe σ vs)) H1 (f (g x))) : EvNA (tLc wi gt tYes te vs) σ H (nT K f) (l.map g) := by
  have := en_lcU (K := K) (b := fun _ => true) (t := tYes) (te := te) (f := f) g src hz hw (fun x _ H1 _ H2 _ Q q => q H2 (Ex.refl _)) (fun x hx _ => he x hx)
  rwa [List.filter_eq_self.mpr (fun _ _ => rfl)] at this
end
end Ho

/-! Ho, part I: order of lists of texts; startswith; text times number; == of lists of lists -/
namespace Ho
open PySem PySem.Spec PyProof.Rows L2 Evl
def ltT : List Row → List Row → Bool
  | [], [] => false
  | [], _ :: _ => true
  | _ :: _, [] => false
  | a :: l, b :: m => if a = b then ltT l m else decide (a < b)
def rLeD (K : PySem.W.Frag) : R2 := fun x y H Q => ∃ d e : PyData, Dp K H x d ∧ Dp K H y e ∧ PySem.W.alike d e = true ∧ d ≠ .none ∧ min d.depth e.depth ≤ 60 ∧ Q (.bl (!PySem.W.dataLt e d)) H
theorem kop_leD {X : Cx} {K : PySem.W.Frag} (hu : X.A.units + 64 < cLine) (hK : X.K = K := by rfl) : OpR X (compareOp .LtE) (rLeD K) := by
  subst hK
  intro pins s σ H x y v u Q I rx ry h
  obtain ⟨d, e, hd, he, hal, hn, hdep, q⟩ := h
  obtain ⟨as, r1⟩ := Dp.reads I d x v hd rx
  obtain ⟨bs, r2⟩ := Dp.reads I e y u he ry
  exact PySem.W.le_data r1 r2 hal hn (by omega) ⟨.bl _, H, I, rfl, q⟩
theorem alike_S : ∀ l m : List Row, PySem.W.alikeAll (l.map dS) (m.map dS) = true
  | [], m => by unfold PySem.W.alikeAll; rfl
  | a :: l, [] => by unfold PySem.W.alikeAll; rfl
  | a :: l, b :: m => by
    rw [List.map_cons, List.map_cons, PySem.W.alikeAll, alike_S l m]
    show (PySem.W.alike (.str (S a)) (.str (S b)) && true) = true
    rw [PySem.W.alike]
    rfl
theorem toks_S : ∀ l m : List Row, PyProof.Rows.lexLt PyProof.Rows.itemOrd (PySem.W.keyToksAll (l.map dS)) (PySem.W.keyToksAll (m.map dS)) = ltT l m
  | [], [] => by
    show PyProof.Rows.lexLt PyProof.Rows.itemOrd (PySem.W.keyToksAll []) (PySem.W.keyToksAll []) = false
    rw [PySem.W.keyToksAll]
    exact PyProof.Rows.lex_self (O := PyProof.Rows.itemOrd) _ _ _
  | [], b :: m => by
    show PyProof.Rows.lexLt PyProof.Rows.itemOrd (PySem.W.keyToksAll []) (PySem.W.keyToksAll (dS b :: m.map dS)) = true
    rw [PySem.W.keyToksAll, PySem.W.toks_all_cons]
    exact (PyProof.Rows.lex_diff (O := PyProof.Rows.itemOrd) (by simp)).trans (by decide)
  | a :: l, [] => by
    show PyProof.Rows.lexLt PyProof.Rows.itemOrd (PySem.W.keyToksAll (dS a :: l.map dS)) (PySem.W.keyToksAll []) = false
    rw [PySem.W.keyToksAll, PySem.W.toks_all_cons]
    exact (PyProof.Rows.lex_diff (O := PyProof.Rows.itemOrd) (by simp)).trans (by decide)
  | a :: l, b :: m => by
    have hal : PySem.W.alike (dS a) (dS b) = true := by
      show PySem.W.alike (.str (S a)) (.str (S b)) = true
      rw [PySem.W.alike]
    rw [List.map_cons, List.map_cons]
    unfold ltT
    by_cases h : a = b
    · subst h
      rw [if_pos rfl, PySem.W.dataLt_all_yes hal (by show PyData.eqv (.str (S a)) (.str (S a)) = true; rw [PyData.eqv]; simp), toks_S l m]
    · rw [if_neg h, PySem.W.dataLt_all_no hal (by
        show PyData.eqv (.str (S a)) (.str (S b)) = false
        rw [PyData.eqv]
        exact beq_eq_false_iff_ne.mpr fun e => h (S_inj e))]
      exact PySem.W.dataLt_str _ _
section
variable {K : PySem.W.Frag} {σ : L2.St} {H H' : Hp} {ta tb tc te tx tl : TE} {t u : TT} {x y z v : V} {xs ys : List V} {i j k : Int} {a b : Row} {A : Addr → Prop}
theorem ev_leLS {l m : List Row} (h1 : EvQ K ta σ H (l.map VS)) (h2 : EvQ K tb σ H (m.map VS)) : Ev (tOp (rLeD K) ta tb) σ H (.bl (!ltT m l)) := fun H1 e Q q =>
  h1 H1 e _ fun p H2 e2 g1 => h2 H2 (e.trans e2) _ fun p' H3 e3 g2 => ⟨.list (l.map dS), .list (m.map dS), .lst (SL.q (K := K) (exl (K := K) e3 g1)) (dp_S l), .lst (SL.q g2) (dp_S m), by rw [PySem.W.alike]; exact alike_S l m, by simp, by
    rw [PyData.depth, PyData.depth, depth_S, depth_S]
    decide, by
    rw [PySem.W.dataLt_list, toks_S]
    exact q H3 (e2.trans e3)⟩
/-! startswith -/
theorem starts_S (a b : Row) : Txt.startswith (S a) (S b) = decide (b <+: a) := by
  unfold Txt.startswith
  rw [PySem.StrLaws.subAt_eq]
  show (decide (0 + (S b).length ≤ (S a).length) && ((a.drop 0).take b.length == b)) = _
  rw [S_len, S_len, List.drop_zero, Bool.eq_iff_iff]
  simp only [Bool.and_eq_true, decide_eq_true_eq, beq_iff_eq]
  constructor
  · rintro ⟨_, h⟩
    exact List.prefix_iff_eq_take.mpr h.symm
  · intro h
    exact ⟨by have := h.length_le; omega, (List.prefix_iff_eq_take.mp h).symm⟩
theorem ev_startswith (ha : Ev ta σ H (VS a)) (hb : Ev tb σ H (VS b)) : Ev (tM1 (fun x xs H Q => ∃ a b, x = .str a ∧ xs = [.str b] ∧ Q (.bl (Txt.startswith a b)) H) ta tb) σ H (.bl (decide (b <+: a))) := fun H1 e Q q =>
  ha H1 e _ fun H2 e2 => ⟨⟨_, rfl⟩, hb H2 (e.trans e2) _ fun H3 e3 => ⟨S a, S b, rfl, rfl, by rw [starts_S]; exact q H3 (e2.trans e3)⟩⟩
/-! text * number -/
def rMulS : R2 := fun x y H Q => ∃ (a : Row) (i : Int), x = VS a ∧ y = .int i ∧ 0 ≤ i ∧ i ≤ 1000 ∧ a.length ≤ 40 ∧ Q (VS (List.replicate i.toNat a).flatten) H
theorem foldl_cps (a : Row) : ∀ (n : Nat) (acc : Array Nat), (List.replicate n (S a).cps).foldl (· ++ ·) acc = acc ++ ((List.replicate n a).flatten).toArray
  | 0, acc => by simp
  | n + 1, acc => by
    rw [List.replicate_succ, List.foldl_cons, foldl_cps a n, List.replicate_succ, List.flatten_cons]
    show (acc ++ a.toArray) ++ _ = _
    simp
theorem op_mulS {X : Cx} : OpR X (binaryOp .Mult) rMulS := by
  intro pins s σ H x y v u Q I rx ry h
  obtain ⟨a, i, rfl, rfl, h0, h1, hl, q⟩ := h
  obtain ⟨t, rfl⟩ := rx
  obtain ⟨t', rfl⟩ := ry
  have hS : (S a).length = a.length := S_len a
  refine PySem.P.mul_str (by
    rw [decide_eq_false (show ¬ i < -(2 ^ 63 : Int) by omega), decide_eq_false (show ¬ i ≥ 2 ^ 63 by omega)]; rfl) (fun g _ => ?_) (fun g _ => ?_) ?_
  · intro hh
    have : (1 : Int) ≤ (2 ^ 63 - 1) / i := by
      refine Int.le_ediv_of_mul_le (by omega) (by omega)
    have h2 : (40 : Int) ≤ (2 ^ 63 - 1) / i := Int.le_ediv_of_mul_le (by omega) (by omega)
    omega
  · have hb : (S a).length * i.toNat ≤ 40 * 1000 := Nat.mul_le_mul (by omega) (by omega)
    exact PyProof.Rows.short24 (Nat.le_trans hb (by decide))
  · by_cases h2 : i < 1
    · rw [if_pos h2]
      have hi : i = 0 := by omega
      subst hi
      exact ⟨by decide, ⟨VS [], H, I.tok _, ⟨_, rfl⟩, q⟩⟩
    · rw [if_neg h2]
      by_cases h3 : (i == 1 || (S a).length == 0) = true
      · rw [if_pos h3]
        have e : (List.replicate i.toNat a).flatten = a := by
          rw [Bool.or_eq_true, beq_iff_eq, beq_iff_eq] at h3
          rcases h3 with h3 | h3
          · subst h3
            simp
          · rw [hS] at h3
            have : a = [] := List.length_eq_zero_iff.mp h3
            subst this
            simp
        exact ⟨VS a, H, I, ⟨t, rfl⟩, e ▸ q⟩
      · rw [if_neg h3]
        have e : (⟨(List.replicate i.toNat (S a).cps).foldl (· ++ ·) #[]⟩ : Str) = S (List.replicate i.toNat a).flatten := by
          rw [foldl_cps]
          show (⟨#[] ++ ((List.replicate i.toNat a).flatten).toArray⟩ : Str) = ⟨((List.replicate i.toNat a).flatten).toArray⟩
          rw [Array.empty_append]
        rw [e]
        refine ⟨?_, ⟨VS (List.replicate i.toNat a).flatten, H, I.tok _, ⟨_, rfl⟩, q⟩⟩
        rw [S_len, List.length_flatten, List.map_replicate, List.sum_replicate_nat]
        have hb : i.toNat * a.length ≤ 1000 * 40 := Nat.mul_le_mul (by omega) hl
        exact Nat.le_trans hb (by decide)
theorem ev_mulS (ha : Ev ta σ H (VS a)) (hb : Ev tb σ H (.int i)) (h0 : 0 ≤ i) (h1 : i ≤ 1000) (hl : a.length ≤ 40) : Ev (tOp rMulS ta tb) σ H (VS (List.replicate i.toNat a).flatten) := fun H1 e Q q =>
  ha H1 e _ fun H2 e2 => hb H2 (e.trans e2) _ fun H3 e3 => ⟨a, i, rfl, rfl, h0, h1, hl, q H3 (e2.trans e3)⟩
theorem el_cat2 (ha : EvH ta σ H xs) (hb : EvH tb σ H ys) (hz : xs.length + ys.length ≤ 100000) : EvL (tOp rCat ta tb) σ H (xs ++ ys) := fun H1 e Q q =>
  ha H1 e _ fun p H2 e2 h2 => hb H2 (e.trans e2) _ fun p' H3 e3 h3 => ⟨p, p', _, _, rfl, rfl, e3 _ _ h2, h3, sz_of hz, fun l hl => q l _ (fresh_back (e2.trans e3) hl) ((e2.trans e3).trans (Ex.new hl)) upd_same⟩
theorem el_ifL {bb : Bool} (ht : EvT t σ H bb) (h1 : bb = true → EvL ta σ H xs) (h2 : bb = false → EvL tb σ H ys) : EvL (tIf t ta tb) σ H (if bb then xs else ys) := fun H1 e Q q =>
  ht H1 e _ fun H2 e2 => by
    cases bb with
    | true =>
      show ta σ H2 Q
      exact h1 rfl H2 (e.trans e2) Q fun p H3 hp e3 h3 => q p H3 (fresh_back e2 hp) (e2.trans e3) h3
    | false =>
      show tb σ H2 Q
      exact h2 rfl H2 (e.trans e2) Q fun p H3 hp e3 h3 => q p H3 (fresh_back e2 hp) (e2.trans e3) h3
end

/-! ### == of lists of lists of texts -/
def dLS (l : List Row) : PyData := .list (l.map dS)
theorem eqvAll_LS : ∀ l m : List (List Row), PyData.eqvAll (l.map dLS) (m.map dLS) = decide (l = m)
  | [], [] => by simp [PyData.eqvAll]
  | [], b :: m => by simp [PyData.eqvAll]
  | a :: l, [] => by simp [PyData.eqvAll]
  | a :: l, b :: m => by
    rw [List.map_cons, List.map_cons, PyData.eqvAll, eqvAll_LS l m]
    show (PyData.eqv (.list (a.map dS)) (.list (b.map dS)) && _) = _
    rw [PyData.eqv, eqvAll_S]
    by_cases h : a = b
    · subst h; simp
    · simp [h]
theorem lay_LS : ∀ l : List (List Row), (∀ r ∈ l, SmT r) → PyData.canLayAll0 (l.map dLS) = true
  | [], _ => by simp [PyData.canLayAll0]
  | a :: l, h => by
    rw [List.map_cons, PyData.canLayAll0, lay_LS l fun r hr => h r (List.mem_cons_of_mem _ hr)]
    show (PyData.canLay0 (.list (a.map dS)) && true) = true
    rw [PyData.canLay0, lay_S a (h a List.mem_cons_self)]
    rfl
theorem depth_LS : ∀ l : List (List Row), PyData.depthAll (l.map dLS) ≤ 1
  | [] => by simp [PyData.depthAll]
  | a :: l => by
    rw [List.map_cons, PyData.depthAll]
    have := depth_LS l
    show max (PyData.depth (.list (a.map dS))) _ ≤ 1
    rw [PyData.depth, depth_S]
    omega
theorem shaped_LS {l : List (List Row)} (h : ∀ r ∈ l, SmT r) : SeqAt.shaped (.list (l.map dLS)) = true := by
  unfold SeqAt.shaped
  rw [PyData.canLay0, lay_LS l h, PyData.depth]
  have := depth_LS l
  simp
  omega
theorem dp_LS {K : PySem.W.Frag} {H : Hp} : ∀ {l : List (List Row)} {vs : List V}, AllP (l.map (kL K Txts tru)) vs H → DpAll K H vs (l.map dLS)
  | [], vs, h => by
    obtain rfl : vs = [] := h
    exact .nil
  | a :: l, _, ⟨v, r, e, ⟨p, ep, h1, _⟩, t⟩ => by
    subst e ep
    exact .cons (.lst (slof h1).q (dp_S a)) (dp_LS t)
section
variable {K : PySem.W.Frag} {σ : L2.St} {H : Hp} {ta tb : TE}
theorem ev_neLLS {l m : List (List Row)} (h1 : EvG ta σ H (isA K (kL K Txts tru) l)) (h2 : EvG tb σ H (isA K (kL K Txts tru) m)) (s1 : ∀ r ∈ l, SmT r) (s2 : ∀ r ∈ m, SmT r) : Ev (tOp (rNeD K) ta tb) σ H (.bl (!decide (l = m))) := fun H1 e Q q =>
  h1 H1 e _ fun v H2 e2 g1 => h2 H2 (e.trans e2) _ fun v' H3 e3 g2 => by
    obtain ⟨p, rfl, vs, q1, q2⟩ := mon_A (mkL) l _ _ _ e3 g1
    obtain ⟨p', rfl, vs', q3, q4⟩ := g2
    refine ⟨.list (l.map dLS), .list (m.map dLS), .lst q1.q (dp_LS q2), .lst q3.q (dp_LS q4), shaped_LS s1, shaped_LS s2, ?_⟩
    rw [PyData.eqv, eqvAll_LS]
    exact q H3 (e2.trans e3)
theorem ev_eqLLS {l m : List (List Row)} (h1 : EvG ta σ H (isA K (kL K Txts tru) l)) (h2 : EvG tb σ H (isA K (kL K Txts tru) m)) (s1 : ∀ r ∈ l, SmT r) (s2 : ∀ r ∈ m, SmT r) : Ev (tOp (rEqD K) ta tb) σ H (.bl (decide (l = m))) := fun H1 e Q q =>
  h1 H1 e _ fun v H2 e2 g1 => h2 H2 (e.trans e2) _ fun v' H3 e3 g2 => by
    obtain ⟨p, rfl, vs, q1, q2⟩ := mon_A (mkL) l _ _ _ e3 g1
    obtain ⟨p', rfl, vs', q3, q4⟩ := g2
    refine ⟨.list (l.map dLS), .list (m.map dLS), .lst q1.q (dp_LS q2), .lst q3.q (dp_LS q4), shaped_LS s1, shaped_LS s2, ?_⟩
    rw [PyData.eqv, eqvAll_LS]
    exact q H3 (e2.trans e3)
end
end Ho

/-! Ho, part J: data of any depth; what the slots hold: shared or owned -/
namespace Ho
open PySem PySem.Spec PyProof.Rows L2 Evl

/-- the kind of an object -/
inductive Sh where
  | l | t | d (ks : List Key) | e (ks : List (List Key)) | i (C : Addr) (ns : List Str)
/-- data -/
inductive Dt where
  | sc (v : V)
  | node (s : Sh) (ds : List Dt)
/-- who owns it: shared; its own object and its items as told -/
inductive Pat where
  | sh | ow (p : Pat) | fs (ps : List Pat)
abbrev Dt.lst (ds : List Dt) : Dt := .node .l ds
abbrev Dt.tup (ds : List Dt) : Dt := .node .t ds
abbrev uI (i : Int) : Dt := .sc (.int i)
abbrev uS (r : Row) : Dt := .sc (VS r)
abbrev uB (b : Bool) : Dt := .sc (.bl b)
abbrev uN : Dt := .sc .non
abbrev uL {α : Type} (f : α → Dt) (xs : List α) : Dt := .node .l (xs.map f)
abbrev uT {α β : Type} (f : α → Dt) (g : β → Dt) (p : α × β) : Dt := .node .t [f p.1, g p.2]
abbrev uT3 {α β γ : Type} (f : α → Dt) (g : β → Dt) (h : γ → Dt) (p : α × β × γ) : Dt := .node .t [f p.1, g p.2.1, h p.2.2]
/-- a dict of texts to data -/
abbrev uDS {α : Type} (f : α → Dt) (r : List (Row × α)) : Dt := .node (.d (r.map fun p => .inr (S p.1))) (r.map fun p => f p.2)
/-- a dict of numbers to data -/
abbrev uDI {α : Type} (f : α → Dt) (r : List (Int × α)) : Dt := .node (.d (r.map fun p => .inl p.1)) (r.map fun p => f p.2)
abbrev uD (r : Dic) : Dt := uDS uS r

/-- what stands at a, its items vs -/
def ObAt (H : Hp) : Sh → Addr → List V → Prop
  | .l, a, vs => H a = some (.lst vs)
  | .t, a, vs => H a = some (.tup vs)
  | .d ks, a, vs => H a = some (.dK (ks.zip vs)) ∧ ks.length = vs.length
  | .e ks, a, vs => H a = some (.dT (ks.zip vs)) ∧ ks.length = vs.length
  | .i C ns, a, vs => ∃ dx, H a = some (.ins C dx (ns.zip vs)) ∧ ns.length = vs.length
theorem ObAt.ex {H : Hp} {s : Sh} {a : Addr} {vs : List V} (h : ObAt H s a vs) : ∃ o, H a = some o := by
  cases s with
  | l => exact ⟨_, h⟩
  | t => exact ⟨_, h⟩
  | d ks => exact ⟨_, h.1⟩
  | e ks => exact ⟨_, h.1⟩
  | i C ns => exact ⟨_, h.choose_spec.1⟩
theorem ObAt.go {H H' : Hp} {s : Sh} {a : Addr} {vs : List V} (k : ∀ o, H a = some o → H' a = some o) (h : ObAt H s a vs) : ObAt H' s a vs := by
  cases s with
  | l => exact k _ h
  | t => exact k _ h
  | d ks => exact ⟨k _ h.1, h.2⟩
  | e ks => exact ⟨k _ h.1, h.2⟩
  | i C ns => obtain ⟨dx, h1, h2⟩ := h; exact ⟨dx, k _ h1, h2⟩

/-! v is the data d, shared: nothing of it stands in M -/
mutual
def Rp (M : Addr → Prop) (H : Hp) : Dt → V → Prop
  | .sc w, v => v = w
  | .node s ds, v => ∃ a vs, v = .ref a ∧ ¬ M a ∧ ObAt H s a vs ∧ RpL M H ds vs
def RpL (M : Addr → Prop) (H : Hp) : List Dt → List V → Prop
  | [], vs => vs = []
  | d :: ds, vs => ∃ v r, vs = v :: r ∧ Rp M H d v ∧ RpL M H ds r
end
/-! v is the data d, owned as p tells; bs: what is owned -/
mutual
def Ow (M : Addr → Prop) (H : Hp) : Dt → Pat → V → List Addr → Prop
  | .sc w, p, v, bs => p = .sh ∧ v = w ∧ bs = []
  | .node s ds, .sh, v, bs => bs = [] ∧ ∃ a vs, v = .ref a ∧ ¬ M a ∧ ObAt H s a vs ∧ RpL M H ds vs
  | .node s ds, .ow p, v, bs => ∃ a vs cs, v = .ref a ∧ ObAt H s a vs ∧ bs = a :: cs ∧ OwF M H ds (List.replicate ds.length p) vs cs
  | .node s ds, .fs ps, v, bs => ∃ a vs cs, v = .ref a ∧ ObAt H s a vs ∧ bs = a :: cs ∧ OwF M H ds ps vs cs
def OwF (M : Addr → Prop) (H : Hp) : List Dt → List Pat → List V → List Addr → Prop
  | [], ps, vs, cs => ps = [] ∧ vs = [] ∧ cs = []
  | d :: ds, ps, vs, cs => ∃ p pr v r b c, ps = p :: pr ∧ vs = v :: r ∧ cs = b ++ c ∧ Ow M H d p v b ∧ OwF M H ds pr r c
end
theorem ow_sh {M : Addr → Prop} {H : Hp} {d : Dt} {v : V} {bs : List Addr} : Ow M H d .sh v bs ↔ bs = [] ∧ Rp M H d v := by
  cases d with
  | sc w =>
    unfold Ow Rp
    constructor
    · rintro ⟨_, h1, h2⟩; exact ⟨h2, h1⟩
    · rintro ⟨h1, h2⟩; exact ⟨rfl, h2, h1⟩
  | node s ds =>
    unfold Ow Rp
    exact Iff.rfl
/-- what is kept and shared -/
def Go (M : Addr → Prop) (H : Hp) (M' : Addr → Prop) (H' : Hp) : Prop := ∀ a o, ¬ M a → H a = some o → H' a = some o ∧ ¬ M' a
mutual
theorem Rp.go {M M' : Addr → Prop} {H H' : Hp} (g : Go M H M' H') : ∀ {d : Dt} {v : V}, Rp M H d v → Rp M' H' d v
  | .sc w, v, h => by
    unfold Rp at h ⊢
    exact h
  | .node s ds, v, h => by
    unfold Rp at h ⊢
    obtain ⟨a, vs, e, n, o, r⟩ := h
    obtain ⟨u, hu⟩ := ObAt.ex o
    exact ⟨a, vs, e, (g a u n hu).2, ObAt.go (fun u hu => (g a u n hu).1) o, RpL.go g r⟩
theorem RpL.go {M M' : Addr → Prop} {H H' : Hp} (g : Go M H M' H') : ∀ {ds : List Dt} {vs : List V}, RpL M H ds vs → RpL M' H' ds vs
  | [], vs, h => by
    unfold RpL at h ⊢
    exact h
  | d :: ds, vs, h => by
    unfold RpL at h ⊢
    obtain ⟨v, r, e, p, t⟩ := h
    exact ⟨v, r, e, Rp.go g p, RpL.go g t⟩
end
mutual
theorem Ow.go {M M' : Addr → Prop} {H H' : Hp} (g : Go M H M' H') : ∀ {d : Dt} {p : Pat} {v : V} {bs : List Addr}, (∀ a ∈ bs, ∀ o, H a = some o → H' a = some o) → Ow M H d p v bs → Ow M' H' d p v bs
  | .sc w, p, v, bs, _, h => by
    unfold Ow at h ⊢
    exact h
  | .node s ds, .sh, v, bs, k, h => by
    rw [ow_sh] at h ⊢
    exact ⟨h.1, h.2.go g⟩
  | .node s ds, .ow p, v, bs, k, h => by
    unfold Ow at h ⊢
    obtain ⟨a, vs, cs, e, o, rfl, f⟩ := h
    exact ⟨a, vs, cs, e, ObAt.go (k a List.mem_cons_self) o, rfl, OwF.go g (fun b hb => k b (List.mem_cons_of_mem _ hb)) f⟩
  | .node s ds, .fs ps, v, bs, k, h => by
    unfold Ow at h ⊢
    obtain ⟨a, vs, cs, e, o, rfl, f⟩ := h
    exact ⟨a, vs, cs, e, ObAt.go (k a List.mem_cons_self) o, rfl, OwF.go g (fun b hb => k b (List.mem_cons_of_mem _ hb)) f⟩
theorem OwF.go {M M' : Addr → Prop} {H H' : Hp} (g : Go M H M' H') : ∀ {ds : List Dt} {ps : List Pat} {vs : List V} {bs : List Addr}, (∀ a ∈ bs, ∀ o, H a = some o → H' a = some o) → OwF M H ds ps vs bs → OwF M' H' ds ps vs bs
  | [], ps, vs, bs, _, h => by
    unfold OwF at h ⊢
    exact h
  | d :: ds, ps, vs, bs, k, h => by
    unfold OwF at h ⊢
    obtain ⟨p, pr, v, r, b, c, e1, e2, rfl, h1, h2⟩ := h
    exact ⟨p, pr, v, r, b, c, e1, e2, rfl, Ow.go g (fun x hx => k x (List.mem_append_left _ hx)) h1, OwF.go g (fun x hx => k x (List.mem_append_right _ hx)) h2⟩
end
/-! what was owned is shared -/
mutual
theorem Ow.fr {M M' : Addr → Prop} {H : Hp} (g : ∀ a, ¬ M a → ¬ M' a) : ∀ {d : Dt} {p : Pat} {v : V} {bs : List Addr}, (∀ a ∈ bs, ¬ M' a) → Ow M H d p v bs → Rp M' H d v
  | .sc w, p, v, bs, _, h => by
    unfold Ow at h
    unfold Rp
    exact h.2.1
  | .node s ds, .sh, v, bs, k, h => by
    rw [ow_sh] at h
    exact h.2.go fun a o n e => ⟨e, g a n⟩
  | .node s ds, .ow p, v, bs, k, h => by
    unfold Ow at h
    unfold Rp
    obtain ⟨a, vs, cs, e, o, rfl, f⟩ := h
    exact ⟨a, vs, e, k a List.mem_cons_self, o, OwF.fr g (fun b hb => k b (List.mem_cons_of_mem _ hb)) f⟩
  | .node s ds, .fs ps, v, bs, k, h => by
    unfold Ow at h
    unfold Rp
    obtain ⟨a, vs, cs, e, o, rfl, f⟩ := h
    exact ⟨a, vs, e, k a List.mem_cons_self, o, OwF.fr g (fun b hb => k b (List.mem_cons_of_mem _ hb)) f⟩
theorem OwF.fr {M M' : Addr → Prop} {H : Hp} (g : ∀ a, ¬ M a → ¬ M' a) : ∀ {ds : List Dt} {ps : List Pat} {vs : List V} {bs : List Addr}, (∀ a ∈ bs, ¬ M' a) → OwF M H ds ps vs bs → RpL M' H ds vs
  | [], ps, vs, bs, _, h => by
    unfold OwF at h
    unfold RpL
    exact h.2.1
  | d :: ds, ps, vs, bs, k, h => by
    unfold OwF at h
    unfold RpL
    obtain ⟨p, pr, v, r, b, c, e1, e2, rfl, h1, h2⟩ := h
    exact ⟨v, r, e2, Ow.fr g (fun x hx => k x (List.mem_append_left _ hx)) h1, OwF.fr g (fun x hx => k x (List.mem_append_right _ hx)) h2⟩
end
mutual
theorem Ow.al {M : Addr → Prop} {H : Hp} : ∀ {d : Dt} {p : Pat} {v : V} {bs : List Addr}, Ow M H d p v bs → ∀ a ∈ bs, H a ≠ none
  | .sc w, p, v, bs, h => by
    unfold Ow at h
    rw [h.2.2]
    intro a ha; cases ha
  | .node s ds, .sh, v, bs, h => by
    rw [ow_sh] at h
    rw [h.1]
    intro a ha; cases ha
  | .node s ds, .ow p, v, bs, h => by
    unfold Ow at h
    obtain ⟨a, vs, cs, e, o, rfl, f⟩ := h
    intro b hb
    rcases List.mem_cons.mp hb with rfl | hb
    · obtain ⟨u, hu⟩ := ObAt.ex o
      rw [hu]; simp
    · exact OwF.al f b hb
  | .node s ds, .fs ps, v, bs, h => by
    unfold Ow at h
    obtain ⟨a, vs, cs, e, o, rfl, f⟩ := h
    intro b hb
    rcases List.mem_cons.mp hb with rfl | hb
    · obtain ⟨u, hu⟩ := ObAt.ex o
      rw [hu]; simp
    · exact OwF.al f b hb
theorem OwF.al {M : Addr → Prop} {H : Hp} : ∀ {ds : List Dt} {ps : List Pat} {vs : List V} {bs : List Addr}, OwF M H ds ps vs bs → ∀ a ∈ bs, H a ≠ none
  | [], ps, vs, bs, h => by
    unfold OwF at h
    rw [h.2.2]
    intro a ha; cases ha
  | d :: ds, ps, vs, bs, h => by
    unfold OwF at h
    obtain ⟨p, pr, v, r, b, c, e1, e2, rfl, h1, h2⟩ := h
    intro x hx
    rcases List.mem_append.mp hx with hx | hx
    · exact Ow.al h1 x hx
    · exact OwF.al h2 x hx
end
/-- the items shared -/
theorem owF_sh {M : Addr → Prop} {H : Hp} : ∀ {ds : List Dt} {vs : List V} {cs : List Addr}, OwF M H ds (List.replicate ds.length .sh) vs cs ↔ cs = [] ∧ RpL M H ds vs
  | [], vs, cs => by
    unfold OwF RpL
    simp [and_comm]
  | d :: ds, vs, cs => by
    unfold OwF RpL
    constructor
    · rintro ⟨p, pr, v, r, b, c, e1, e2, e3, h1, h2⟩
      rw [List.length_cons, List.replicate_succ] at e1
      obtain ⟨rfl, rfl⟩ := List.cons.inj e1
      rw [ow_sh] at h1
      rw [owF_sh] at h2
      rw [e3, h1.1, h2.1]
      exact ⟨rfl, v, r, e2, h1.2, h2.2⟩
    · rintro ⟨rfl, v, r, e, h1, h2⟩
      exact ⟨.sh, List.replicate ds.length .sh, v, r, [], [], rfl, e, rfl, ow_sh.mpr ⟨rfl, h1⟩, owF_sh.mpr ⟨rfl, h2⟩⟩
/-- a flat owned one -/
theorem ow_mu {M : Addr → Prop} {H : Hp} {s : Sh} {ds : List Dt} {v : V} {bs : List Addr} : Ow M H (.node s ds) (.ow .sh) v bs ↔ ∃ a vs, v = .ref a ∧ ObAt H s a vs ∧ bs = [a] ∧ RpL M H ds vs := by
  unfold Ow
  constructor
  · rintro ⟨a, vs, cs, e, o, e2, f⟩
    rw [owF_sh] at f
    rw [f.1] at e2
    exact ⟨a, vs, e, o, e2, f.2⟩
  · rintro ⟨a, vs, e, o, e2, f⟩
    exact ⟨a, vs, [], e, o, e2, owF_sh.mpr ⟨rfl, f⟩⟩
theorem RpL.len {M : Addr → Prop} {H : Hp} : ∀ {ds : List Dt} {vs : List V}, RpL M H ds vs → vs.length = ds.length
  | [], vs, h => by
    unfold RpL at h
    rw [h]; rfl
  | d :: ds, vs, h => by
    unfold RpL at h
    obtain ⟨v, r, rfl, _, t⟩ := h
    rw [List.length_cons, List.length_cons, t.len]
theorem RpL.at {M : Addr → Prop} {H : Hp} : ∀ {ds : List Dt} {vs : List V}, RpL M H ds vs → ∀ (i : Nat) (d : Dt), ds[i]? = some d → ∃ v, vs[i]? = some v ∧ Rp M H d v
  | [], vs, h, i, d, e => by simp at e
  | d0 :: ds, vs, h, i, d, e => by
    unfold RpL at h
    obtain ⟨v, r, rfl, p, t⟩ := h
    cases i with
    | zero =>
      simp at e
      subst e
      exact ⟨v, rfl, p⟩
    | succ i =>
      simp at e
      simpa using t.at i d e
theorem RpL.app {M : Addr → Prop} {H : Hp} : ∀ {ds es : List Dt} {vs ws : List V}, RpL M H ds vs → RpL M H es ws → RpL M H (ds ++ es) (vs ++ ws)
  | [], es, vs, ws, h, k => by
    unfold RpL at h
    rw [h]; exact k
  | d :: ds, es, vs, ws, h, k => by
    unfold RpL at h
    obtain ⟨v, r, rfl, p, t⟩ := h
    show RpL M H (d :: (ds ++ es)) _
    unfold RpL
    exact ⟨v, r ++ ws, rfl, p, t.app k⟩
theorem RpL.one {M : Addr → Prop} {H : Hp} {d : Dt} {v : V} (h : Rp M H d v) : RpL M H [d] [v] := by
  unfold RpL
  exact ⟨v, [], rfl, h, by unfold RpL; rfl⟩
theorem RpL.take {M : Addr → Prop} {H : Hp} : ∀ (n : Nat) {ds : List Dt} {vs : List V}, RpL M H ds vs → RpL M H (ds.take n) (vs.take n)
  | 0, ds, vs, h => by simp [RpL]
  | n + 1, [], vs, h => by
    unfold RpL at h
    rw [h]; simp [RpL]
  | n + 1, d :: ds, vs, h => by
    unfold RpL at h
    obtain ⟨v, r, rfl, p, t⟩ := h
    show RpL M H (d :: ds.take n) (v :: r.take n)
    unfold RpL
    exact ⟨v, _, rfl, p, t.take n⟩
theorem RpL.drop {M : Addr → Prop} {H : Hp} : ∀ (n : Nat) {ds : List Dt} {vs : List V}, RpL M H ds vs → RpL M H (ds.drop n) (vs.drop n)
  | 0, ds, vs, h => h
  | n + 1, [], vs, h => by
    unfold RpL at h
    rw [h]; simp [RpL]
  | n + 1, d :: ds, vs, h => by
    unfold RpL at h
    obtain ⟨v, r, rfl, p, t⟩ := h
    exact t.drop n
theorem RpL.rev {M : Addr → Prop} {H : Hp} : ∀ {ds : List Dt} {vs : List V}, RpL M H ds vs → RpL M H ds.reverse vs.reverse
  | [], vs, h => by
    unfold RpL at h
    rw [h]; simp [RpL]
  | d :: ds, vs, h => by
    unfold RpL at h
    obtain ⟨v, r, rfl, p, t⟩ := h
    rw [List.reverse_cons, List.reverse_cons]
    exact t.rev.app (RpL.one p)
theorem RpL.set {M : Addr → Prop} {H : Hp} {d : Dt} {v : V} (h : Rp M H d v) : ∀ (i : Nat) {ds : List Dt} {vs : List V}, RpL M H ds vs → RpL M H (ds.set i d) (vs.set i v)
  | i, [], vs, k => by
    unfold RpL at k
    rw [k]; simp [RpL]
  | 0, e :: ds, vs, k => by
    unfold RpL at k
    obtain ⟨u, r, rfl, p, t⟩ := k
    show RpL M H (d :: ds) (v :: r)
    unfold RpL
    exact ⟨v, r, rfl, h, t⟩
  | i + 1, e :: ds, vs, k => by
    unfold RpL at k
    obtain ⟨u, r, rfl, p, t⟩ := k
    show RpL M H (e :: ds.set i d) (u :: r.set i v)
    unfold RpL
    exact ⟨u, _, rfl, p, RpL.set h i t⟩
theorem RpL.rep {M : Addr → Prop} {H : Hp} {ds : List Dt} {vs : List V} (h : RpL M H ds vs) : ∀ n : Nat, RpL M H (List.replicate n ds).flatten (List.replicate n vs).flatten
  | 0 => by simp [RpL]
  | n + 1 => by
    rw [List.replicate_succ, List.replicate_succ, List.flatten_cons, List.flatten_cons]
    exact h.app (RpL.rep h n)
/-- values alone -/
theorem rpL_sc {M : Addr → Prop} {H : Hp} {α : Type} {g : α → V} : ∀ {xs : List α} {vs : List V}, RpL M H (xs.map fun x => Dt.sc (g x)) vs ↔ vs = xs.map g
  | [], vs => by
    rw [List.map_nil, List.map_nil]
    unfold RpL
    exact Iff.rfl
  | x :: xs, vs => by
    rw [List.map_cons, List.map_cons]
    unfold RpL
    constructor
    · rintro ⟨v, r, rfl, p, t⟩
      unfold Rp at p
      rw [p, rpL_sc.mp t]
    · rintro rfl
      exact ⟨g x, xs.map g, rfl, by unfold Rp; rfl, rpL_sc.mpr rfl⟩
/-- as known with nothing owned -/
abbrev Mo : Addr → Prop := fun _ => False
mutual
theorem Ow.rd {M : Addr → Prop} {H : Hp} : ∀ {d : Dt} {p : Pat} {v : V} {bs : List Addr}, Ow M H d p v bs → Rp Mo H d v
  | d, p, v, bs, h => Ow.fr (M' := Mo) (fun _ _ z => z) (fun _ _ z => z) h
end

/-! ### the slots -/
inductive Sl where
  | una | any | own (d : Dt) (p : Pat)
abbrev st (d : Dt) : Sl := .own d .sh
abbrev mu (d : Dt) : Sl := .own d (.ow .sh)
def OkL (M : Addr → Prop) (H : Hp) : List Sl → List (Option V) → List Addr → Prop
  | [], σ, as => σ = [] ∧ as = []
  | .una :: ρ, σ, as => ∃ r, σ = none :: r ∧ OkL M H ρ r as
  | .any :: ρ, σ, as => ∃ x r, σ = x :: r ∧ OkL M H ρ r as
  | .own d p :: ρ, σ, as => ∃ v r bs cs, σ = some v :: r ∧ as = bs ++ cs ∧ Ow M H d p v bs ∧ OkL M H ρ r cs
theorem OkL.go {M M' : Addr → Prop} {H H' : Hp} (g : Go M H M' H') : ∀ {ρ : List Sl} {σ : List (Option V)} {as : List Addr}, (∀ a ∈ as, ∀ o, H a = some o → H' a = some o) → OkL M H ρ σ as → OkL M' H' ρ σ as
  | [], σ, as, k, h => h
  | .una :: ρ, σ, as, k, ⟨r, e, t⟩ => ⟨r, e, OkL.go g k t⟩
  | .any :: ρ, σ, as, k, ⟨x, r, e, t⟩ => ⟨x, r, e, OkL.go g k t⟩
  | .own d p :: ρ, σ, as, k, ⟨v, r, bs, cs, e, ea, o, t⟩ => by
    subst ea
    exact ⟨v, r, bs, cs, e, rfl, o.go g fun a ha => k a (List.mem_append_left _ ha), OkL.go g (fun a ha => k a (List.mem_append_right _ ha)) t⟩
theorem OkL.al {M : Addr → Prop} {H : Hp} : ∀ {ρ : List Sl} {σ : List (Option V)} {as : List Addr}, OkL M H ρ σ as → ∀ a ∈ as, H a ≠ none
  | [], σ, as, h => by
    rw [h.2]
    intro a ha; cases ha
  | .una :: ρ, σ, as, ⟨r, e, t⟩ => t.al
  | .any :: ρ, σ, as, ⟨x, r, e, t⟩ => t.al
  | .own d p :: ρ, σ, as, ⟨v, r, bs, cs, e, ea, o, t⟩ => by
    subst ea
    intro a ha
    rcases List.mem_append.mp ha with ha | ha
    · exact o.al a ha
    · exact t.al a ha
/-- one slot apart -/
theorem OkL.out {M : Addr → Prop} {H : Hp} {d : Dt} {p : Pat} : ∀ {i : Nat} {ρ : List Sl} {σ : List (Option V)} {as : List Addr}, OkL M H ρ σ as → ρ[i]? = some (.own d p) →
    ∃ v bs cs, σ[i]? = some (some v) ∧ Ow M H d p v bs ∧ OkL M H (ρ.set i .any) σ cs ∧ (bs ++ cs).Perm as
  | i, [], σ, as, h, e => by simp at e
  | 0, s :: ρ, σ, as, h, e => by
    simp at e
    subst e
    obtain ⟨v, r, bs, cs, rfl, rfl, o, t⟩ := h
    exact ⟨v, bs, cs, rfl, o, ⟨some v, r, rfl, t⟩, List.Perm.refl _⟩
  | i + 1, .una :: ρ, σ, as, ⟨r, es, t⟩, e => by
    subst es
    obtain ⟨v, bs, cs, h1, h2, h3, h4⟩ := OkL.out (i := i) t (by simpa using e)
    exact ⟨v, bs, cs, by simpa using h1, h2, ⟨r, rfl, h3⟩, h4⟩
  | i + 1, .any :: ρ, σ, as, ⟨x, r, es, t⟩, e => by
    subst es
    obtain ⟨v, bs, cs, h1, h2, h3, h4⟩ := OkL.out (i := i) t (by simpa using e)
    exact ⟨v, bs, cs, by simpa using h1, h2, ⟨x, r, rfl, h3⟩, h4⟩
  | i + 1, .own d' p' :: ρ, σ, as, ⟨v', r, bs', cs', es, ea, o, t⟩, e => by
    subst es ea
    obtain ⟨v, bs, cs, h1, h2, h3, h4⟩ := OkL.out (i := i) t (by simpa using e)
    refine ⟨v, bs, bs' ++ cs, by simpa using h1, h2, ⟨v', r, bs', cs, rfl, rfl, o, h3⟩, ?_⟩
    rw [← List.append_assoc]
    exact ((List.perm_append_comm (l₁ := bs) (l₂ := bs')).append_right cs).trans (by rw [List.append_assoc]; exact h4.append_left bs')
/-- a slot stored anew -/
theorem OkL.set {M : Addr → Prop} {H : Hp} {d : Dt} {p : Pat} {v : V} {bs : List Addr} (w : Ow M H d p v bs) : ∀ {i : Nat} {ρ : List Sl} {σ : List (Option V)} {as : List Addr}, OkL M H ρ σ as →
    ∃ b0 cs as', (b0 ++ cs).Perm as ∧ OkL M H (ρ.set i (.own d p)) (σ.set i (some v)) as' ∧ (as' = cs ∨ as'.Perm (bs ++ cs))
  | i, [], σ, as, h => by
    obtain ⟨rfl, rfl⟩ := h
    exact ⟨[], [], [], List.Perm.refl _, ⟨rfl, rfl⟩, .inl rfl⟩
  | 0, .una :: ρ, σ, as, ⟨r, es, t⟩ => by
    subst es
    exact ⟨[], as, bs ++ as, List.Perm.refl _, ⟨v, r, bs, as, rfl, rfl, w, t⟩, .inr (List.Perm.refl _)⟩
  | 0, .any :: ρ, σ, as, ⟨x, r, es, t⟩ => by
    subst es
    exact ⟨[], as, bs ++ as, List.Perm.refl _, ⟨v, r, bs, as, rfl, rfl, w, t⟩, .inr (List.Perm.refl _)⟩
  | 0, .own d' p' :: ρ, σ, as, ⟨v', r, bs', cs', es, ea, o, t⟩ => by
    subst es ea
    exact ⟨bs', cs', bs ++ cs', List.Perm.refl _, ⟨v, r, bs, cs', rfl, rfl, w, t⟩, .inr (List.Perm.refl _)⟩
  | i + 1, .una :: ρ, σ, as, ⟨r, es, t⟩ => by
    subst es
    obtain ⟨b0, cs, as', h1, h2, h3⟩ := OkL.set w (i := i) t
    exact ⟨b0, cs, as', h1, ⟨r.set i (some v), rfl, h2⟩, h3⟩
  | i + 1, .any :: ρ, σ, as, ⟨x, r, es, t⟩ => by
    subst es
    obtain ⟨b0, cs, as', h1, h2, h3⟩ := OkL.set w (i := i) t
    exact ⟨b0, cs, as', h1, ⟨x, r.set i (some v), rfl, h2⟩, h3⟩
  | i + 1, .own d' p' :: ρ, σ, as, ⟨v', r, bs', cs', es, ea, o, t⟩ => by
    subst es ea
    obtain ⟨b0, cs, as', h1, h2, h3⟩ := OkL.set w (i := i) t
    refine ⟨b0, bs' ++ cs, bs' ++ as', ?_, ⟨v', r.set i (some v), bs', as', rfl, rfl, o, h2⟩, ?_⟩
    · rw [← List.append_assoc]
      exact ((List.perm_append_comm (l₁ := b0) (l₂ := bs')).append_right cs).trans (by rw [List.append_assoc]; exact h1.append_left bs')
    · rcases h3 with rfl | h3
      · exact .inl rfl
      · right
        refine (h3.append_left bs').trans ?_
        rw [← List.append_assoc, ← List.append_assoc]
        exact (List.perm_append_comm (l₁ := bs') (l₂ := bs)).append_right cs
/-- a slot dropped -/
theorem OkL.off {M : Addr → Prop} {H : Hp} : ∀ {i : Nat} {ρ : List Sl} {σ : List (Option V)} {as : List Addr}, OkL M H ρ σ as →
    ∃ b0 cs, (b0 ++ cs).Perm as ∧ OkL M H (ρ.set i .una) (σ.set i none) cs
  | i, [], σ, as, h => by
    obtain ⟨rfl, rfl⟩ := h
    exact ⟨[], [], List.Perm.refl _, ⟨rfl, rfl⟩⟩
  | 0, .una :: ρ, σ, as, ⟨r, es, t⟩ => by
    subst es
    exact ⟨[], as, List.Perm.refl _, ⟨r, rfl, t⟩⟩
  | 0, .any :: ρ, σ, as, ⟨x, r, es, t⟩ => by
    subst es
    exact ⟨[], as, List.Perm.refl _, ⟨r, rfl, t⟩⟩
  | 0, .own d' p' :: ρ, σ, as, ⟨v', r, bs', cs', es, ea, o, t⟩ => by
    subst es ea
    exact ⟨bs', cs', List.Perm.refl _, ⟨r, rfl, t⟩⟩
  | i + 1, .una :: ρ, σ, as, ⟨r, es, t⟩ => by
    subst es
    obtain ⟨b0, cs, h1, h2⟩ := OkL.off (i := i) t
    exact ⟨b0, cs, h1, ⟨r.set i none, rfl, h2⟩⟩
  | i + 1, .any :: ρ, σ, as, ⟨x, r, es, t⟩ => by
    subst es
    obtain ⟨b0, cs, h1, h2⟩ := OkL.off (i := i) t
    exact ⟨b0, cs, h1, ⟨x, r.set i none, rfl, h2⟩⟩
  | i + 1, .own d' p' :: ρ, σ, as, ⟨v', r, bs', cs', es, ea, o, t⟩ => by
    subst es ea
    obtain ⟨b0, cs, h1, h2⟩ := OkL.off (i := i) t
    refine ⟨b0, bs' ++ cs, ?_, ⟨v', r.set i none, bs', cs, rfl, rfl, o, h2⟩⟩
    rw [← List.append_assoc]
    exact ((List.perm_append_comm (l₁ := b0) (l₂ := bs')).append_right cs).trans (by rw [List.append_assoc]; exact h1.append_left bs')
/-- a slot put back -/
theorem OkL.back {M : Addr → Prop} {H : Hp} {d : Dt} {p : Pat} {v : V} {bs : List Addr} (w : Ow M H d p v bs) : ∀ {i : Nat} {ρ : List Sl} {σ : List (Option V)} {cs : List Addr}, i < ρ.length → OkL M H (ρ.set i .any) σ cs → σ[i]? = some (some v) →
    ∃ as', OkL M H (ρ.set i (.own d p)) σ as' ∧ as'.Perm (bs ++ cs)
  | i, [], σ, cs, hi, h, e => by simp at hi
  | 0, s :: ρ, σ, cs, hi, h, e => by
    obtain ⟨x, r, rfl, t⟩ := h
    simp at e
    subst e
    exact ⟨bs ++ cs, ⟨v, r, bs, cs, rfl, rfl, w, t⟩, List.Perm.refl _⟩
  | i + 1, .una :: ρ, σ, cs, hi, h, e => by
    obtain ⟨r, rfl, t⟩ := h
    obtain ⟨as', h1, h2⟩ := OkL.back w (i := i) (by simpa using hi) t (by simpa using e)
    exact ⟨as', ⟨r, rfl, h1⟩, h2⟩
  | i + 1, .any :: ρ, σ, cs, hi, h, e => by
    obtain ⟨x, r, rfl, t⟩ := h
    obtain ⟨as', h1, h2⟩ := OkL.back w (i := i) (by simpa using hi) t (by simpa using e)
    exact ⟨as', ⟨x, r, rfl, h1⟩, h2⟩
  | i + 1, .own d' p' :: ρ, σ, cs, hi, h, e => by
    obtain ⟨v', r, bs', cs', rfl, rfl, o, t⟩ := h
    obtain ⟨as', h1, h2⟩ := OkL.back w (i := i) (by simpa using hi) t (by simpa using e)
    refine ⟨bs' ++ as', ⟨v', r, bs', as', rfl, rfl, o, h1⟩, ?_⟩
    refine (h2.append_left bs').trans ?_
    rw [← List.append_assoc, ← List.append_assoc]
    exact (List.perm_append_comm (l₁ := bs') (l₂ := bs)).append_right cs'

/-- later: what is not owned is kept; what is owned was, or is new -/
def Lt (H : Hp) (O : Addr → Prop) (H' : Hp) (O' : Addr → Prop) : Prop := (∀ a o, ¬ O a → H a = some o → H' a = some o) ∧ ∀ b, O' b → O b ∨ H b = none
theorem Lt.refl (H : Hp) (O : Addr → Prop) : Lt H O H O := ⟨fun _ _ _ h => h, fun _ h => .inl h⟩
theorem Lt.trans {H H1 H2 : Hp} {O O1 O2 : Addr → Prop} (x : Lt H O H1 O1) (y : Lt H1 O1 H2 O2) : Lt H O H2 O2 := by
  refine ⟨fun a o n e => y.1 a o (fun z => ?_) (x.1 a o n e), fun b hb => ?_⟩
  · rcases x.2 a z with z | z
    · exact n z
    · rw [z] at e; cases e
  · rcases y.2 b hb with z | z
    · exact x.2 b z
    · by_cases q : O b
      · exact .inl q
      · cases e : H b with
        | none => exact .inr rfl
        | some o => rw [x.1 b o q e] at z; cases z
theorem Lt.ex {H H' : Hp} {O : Addr → Prop} (e : Ex H H') : Lt H O H' O := ⟨fun a o _ h => e a o h, fun _ h => .inl h⟩
theorem Lt.out {H H' : Hp} {O : Addr → Prop} (x : Lt H Mo H' O) : Ex H H' := fun a o h => x.1 a o (fun z => z) h
def ownM (M F : Addr → Prop) : Addr → Prop := fun a => M a ∧ ¬ F a
def Mb (M : Addr → Prop) (bs : List Addr) : Addr → Prop := fun a => M a ∨ a ∈ bs
/-- the slots σ hold ρ in H; F: owned elsewhere; M: all that is owned; Z: what is known of the way here -/
structure Ok (F : Addr → Prop) (Z : Hp → (Addr → Prop) → Prop) (ρ : List Sl) (σ : L2.St) (H : Hp) (M : Addr → Prop) : Prop where
  sl : ∃ as : List Addr, as.Nodup ∧ (∀ a ∈ as, M a ∧ ¬ F a) ∧ OkL M H ρ σ as
  al : ∀ a, M a → H a ≠ none
  fr : ∀ a, F a → M a
  z : Z H (ownM M F)
  mz : ∀ H O H' O', Z H O → Lt H O H' O' → Z H' O'
section
variable {F : Addr → Prop} {Z Z' : Hp → (Addr → Prop) → Prop} {ρ : List Sl} {σ : L2.St} {H H' : Hp} {M : Addr → Prop} {d : Dt} {p : Pat} {v : V} {bs : List Addr} {i : Nat}
theorem Go.ex {M : Addr → Prop} (e : Ex H H') : Go M H M H' := fun a o n h => ⟨e a o h, n⟩
theorem Go.add (e : Ex H H') (n : ∀ b ∈ bs, H b = none) : Go M H (Mb M bs) H' := fun a o m h => ⟨e a o h, fun z => by
  rcases z with z | z
  · exact m z
  · rw [n a z] at h; cases h⟩
theorem Ok.ex (ok : Ok F Z ρ σ H M) (e : Ex H H') : Ok F Z ρ σ H' M := by
  obtain ⟨as, nd, own, sl⟩ := ok.sl
  refine ⟨⟨as, nd, own, sl.go (Go.ex e) fun a _ o h => e a o h⟩, fun a ha hn => ?_, ok.fr, ok.mz _ _ _ _ ok.z (Lt.ex e), ok.mz⟩
  exact ok.al a ha (fresh_back e hn)
theorem Ok.weak (ok : Ok F Z' ρ σ H M) (h : ∀ H O, Z' H O → Z H O) (m : ∀ H O H' O', Z H O → Lt H O H' O' → Z H' O') : Ok F Z ρ σ H M := ⟨ok.sl, ok.al, ok.fr, h _ _ ok.z, m⟩
theorem Ok.mark (ok : Ok F Z ρ σ H M) : Ok F (fun H' O' => Z H' O' ∧ Lt H (ownM M F) H' O') ρ σ H M := ⟨ok.sl, ok.al, ok.fr, ⟨ok.z, Lt.refl _ _⟩, fun H1 O1 H2 O2 z l => ⟨ok.mz _ _ _ _ z.1 l, z.2.trans l⟩⟩
/-- a value that comes is stored -/
theorem Ok.set (ok : Ok F Z ρ σ H M) (e : Ex H H') (nd : bs.Nodup) (n : ∀ b ∈ bs, H b = none) (w : Ow (Mb M bs) H' d p v bs) : Ok F Z (ρ.set i (.own d p)) (σ.set i (some v)) H' (Mb M bs) := by
  obtain ⟨as, and_, own, sl⟩ := ok.sl
  have sl1 := sl.go (Go.add (M := M) (bs := bs) e n) fun a _ o h => e a o h
  obtain ⟨b0, cs, as', h1, h2, h3⟩ := OkL.set w (i := i) sl1
  have ndc : cs.Nodup := (List.nodup_append.mp (h1.nodup_iff.mpr and_)).2.1
  have hcs : ∀ a ∈ cs, a ∈ as := fun a ha => h1.subset (List.mem_append_right _ ha)
  have hb : ∀ b ∈ bs, b ∉ cs := fun b hb hc => sl.al b (hcs b hc) (n b hb)
  refine ⟨⟨as', ?_, ?_, h2⟩, ?_, fun a ha => .inl (ok.fr a ha), ?_, ok.mz⟩
  · rcases h3 with rfl | h3
    · exact ndc
    · rw [h3.nodup_iff, List.nodup_append]
      exact ⟨nd, ndc, fun a ha b hb' z => hb a ha (z ▸ hb')⟩
  · intro a ha
    have : a ∈ bs ∨ a ∈ cs := by
      rcases h3 with rfl | h3
      · exact .inr ha
      · exact List.mem_append.mp (h3.subset ha)
    rcases this with h | h
    · exact ⟨.inr h, fun z => ok.al a (ok.fr a z) (n a h)⟩
    · have := own a (hcs a h)
      exact ⟨.inl this.1, this.2⟩
  · rintro a (ha | ha) hn
    · exact ok.al a ha (fresh_back e hn)
    · exact w.al a ha hn
  · refine ok.mz _ _ _ _ ok.z ⟨fun a o _ h => e a o h, fun b hb => ?_⟩
    rcases hb.1 with h | h
    · exact .inl ⟨h, hb.2⟩
    · exact .inr (n b h)
theorem Go.add0 : Go M H (Mb M []) H := fun a o m h => ⟨h, fun z => by
  rcases z with z | z
  · exact m z
  · cases z⟩
theorem mb_nil (M : Addr → Prop) : Mb M [] = M := by
  funext a
  apply propext
  constructor
  · rintro (h | h)
    · exact h
    · cases h
  · exact .inl
theorem Ok.setR (ok : Ok F Z ρ σ H M) (e : Ex H H') (w : Rp M H' d v) : Ok F Z (ρ.set i (.own d .sh)) (σ.set i (some v)) H' M := by
  have := ok.set (i := i) (d := d) (p := .sh) (v := v) (bs := []) e List.nodup_nil (fun b hb => nomatch hb) (ow_sh.mpr ⟨rfl, by rw [mb_nil]; exact w⟩)
  rwa [mb_nil] at this
theorem Ok.off (ok : Ok F Z ρ σ H M) : Ok F Z (ρ.set i .una) (σ.set i none) H M := by
  obtain ⟨as, and_, own, sl⟩ := ok.sl
  obtain ⟨b0, cs, h1, h2⟩ := OkL.off (i := i) sl
  exact ⟨⟨cs, (List.nodup_append.mp (h1.nodup_iff.mpr and_)).2.1, fun a ha => own a (h1.subset (List.mem_append_right _ ha)), h2⟩, ok.al, ok.fr, ok.z, ok.mz⟩
/-- what a slot owns is shared from now on -/
theorem Ok.share (ok : Ok F Z ρ σ H M) (i : Nat) (h : ρ[i]? = some (.own d p)) : ∃ M', Ok F Z (ρ.set i (.own d .sh)) σ H M' := by
  obtain ⟨as, nd, own, sl⟩ := ok.sl
  obtain ⟨v, bs, cs, h1, h2, h3, h4⟩ := sl.out h
  have nd2 := List.nodup_append.mp (h4.nodup_iff.mpr nd)
  have hM : ∀ a, ¬ M a → ¬ (M a ∧ a ∉ bs) := fun a n z => n z.1
  have w : Rp (fun a => M a ∧ a ∉ bs) H d v := h2.fr hM fun a ha z => z.2 ha
  have sl' := h3.go (M' := fun a => M a ∧ a ∉ bs) (H' := H) (fun a o n e => ⟨e, hM a n⟩) fun _ _ _ h => h
  have hi : i < ρ.length := (List.getElem?_eq_some_iff.mp h).1
  obtain ⟨as', k1, k2⟩ := OkL.back (bs := []) (ow_sh.mpr ⟨rfl, w⟩) hi sl' h1
  refine ⟨_, ⟨as', by rw [k2.nodup_iff]; exact nd2.2.1, fun a ha => ?_, k1⟩, fun a ha => ok.al a ha.1, fun a ha => ⟨ok.fr a ha, fun hb => (own a (h4.subset (List.mem_append_left _ hb))).2 ha⟩, ?_, ok.mz⟩
  · have hc : a ∈ cs := k2.subset ha
    have := own a (h4.subset (List.mem_append_right _ hc))
    exact ⟨⟨this.1, fun hb => nd2.2.2 a hb a hc rfl⟩, this.2⟩
  · exact ok.mz _ _ _ _ ok.z ⟨fun _ _ _ h => h, fun b hb => .inl ⟨hb.1.1, hb.2⟩⟩
/-- what a slot holds -/
theorem Ok.get (ok : Ok F Z ρ σ H M) (h : ρ[i]? = some (.own d p)) : ∃ v bs, σ[i]? = some (some v) ∧ Ow M H d p v bs := by
  obtain ⟨as, nd, own, sl⟩ := ok.sl
  obtain ⟨v, bs, cs, h1, h2, h3, h4⟩ := sl.out h
  exact ⟨v, bs, h1, h2⟩
/-- the object of a flat owned slot is changed -/
theorem Ok.mut (ok : Ok F Z ρ σ H M) {s : Sh} {ds : List Dt} (h : ρ[i]? = some (.own (.node s ds) (.ow .sh))) : ∃ a vs, σ[i]? = some (some (.ref a)) ∧ ObAt H s a vs ∧ RpL M H ds vs ∧
    ∀ H1, Ex H H1 → ∀ (o : HO) (s' : Sh) (ds' : List Dt) (vs' : List V), ObAt (upd H1 a o) s' a vs' → RpL M H1 ds' vs' → Ok F Z (ρ.set i (.own (.node s' ds') (.ow .sh))) σ (upd H1 a o) M := by
  obtain ⟨as, nd, own, sl⟩ := ok.sl
  obtain ⟨v, bs, cs, h1, h2, h3, h4⟩ := sl.out h
  obtain ⟨a, vs, rfl, ob, rfl, r⟩ := ow_mu.mp h2
  refine ⟨a, vs, h1, ob, r, fun H1 e o s' ds' vs' ob' r' => ?_⟩
  have nd2 := List.nodup_append.mp (h4.nodup_iff.mpr nd)
  have ha := own a (h4.subset (List.mem_append_left _ (List.mem_singleton.mpr rfl)))
  have g : Go M H1 M (upd H1 a o) := fun b u n hb => ⟨by rw [upd_ne (fun z => n (by rw [z]; exact ha.1))]; exact hb, n⟩
  have g0 : Go M H M (upd H1 a o) := fun b u n hb => g b u n (e b u hb)
  have hi : i < ρ.length := (List.getElem?_eq_some_iff.mp h).1
  have sl' := h3.go g0 fun b hb u hu => by
    rw [upd_ne (fun z => nd2.2.2 a (List.mem_singleton.mpr rfl) b hb z.symm)]
    exact e b u hu
  obtain ⟨as', k1, k2⟩ := OkL.back (bs := [a]) (ow_mu.mpr ⟨a, vs', rfl, ob', rfl, r'.go g⟩) hi sl' h1
  refine ⟨⟨as', by rw [k2.nodup_iff]; exact h4.nodup_iff.mpr nd, fun b hb => own b (h4.subset (k2.subset hb)), k1⟩, fun b hb hn => ?_, ok.fr, ?_, ok.mz⟩
  · by_cases z : b = a
    · rw [z, upd_same] at hn; cases hn
    · rw [upd_ne z] at hn
      exact ok.al b hb (fresh_back e hn)
  · exact ok.mz _ _ _ _ ok.z ⟨fun b u n hb => by rw [upd_ne (fun z => n (by rw [z]; exact ha))]; exact e b u hb, fun b hb => .inl hb⟩
/-- a set of slots set aside, as comprehensions do -/
def wipeS (ρ : List Sl) : List Nat → List Sl
  | [] => ρ
  | i :: is => (wipeS ρ is).set i .una
theorem Ok.wipe (ok : Ok F Z ρ σ H M) : ∀ vs : List Nat, Ok F Z (wipeS ρ vs) (L2.wipe σ vs) H M
  | [] => ok
  | i :: is => (ok.wipe is).off
end
end Ho

/-! Ho, part K: what the slots hold, evaluated; statements and loops over the slots' data -/
namespace Ho
open PySem PySem.Spec PyProof.Rows L2 Evl

def isR (M : Addr → Prop) (d : Dt) : V → Hp → Prop := fun v H => Rp M H d v
def isN (M : Addr → Prop) (s : Sh) (ds : List Dt) : V → Hp → Prop := fun v H => ∃ a vs, v = .ref a ∧ ObAt H s a vs ∧ RpL M H ds vs
abbrev EvR (M : Addr → Prop) (te : TE) (σ : L2.St) (H : Hp) (d : Dt) : Prop := EvG te σ H (isR M d)
abbrev EvN (M : Addr → Prop) (te : TE) (σ : L2.St) (H : Hp) (s : Sh) (ds : List Dt) : Prop := EvG te σ H (isN M s ds)
/-- a value whose owned parts are new -/
def EvP (M : Addr → Prop) (te : TE) (σ : L2.St) (H : Hp) (d : Dt) (p : Pat) : Prop := ∀ H1, Ex H H1 → ∀ Q : VK, (∀ v bs H2, Ex H1 H2 → bs.Nodup → (∀ b ∈ bs, H1 b = none) → Ow (Mb M bs) H2 d p v bs → Q v H2) → te σ H1 Q
def Al (M : Addr → Prop) (H : Hp) : Prop := ∀ a, M a → H a ≠ none
theorem mon_R (M : Addr → Prop) (d : Dt) : Mon (isR M d) := fun v H H' e h => Rp.go (Go.ex e) h
theorem mon_N (M : Addr → Prop) (s : Sh) (ds : List Dt) : Mon (isN M s ds) := fun v H H' e ⟨a, vs, h1, h2, h3⟩ => ⟨a, vs, h1, ObAt.go (fun o h => e _ _ h) h2, RpL.go (Go.ex e) h3⟩
theorem zip_maps {α β γ : Type} (f : α → β) (g : α → γ) : ∀ l : List α, (l.map f).zip (l.map g) = l.map fun x => (f x, g x)
  | [] => rfl
  | a :: l => by rw [List.map_cons, List.map_cons, List.zip_cons_cons, zip_maps f g l, List.map_cons]
theorem DS_zip (r : Dic) : (r.map fun p => (Sum.inr (S p.1) : Key)).zip (r.map fun p => VS p.2) = DS r := zip_maps _ _ r
theorem Mo_al (H : Hp) : Al Mo H := fun _ h => h.elim
section
variable {K : PySem.W.Frag} {F : Addr → Prop} {Z Z' : Hp → (Addr → Prop) → Prop} {ρ : List Sl} {σ : L2.St} {H H' : Hp} {M : Addr → Prop} {d : Dt} {p : Pat} {v w : V} {bs : List Addr} {i j : Nat} {ta tb tc te tl : TE} {t : TT} {s : Sh} {ds es : List Dt} {α β γ : Type} {tr : TA} {Ps : List (V → Hp → Prop)} {A : Addr → Prop}
/-! the slots' values -/
theorem Ok.ev (ok : Ok F Z ρ σ H M) (h : ρ[i]? = some (.own (.sc v) p)) : Ev (tVar i) σ H v := by
  obtain ⟨u, bs, h1, h2⟩ := ok.get h
  unfold Ow at h2
  rw [h2.2.1] at h1
  exact ev_var h1
theorem g_var {P : V → Hp → Prop} (h : σ[i]? = some (some v)) (m : Mon P) (hp : P v H) : EvG (tVar i) σ H P := fun H1 e Q q => ⟨v, h, q v H1 (Ex.refl _) (m v _ _ e hp)⟩
theorem Ok.r (ok : Ok F Z ρ σ H M) (h : ρ[i]? = some (.own d .sh)) : EvR M (tVar i) σ H d := by
  obtain ⟨u, bs, h1, h2⟩ := ok.get h
  exact g_var h1 (mon_R _ _) (ow_sh.mp h2).2
theorem Ok.ro (ok : Ok F Z ρ σ H M) (h : ρ[i]? = some (.own d p)) : EvR Mo (tVar i) σ H d := by
  obtain ⟨u, bs, h1, h2⟩ := ok.get h
  exact g_var h1 (mon_R _ _) h2.rd
theorem Ok.n (ok : Ok F Z ρ σ H M) (h : ρ[i]? = some (.own (.node s ds) (.ow .sh))) : EvN M (tVar i) σ H s ds := by
  obtain ⟨u, bs, h1, h2⟩ := ok.get h
  obtain ⟨a, vs, e, o, _, r⟩ := ow_mu.mp h2
  exact g_var h1 (mon_N _ _ _) ⟨a, vs, e, o, r⟩
theorem Rp.n {M : Addr → Prop} (h : Rp M H (.node s ds) v) : isN M s ds v H := by
  unfold Rp at h
  obtain ⟨a, vs, e, _, o, r⟩ := h
  exact ⟨a, vs, e, o, r⟩
theorem r_n (h : EvR M te σ H (.node s ds)) : EvN M te σ H s ds := fun H1 e Q q => h H1 e Q fun v H2 e2 r => q v H2 e2 r.n
theorem Rp.o {M : Addr → Prop} (h : Rp M H d v) : Rp Mo H d v := Rp.go (fun a o _ e => ⟨e, fun z => z⟩) h
theorem RpL.o {M : Addr → Prop} {vs : List V} (h : RpL M H ds vs) : RpL Mo H ds vs := RpL.go (fun a o _ e => ⟨e, fun z => z⟩) h
theorem r_o (h : EvR M te σ H d) : EvR Mo te σ H d := fun H1 e Q q => h H1 e Q fun v H2 e2 r => q v H2 e2 (Rp.o r)
theorem n_o (h : EvN M te σ H s ds) : EvR Mo te σ H (.node s ds) := fun H1 e Q q => h H1 e Q fun v H2 e2 ⟨a, vs, h1, h2, h3⟩ => q v H2 e2 (by
  unfold isR Rp
  exact ⟨a, vs, h1, fun z => z, h2, h3.o⟩)
/-- what a slot holds, to be read -/
theorem Ok.nn (ok : Ok F Z ρ σ H M) (h : ρ[i]? = some (.own (.node s ds) p)) : EvN Mo (tVar i) σ H s ds := r_n (ok.ro h)
theorem q_n {g : α → V} {xs : List α} (h : EvN M te σ H .l (xs.map fun x => .sc (g x))) : EvQ K te σ H (xs.map g) := fun H1 e Q q => h H1 e Q fun v H2 e2 ⟨a, vs, h1, h2, h3⟩ => by
  subst h1
  rw [rpL_sc] at h3
  subst h3
  exact q a H2 e2 (slof h2)
theorem q_r {g : α → V} {xs : List α} (h : EvR M te σ H (.node .l (xs.map fun x => .sc (g x)))) : EvQ K te σ H (xs.map g) := q_n (r_n h)
theorem h_n {g : α → V} {xs : List α} (h : EvN M te σ H .l (xs.map fun x => .sc (g x))) : EvH te σ H (xs.map g) := fun H1 e Q q => h H1 e Q fun v H2 e2 ⟨a, vs, h1, h2, h3⟩ => by
  subst h1
  rw [rpL_sc] at h3
  subst h3
  exact q a H2 e2 h2
theorem d_n {r : Dic} (h : EvN M te σ H (.d (r.map fun p => .inr (S p.1))) (r.map fun p => uS p.2)) : EvG te σ H (isD (DS r)) := fun H1 e Q q => h H1 e Q fun v H2 e2 ⟨a, vs, h1, h2, h3⟩ => by
  rw [rpL_sc (g := fun p : Row × Row => VS p.2)] at h3
  subst h3
  have h2 := h2.1
  rw [DS_zip] at h2
  exact q v H2 e2 ⟨a, h1, h2⟩
/-- short ways -/
theorem Ok.q {g : α → V} {xs : List α} (ok : Ok F Z ρ σ H M) (h : ρ[i]? = some (.own (.node .l (xs.map fun x => .sc (g x))) p)) : EvQ K (tVar i) σ H (xs.map g) := q_n (ok.nn h)
theorem Ok.h {g : α → V} {xs : List α} (ok : Ok F Z ρ σ H M) (h : ρ[i]? = some (.own (.node .l (xs.map fun x => .sc (g x))) p)) : EvH (tVar i) σ H (xs.map g) := h_n (ok.nn h)
theorem Ok.dd {r : Dic} (ok : Ok F Z ρ σ H M) (h : ρ[i]? = some (.own (uD r) p)) : EvG (tVar i) σ H (isD (DS r)) := d_n (ok.nn h)
theorem ev_r (h : EvR M te σ H (.sc v)) : Ev te σ H v := fun H1 e Q q => h H1 e Q fun u H2 e2 r => by
  unfold isR Rp at r
  rw [r]
  exact q H2 e2
theorem r_ev (h : Ev te σ H v) : EvR M te σ H (.sc v) := fun H1 e Q q => h H1 e Q fun H2 e2 => q v H2 e2 (by unfold isR Rp; rfl)
/-! new ones -/
theorem EvP.is {d' : Dt} (h : EvP M te σ H d p) (e : d = d') : EvP M te σ H d' p := e ▸ h
theorem EvR.is {d' : Dt} (h : EvR M te σ H d) (e : d = d') : EvR M te σ H d' := e ▸ h
theorem p_r (h : EvR M te σ H d) : EvP M te σ H d .sh := fun H1 e Q q => h H1 e Q fun v H2 e2 r => q v [] H2 e2 List.nodup_nil (fun b hb => nomatch hb) (by rw [mb_nil]; exact ow_sh.mpr ⟨rfl, r⟩)
theorem p_ev (h : Ev te σ H v) : EvP M te σ H (.sc v) .sh := p_r (r_ev h)
theorem r_p (al : Al M H) (h : EvP M te σ H d p) : EvR M te σ H d := fun H1 e Q q => h H1 e Q fun v bs H2 e2 nd n w => q v H2 e2 (w.fr (M' := M) (fun a m z => m (.inl z)) fun a ha z => al a z (fresh_back e (n a ha)))
theorem ev_p (h : EvP M te σ H (.sc v) p) : Ev te σ H v := fun H1 e Q q => h H1 e Q fun u bs H2 e2 nd n w => by
  unfold Ow at w
  rw [w.2.1]
  exact q H2 e2
theorem p_L {g : α → V} {xs : List α} (h : EvL te σ H (xs.map g)) : EvP M te σ H (.node .l (xs.map fun x => .sc (g x))) (.ow .sh) := fun H1 e Q q => h H1 e Q fun p H2 hp e2 h2 => q _ [p] H2 e2 (by simp) (by simpa using hp) (ow_mu.mpr ⟨p, _, rfl, h2, rfl, rpL_sc.mpr rfl⟩)
theorem p_U {vs : List V} (h : EvU te σ H vs) : EvP M te σ H (.node .t (vs.map Dt.sc)) (.ow .sh) := fun H1 e Q q => h H1 e Q fun p H2 hp e2 h2 => q _ [p] H2 e2 (by simp) (by simpa using hp) (ow_mu.mpr ⟨p, _, rfl, h2, rfl, by
  have := rpL_sc (M := Mb M [p]) (H := H2) (g := fun x : V => x) (xs := vs) (vs := vs)
  rw [List.map_id'] at this
  exact this.mpr rfl⟩)
theorem p_D {r : Dic} (h : EvD te σ H (DS r)) : EvP M te σ H (uD r) (.ow .sh) := fun H1 e Q q => h H1 e Q fun p H2 hp e2 h2 => q _ [p] H2 e2 (by simp) (by simpa using hp) (ow_mu.mpr ⟨p, r.map fun p => VS p.2, rfl, ⟨by rw [DS_zip]; exact h2, by simp⟩, rfl, rpL_sc.mpr rfl⟩)
theorem q_p {g : α → V} {xs : List α} (h : EvP M te σ H (.node .l (xs.map fun x => .sc (g x))) p) : EvQ K te σ H (xs.map g) := fun H1 e Q q => h H1 e Q fun v bs H2 e2 nd n w => by
  obtain ⟨a, vs, h1, h2, h3⟩ := Rp.n w.rd
  subst h1
  rw [rpL_sc] at h3
  subst h3
  exact q a H2 e2 (slof h2)
theorem r_NA {f : β → List V} {g : α → V} {h' : β → List α} {ys : List β} (al : Al M H) (hf : ∀ y, f y = (h' y).map g) (h : EvNA te σ H (nL K f) ys) : EvR M te σ H (.node .l (ys.map fun y => .node .l ((h' y).map fun x => .sc (g x)))) := fun H1 e Q q => h H1 e Q fun p vs H2 hp e2 h2 h3 => by
  refine q _ H2 e2 ?_
  unfold isR Rp
  refine ⟨p, vs, rfl, fun z => al p z (fresh_back e hp), h2, ?_⟩
  have key : ∀ {zs : List β} {ws : List V}, AllP (zs.map (nL K f H1)) ws H2 → RpL M H2 (zs.map fun y => .node .l ((h' y).map fun x => .sc (g x))) ws := by
    intro zs
    induction zs with
    | nil =>
      intro ws z
      rw [List.map_nil]
      unfold RpL
      exact z
    | cons z zs ih =>
      rintro _ ⟨v, r, rfl, ⟨b, rfl, p2, p3⟩, t⟩
      rw [List.map_cons]
      unfold RpL
      refine ⟨_, r, rfl, ?_, ih t⟩
      unfold Rp
      exact ⟨b, _, rfl, fun z => al b z (fresh_back e p3), p2, by rw [hf]; exact rpL_sc.mpr rfl⟩
  exact key h3
/-! calls -/
def RetP (F : Addr → Prop) (H0 : Hp) (d : Dt) (p : Pat) (Q : VK) : Prop := ∀ v bs H', Ex H0 H' → bs.Nodup → (∀ b ∈ bs, H0 b = none) → Ow (Mb F bs) H' d p v bs → Q v H'
def spR (n : Nat) (R : (Addr → Prop) → List V → Hp → Dt → Pat → Prop) : Sp := fun vs H Q _ => vs.length = n ∧ ∃ F d p, Al F H ∧ R F vs H d p ∧ RetP F H d p Q
theorem ag_R (h : EvR M te σ H d) (hr : EvAG tr σ H Ps) : EvAG (tCons te tr) σ H (isR M d :: Ps) := ag_cons h (mon_R M d) hr
theorem p_callR {n : Nat} {R : (Addr → Prop) → List V → Hp → Dt → Pat → Prop} {E : XK} (al : Al M H) (h : EvAG tr σ H Ps) (hn : Ps.length = n) (hr : ∀ vs H1, AllP Ps vs H1 → R M vs H1 d p) : EvP M (tCallO (spR n R) E tr) σ H d p := fun H1 e Q q =>
  h H1 e _ fun vs H2 e2 hp => ⟨hp.length.trans hn, M, d, p, fun a ha z => al a ha (fresh_back (e.trans e2) z), hr vs H2 hp, fun v bs H3 e3 nd nn w => q v bs H3 (e2.trans e3) nd (fun b hb => fresh_back e2 (nn b hb)) w⟩
/-! what has no shared objects is the same for all -/
mutual
def Scal : Dt → Pat → Prop
  | .sc _, _ => True
  | .node s ds, .sh => False
  | .node s ds, .ow p => ScalF ds (List.replicate ds.length p)
  | .node s ds, .fs ps => ScalF ds ps
def ScalF : List Dt → List Pat → Prop
  | [], _ => True
  | d :: ds, [] => False
  | d :: ds, p :: ps => Scal d p ∧ ScalF ds ps
end
mutual
theorem Ow.scal {M1 M2 : Addr → Prop} {H : Hp} : ∀ {d : Dt} {p : Pat} {v : V} {bs : List Addr}, Scal d p → Ow M1 H d p v bs → Ow M2 H d p v bs
  | .sc w, p, v, bs, _, h => by
    unfold Ow at h ⊢
    exact h
  | .node s ds, .sh, v, bs, k, h => by
    unfold Scal at k
    exact k.elim
  | .node s ds, .ow p, v, bs, k, h => by
    unfold Ow at h ⊢
    unfold Scal at k
    obtain ⟨a, vs, cs, e, o, rfl, f⟩ := h
    exact ⟨a, vs, cs, e, o, rfl, OwF.scal k f⟩
  | .node s ds, .fs ps, v, bs, k, h => by
    unfold Ow at h ⊢
    unfold Scal at k
    obtain ⟨a, vs, cs, e, o, rfl, f⟩ := h
    exact ⟨a, vs, cs, e, o, rfl, OwF.scal k f⟩
theorem OwF.scal {M1 M2 : Addr → Prop} {H : Hp} : ∀ {ds : List Dt} {ps : List Pat} {vs : List V} {bs : List Addr}, ScalF ds ps → OwF M1 H ds ps vs bs → OwF M2 H ds ps vs bs
  | [], ps, vs, bs, _, h => by
    unfold OwF at h ⊢
    exact h
  | d :: ds, [], vs, bs, k, h => by
    unfold ScalF at k
    exact k.elim
  | d :: ds, q :: qs, vs, bs, k, h => by
    unfold ScalF at k
    unfold OwF at h ⊢
    obtain ⟨p, pr, v, r, b, c, e1, e2, e3, h1, h2⟩ := h
    obtain ⟨rfl, rfl⟩ := List.cons.inj e1
    exact ⟨q, qs, v, r, b, c, rfl, e2, e3, Ow.scal k.1 h1, OwF.scal k.2 h2⟩
end
theorem scalF_of : ∀ {ds : List Dt}, (∀ d ∈ ds, Scal d p) → ScalF ds (List.replicate ds.length p)
  | [], _ => by unfold ScalF; trivial
  | d :: ds, h => by
    rw [List.length_cons, List.replicate_succ]
    unfold ScalF
    exact ⟨h d List.mem_cons_self, scalF_of fun e he => h e (List.mem_cons_of_mem _ he)⟩
theorem scal_sc : Scal (.sc v) p := by unfold Scal; trivial
theorem scal_ow (h : ∀ d ∈ ds, Scal d p) : Scal (.node s ds) (.ow p) := by
  unfold Scal
  exact scalF_of h
theorem scal_map {f : α → Dt} {xs : List α} (h : ∀ x, Scal (f x) p) : Scal (.node s (xs.map f)) (.ow p) := scal_ow fun d hd => by
  obtain ⟨x, _, rfl⟩ := List.mem_map.mp hd
  exact h x
theorem p_scal (h : EvP Mo te σ H d p) (k : Scal d p) : EvP M te σ H d p := fun H1 e Q q => h H1 e Q fun v bs H2 e2 nd n w => q v bs H2 e2 nd n (w.scal k)
/-! items, displays -/
theorem r_ix (dd : Dt) {n : Int} (h : EvN M ta σ H .l ds) (hb : Ev tb σ H (.int n)) (h0 : 0 ≤ n) (h1 : n < ds.length) : EvR M (tOp (rIxL K) ta tb) σ H (ds.getD n.toNat dd) := fun H1 e Q q =>
  h H1 e _ fun v H2 e2 ⟨a, vs, hv, ho, hr⟩ => hb H2 (e.trans e2) _ fun H3 e3 => by
    subst hv
    have hy : ds[n.toNat]? = some (ds.getD n.toNat dd) := by
      rw [List.getD_eq_getElem?_getD, List.getElem?_eq_getElem (show n.toNat < ds.length by omega)]
      rfl
    obtain ⟨w, hw, hp⟩ := hr.at n.toNat _ hy
    have hl : n < (vs.length : Int) := by rw [hr.len]; exact h1
    refine ⟨a, vs, n, _, rfl, rfl, (exl (K := K) e3 (slof ho)).q, atI_getD V.non h0 hl, ?_⟩
    rw [List.getD_eq_getElem?_getD, hw]
    exact q w H3 (e2.trans e3) (mon_R _ _ _ _ _ e3 hp)
theorem r_ixL (x0 : α) {f : α → Dt} {xs : List α} {n : Int} (h : EvN M ta σ H .l (xs.map f)) (hb : Ev tb σ H (.int n)) (h0 : 0 ≤ n) (h1 : n < xs.length) : EvR M (tOp (rIxL K) ta tb) σ H (f (xs.getD n.toNat x0)) := by
  have := r_ix (K := K) (f x0) h hb h0 (by rw [List.length_map]; exact h1)
  rwa [List.getD_eq_getElem?_getD, List.getElem?_map, Option.getD_map, ← List.getD_eq_getElem?_getD] at this
theorem r_last {f : α → Dt} {xs : List α} {x : α} (h : EvN M ta σ H .l (xs.map f)) (hb : Ev tb σ H (.int (-1))) (hx : xs.getLast? = some x) : EvR M (tOp (rIxL K) ta tb) σ H (f x) := fun H1 e Q q =>
  h H1 e _ fun v H2 e2 ⟨a, vs, hv, ho, hr⟩ => hb H2 (e.trans e2) _ fun H3 e3 => by
    subst hv
    have hl := hr.len
    rw [List.length_map] at hl
    have hn : xs ≠ [] := by rintro rfl; simp at hx
    have hy : (xs.map f)[xs.length - 1]? = some (f x) := by
      rw [List.getElem?_map, ← List.getLast?_eq_getElem?, hx]
      rfl
    obtain ⟨w', hw', hp⟩ := hr.at _ _ hy
    have hvn : vs ≠ [] := by
      rintro rfl
      simp at hw'
    have hv : vs = vs.dropLast ++ [w'] := by
      have : vs.getLast hvn = w' := by
        rw [← hl, ← List.getLast?_eq_getElem?, List.getLast?_eq_getLast hvn] at hw'
        exact Option.some.inj hw'
      rw [← this, List.dropLast_concat_getLast]
    refine ⟨a, vs, -1, w', rfl, rfl, (exl (K := K) e3 (slof ho)).q, ?_, q w' H3 (e2.trans e3) (mon_R _ _ _ _ _ e3 hp)⟩
    rw [hv]
    exact atI_last _ _
theorem r_ixT (dd : Dt) {n : Int} (h : EvN M ta σ H .t ds) (hb : Ev tb σ H (.int n)) (h0 : 0 ≤ n) (h1 : n < ds.length) : EvR M (tOp (rIxT K) ta tb) σ H (ds.getD n.toNat dd) := fun H1 e Q q =>
  h H1 e _ fun v H2 e2 ⟨a, vs, hv, ho, hr⟩ => hb H2 (e.trans e2) _ fun H3 e3 => by
    subst hv
    have hy : ds[n.toNat]? = some (ds.getD n.toNat dd) := by
      rw [List.getD_eq_getElem?_getD, List.getElem?_eq_getElem (show n.toNat < ds.length by omega)]
      rfl
    obtain ⟨w, hw, hp⟩ := hr.at n.toNat _ hy
    have hl : n < (vs.length : Int) := by rw [hr.len]; exact h1
    refine ⟨a, vs, n, _, rfl, rfl, (ext (K := K) e3 (stof ho)).q, atI_getD V.non h0 hl, ?_⟩
    rw [List.getD_eq_getElem?_getD, hw]
    exact q w H3 (e2.trans e3) (mon_R _ _ _ _ _ e3 hp)
theorem ev_lenN (h : EvN M te σ H .l ds) : Ev (tCB (rLenQ K) (tCons te tNil)) σ H (.int (ds.length : Int)) := fun H1 e Q q =>
  h H1 e _ fun v H2 e2 ⟨a, vs, hv, ho, hr⟩ => by
    subst hv
    refine ⟨a, vs, rfl, .inl (SL.q (slof ho)), ?_⟩
    rw [hr.len]
    exact q H2 e2
theorem ev_lenNL {f : α → Dt} {xs : List α} (h : EvN M te σ H .l (xs.map f)) : Ev (tCB (rLenQ K) (tCons te tNil)) σ H (.int (xs.length : Int)) := by
  have := ev_lenN (K := K) h
  rwa [List.length_map] at this
theorem ev_lenNT (h : EvN M te σ H .t ds) : Ev (tCB (rLenQ K) (tCons te tNil)) σ H (.int (ds.length : Int)) := fun H1 e Q q =>
  h H1 e _ fun v H2 e2 ⟨a, vs, hv, ho, hr⟩ => by
    subst hv
    refine ⟨a, vs, rfl, .inr (ST.q (stof ho)), ?_⟩
    rw [hr.len]
    exact q H2 e2
/-- written items, shared -/
def EvRs (M : Addr → Prop) (ta : TA) (σ : L2.St) (H : Hp) (ds : List Dt) : Prop := ∀ H1, Ex H H1 → ∀ Q : List V → Hp → Prop, (∀ vs H2, Ex H1 H2 → RpL M H2 ds vs → Q vs H2) → ta σ H1 Q
theorem rs_nil : EvRs M tNil σ H [] := fun H1 e Q q => q [] H1 (Ex.refl _) (by unfold RpL; rfl)
theorem rs_cons (h : EvR M te σ H d) (hr : EvRs M tr σ H ds) : EvRs M (tCons te tr) σ H (d :: ds) := fun H1 e Q q =>
  h H1 e _ fun v H2 e2 h2 => hr H2 (e.trans e2) _ fun vs H3 e3 h3 => q _ H3 (e2.trans e3) (by
    unfold RpL
    exact ⟨v, vs, rfl, mon_R _ _ _ _ _ e3 h2, h3⟩)
theorem p_lst (h : EvRs M tr σ H ds) (hz : ds.length ≤ 100000) : EvP M (tLst tr) σ H (.node .l ds) (.ow .sh) := fun H1 e Q q =>
  h H1 e _ fun vs H2 e2 h2 => ⟨sz_of (by rw [h2.len]; exact hz), fun p hp => q _ [p] _ (e2.trans (Ex.new hp)) (by simp) (by simpa using fresh_back e2 hp) (ow_mu.mpr ⟨p, vs, rfl, upd_same, rfl, RpL.go (Go.add (Ex.new hp) (by simpa using hp)) h2⟩)⟩
theorem p_tup (h : EvRs M tr σ H ds) (hz : ds.length ≤ 100000) : EvP M (tTup tr) σ H (.node .t ds) (.ow .sh) := fun H1 e Q q =>
  h H1 e _ fun vs H2 e2 h2 => ⟨sz_of (by rw [h2.len]; exact hz), fun p hp => q _ [p] _ (e2.trans (Ex.new hp)) (by simp) (by simpa using fresh_back e2 hp) (ow_mu.mpr ⟨p, vs, rfl, upd_same, rfl, RpL.go (Go.add (Ex.new hp) (by simpa using hp)) h2⟩)⟩
theorem p_revL {f : α → Dt} {xs : List α} (h : EvN M te σ H .l (xs.map f)) : EvP M (tRevL K te) σ H (.node .l (xs.reverse.map f)) (.ow .sh) := fun H1 e Q q =>
  h H1 e _ fun v H2 e2 ⟨a, vs, hv, ho, hr⟩ => by
    subst hv
    exact ⟨a, vs, rfl, SL.q (slof ho), fun p hp => q _ [p] _ (e2.trans (Ex.new hp)) (by simp) (by simpa using fresh_back e2 hp) (ow_mu.mpr ⟨p, _, rfl, upd_same, rfl, by
      rw [List.map_reverse]
      exact RpL.go (Go.add (Ex.new hp) (by simpa using hp)) hr.rev⟩)⟩
theorem p_list {f : α → Dt} {xs : List α} (h : EvN M te σ H .l (xs.map f)) : EvP M (tCB (rListQ K) (tCons te tNil)) σ H (.node .l (xs.map f)) (.ow .sh) := fun H1 e Q q =>
  h H1 e _ fun v H2 e2 ⟨a, vs, hv, ho, hr⟩ => by
    subst hv
    exact ⟨a, vs, rfl, .inl (SL.q (slof ho)), fun p hp => q _ [p] _ (e2.trans (Ex.new hp)) (by simp) (by simpa using fresh_back e2 hp) (ow_mu.mpr ⟨p, _, rfl, upd_same, rfl, RpL.go (Go.add (Ex.new hp) (by simpa using hp)) hr⟩)⟩
theorem p_sl {f : α → Dt} {xs : List α} {tlo thi : TO} {lo hi : Option Int} (h : EvN M te σ H .l (xs.map f)) (h1 : EvO tlo σ H lo) (h2 : EvO thi σ H hi) : EvP M (tSl (rSlL K) te tlo thi) σ H (.node .l ((cutG xs lo hi).map f)) (.ow .sh) := fun H1 e Q q =>
  h H1 e _ fun v H2 e2 ⟨a, vs, hv, ho, hr⟩ => h1 H2 (e.trans e2) _ fun H3 e3 => h2 H3 ((e.trans e2).trans e3) _ fun H4 e4 => by
    subst hv
    have e24 := e3.trans e4
    have hr4 : RpL M H4 (xs.map f) vs := RpL.go (Go.ex e24) hr
    refine ⟨a, vs, rfl, SL.q (exl e24 (slof ho)), fun p hp => q _ [p] _ ((e2.trans e24).trans (Ex.new hp)) (by simp) (by simpa using fresh_back (e2.trans e24) hp) (ow_mu.mpr ⟨p, _, rfl, upd_same, rfl, RpL.go (Go.add (Ex.new hp) (by simpa using hp)) ?_⟩)⟩
    have hl := hr.len
    rw [List.length_map] at hl
    have key : cutV vs lo hi = cutG vs lo hi := rfl
    rw [key]
    unfold cutG
    rw [hl, List.map_take, List.map_drop]
    exact (hr4.drop _).take _
theorem p_cat {f : α → Dt} {xs ys : List α} (ha : EvN M ta σ H .l (xs.map f)) (hb : EvN M tb σ H .l (ys.map f)) (hz : xs.length + ys.length ≤ 100000) : EvP M (tOp rCat ta tb) σ H (.node .l ((xs ++ ys).map f)) (.ow .sh) := fun H1 e Q q =>
  ha H1 e _ fun v H2 e2 ⟨a, vs, hv, ho, hr⟩ => hb H2 (e.trans e2) _ fun v' H3 e3 ⟨a', vs', hv', ho', hr'⟩ => by
    subst hv hv'
    refine ⟨a, a', _, _, rfl, rfl, e3 _ _ ho, ho', sz_of (by rw [hr.len, hr'.len, List.length_map, List.length_map]; exact hz), fun p hp => q _ [p] _ ((e2.trans e3).trans (Ex.new hp)) (by simp) (by simpa using fresh_back (e2.trans e3) hp) (ow_mu.mpr ⟨p, _, rfl, upd_same, rfl, RpL.go (Go.add (Ex.new hp) (by simpa using hp)) ?_⟩)⟩
    rw [List.map_append]
    exact (RpL.go (Go.ex e3) hr).app hr'
theorem n_p (al : Al M H) (h : EvP M te σ H (.node s ds) p) : EvN M te σ H s ds := r_n (r_p al h)
theorem r_if {c : Bool} {d1 d2 : Dt} (h : EvT t σ H c) (h1 : c = true → EvR M ta σ H d1) (h2 : c = false → EvR M tb σ H d2) : EvR M (tIf t ta tb) σ H (if c then d1 else d2) := fun H1 e Q q => h H1 e _ fun H2 e2 => by
  cases c with
  | true =>
    show ta σ H2 Q
    exact h1 rfl H2 (e.trans e2) Q fun v H3 e3 => q v H3 (e2.trans e3)
  | false =>
    show tb σ H2 Q
    exact h2 rfl H2 (e.trans e2) Q fun v H3 e3 => q v H3 (e2.trans e3)
theorem p_if {c : Bool} {d1 d2 : Dt} (h : EvT t σ H c) (h1 : c = true → EvP M ta σ H d1 p) (h2 : c = false → EvP M tb σ H d2 p) : EvP M (tIf t ta tb) σ H (if c then d1 else d2) p := fun H1 e Q q => h H1 e _ fun H2 e2 => by
  cases c with
  | true =>
    show ta σ H2 Q
    exact h1 rfl H2 (e.trans e2) Q fun v bs H3 e3 nd n => q v bs H3 (e2.trans e3) nd fun b hb => fresh_back e2 (n b hb)
  | false =>
    show tb σ H2 Q
    exact h2 rfl H2 (e.trans e2) Q fun v bs H3 e3 nd n => q v bs H3 (e2.trans e3) nd fun b hb => fresh_back e2 (n b hb)
end

/-! ### what is walked -/
def GoM : Hp → (Addr → Prop) → Hp → (Addr → Prop) → Prop := fun H M H' M' => Go M H M' H'
def GoE : Hp → (Addr → Prop) → Hp → (Addr → Prop) → Prop := fun H M H' M' => Ex H H' ∧ ∀ a, ¬ M a → H a ≠ none → ¬ M' a
structure SrcJ (J : It) {α : Type} (l : List α) (g : TG) (js : List Nat) (u : α → List Sl → List Sl) (Gd : Hp → (Addr → Prop) → Prop) : Prop where
  go : ∀ i H M, i < l.length → Gd H M → J.go i H
  stop : ∀ H M, Gd H M → J.stop l.length H
  yld : ∀ i H M x H' σ K, (hi : i < l.length) → Gd H M → J.yld i H x H' →
    (∀ σ'' H'', Ex H H'' → σ''.length = σ.length → (∀ k, k ∉ js → σ''[k]? = σ[k]?) → (∀ F Z ρ, Ok F Z ρ σ H M → Ok F Z (u l[i] ρ) σ'' H'' M) → K σ'' H'') → g x σ H' K
def EvJ (C : Hp → (Addr → Prop) → Hp → (Addr → Prop) → Prop) (M : Addr → Prop) (wi : TI) (g : TG) (js : List Nat) (σ : L2.St) (H : Hp) {α : Type} (l : List α) (u : α → List Sl → List Sl) : Prop :=
  ∀ H1, Ex H H1 → ∀ R : It → Hp → Prop, (∀ (J : It) (H2 : Hp) (Gd : Hp → (Addr → Prop) → Prop), Ex H1 H2 → Gd H2 M → (∀ Ha Ma Hb Mb, C Ha Ma Hb Mb → Gd Ha Ma → Gd Hb Mb) → SrcJ J l g js u Gd → R J H2) → wi σ H1 R
section
variable {K : PySem.W.Frag} {C : Hp → (Addr → Prop) → Hp → (Addr → Prop) → Prop} {F : Addr → Prop} {Z Z' : Hp → (Addr → Prop) → Prop} {ρ : List Sl} {σ : L2.St} {H H' : Hp} {M : Addr → Prop} {d : Dt} {p : Pat} {v w : V} {bs : List Addr} {i j j1 j2 j3 : Nat} {ta tb tc te tl : TE} {t : TT} {s : Sh} {ds es : List Dt} {α β γ : Type} {tr : TA}
theorem set_at {k : Nat} {x : Option V} (h : k ∉ [j]) : (σ.set j x)[k]? = σ[k]? := by
  rw [List.getElem?_set_ne]
  intro e
  exact h (by rw [e]; simp)
theorem set_at2 {k : Nat} {x y : Option V} (h : k ∉ [j1, j2]) : ((σ.set j1 x).set j2 y)[k]? = σ[k]? := by
  rw [List.getElem?_set_ne, List.getElem?_set_ne]
  · intro e; exact h (by rw [e]; simp)
  · intro e; exact h (by rw [e]; simp)
theorem set_at3 {k : Nat} {x y z : Option V} (h : k ∉ [j1, j2, j3]) : (((σ.set j1 x).set j2 y).set j3 z)[k]? = σ[k]? := by
  rw [List.getElem?_set_ne, List.getElem?_set_ne, List.getElem?_set_ne]
  · intro e; exact h (by rw [e]; simp)
  · intro e; exact h (by rw [e]; simp)
  · intro e; exact h (by rw [e]; simp)
/-- a list that stands -/
theorem j_listR {l : List α} {f : α → Dt} (h : EvR M tl σ H (.node .l (l.map f))) : EvJ GoM M (iList K tl) (gName j) [j] σ H l (fun x ρ => ρ.set j (st (f x))) := fun H1 e R q =>
  h H1 e _ fun v H2 e2 r => by
    unfold isR Rp at r
    obtain ⟨a, vs, rfl, n, o, r⟩ := r
    have o : H2 a = some (.lst vs) := o
    refine ⟨a, rfl, ⟨vs, SL.q (slof o)⟩, q (Itl K a) H2 (fun H M => ¬ M a ∧ H a = some (.lst vs) ∧ RpL M H (l.map f) vs) e2 ⟨n, o, r⟩ (fun Ha Ma Hb Mb g ⟨g1, g2, g3⟩ => ⟨(g a _ g1 g2).2, (g a _ g1 g2).1, RpL.go g g3⟩) ⟨?_, ?_, ?_⟩⟩
    · intro i H M hi ⟨g1, g2, g3⟩
      have hl := g3.len
      rw [List.length_map] at hl
      exact ⟨vs, vs[i]'(by omega), SL.q (slof g2), by simp [hl, hi]⟩
    · intro H M ⟨g1, g2, g3⟩
      have hl := g3.len
      rw [List.length_map] at hl
      exact ⟨vs, SL.q (slof g2), by omega⟩
    · intro i H M x H' σ K' hi ⟨g1, g2, g3⟩ y k
      obtain ⟨e1, y⟩ := y
      subst e1
      obtain ⟨w, hw, hp⟩ := g3.at i (f l[i]) (by simp [hi])
      have := y vs (SL.q (slof g2))
      rw [hw] at this
      obtain rfl := Option.some.inj this
      exact k _ H' (Ex.refl _) (by simp) (fun _ h => set_at h) fun F Z ρ ok => ok.setR (Ex.refl _) hp
/-- one that is not changed meanwhile -/
theorem j_listN {l : List α} {f : α → Dt} (h : EvN M tl σ H .l (l.map f)) : EvJ GoE M (iList K tl) (gName j) [j] σ H l (fun x ρ => ρ.set j (st (f x))) := fun H1 e R q =>
  h H1 e _ fun v H2 e2 r => by
    obtain ⟨a, vs, rfl, o, r⟩ := r
    have o : H2 a = some (.lst vs) := o
    refine ⟨a, rfl, ⟨vs, SL.q (slof o)⟩, q (Itl K a) H2 (fun H M => H a = some (.lst vs) ∧ RpL M H (l.map f) vs) e2 ⟨o, r⟩ (fun Ha Ma Hb Mb g ⟨g2, g3⟩ => ⟨g.1 _ _ g2, RpL.go (fun b o n e => ⟨g.1 _ _ e, g.2 b n (by rw [e]; simp)⟩) g3⟩) ⟨?_, ?_, ?_⟩⟩
    · intro i H M hi ⟨g2, g3⟩
      have hl := g3.len
      rw [List.length_map] at hl
      exact ⟨vs, vs[i]'(by omega), SL.q (slof g2), by simp [hl, hi]⟩
    · intro H M ⟨g2, g3⟩
      have hl := g3.len
      rw [List.length_map] at hl
      exact ⟨vs, SL.q (slof g2), by omega⟩
    · intro i H M x H' σ K' hi ⟨g2, g3⟩ y k
      obtain ⟨e1, y⟩ := y
      subst e1
      obtain ⟨w, hw, hp⟩ := g3.at i (f l[i]) (by simp [hi])
      have := y vs (SL.q (slof g2))
      rw [hw] at this
      obtain rfl := Option.some.inj this
      exact k _ H' (Ex.refl _) (by simp) (fun _ h => set_at h) fun F Z ρ ok => ok.setR (Ex.refl _) hp
theorem EvJ.e {wi : TI} {g : TG} {js : List Nat} {l : List α} {u : α → List Sl → List Sl} (h : EvJ GoM M wi g js σ H l u) : EvJ GoE M wi g js σ H l u := fun H1 e R q => h H1 e R fun J H2 Gd e2 g st S => q J H2 Gd e2 g (fun Ha Ma Hb Mb c => st Ha Ma Hb Mb fun a o n h => ⟨c.1 a o h, c.2 a n (by rw [h]; simp)⟩) S
theorem j_tupR {l : List α} {f : α → Dt} (h : EvR M tl σ H (.node .t (l.map f))) : EvJ GoM M (iTup K tl) (gName j) [j] σ H l (fun x ρ => ρ.set j (st (f x))) := fun H1 e R q =>
  h H1 e _ fun v H2 e2 r => by
    unfold isR Rp at r
    obtain ⟨a, vs, rfl, n, o, r⟩ := r
    have o : H2 a = some (.tup vs) := o
    refine ⟨a, rfl, ⟨vs, ST.q (stof o)⟩, q (Itt K a) H2 (fun H M => ¬ M a ∧ H a = some (.tup vs) ∧ RpL M H (l.map f) vs) e2 ⟨n, o, r⟩ (fun Ha Ma Hb Mb g ⟨g1, g2, g3⟩ => ⟨(g a _ g1 g2).2, (g a _ g1 g2).1, RpL.go g g3⟩) ⟨?_, ?_, ?_⟩⟩
    · intro i H M hi ⟨g1, g2, g3⟩
      have hl := g3.len
      rw [List.length_map] at hl
      exact ⟨vs, vs[i]'(by omega), ST.q (stof g2), by simp [hl, hi]⟩
    · intro H M ⟨g1, g2, g3⟩
      have hl := g3.len
      rw [List.length_map] at hl
      exact ⟨vs, ST.q (stof g2), by omega⟩
    · intro i H M x H' σ K' hi ⟨g1, g2, g3⟩ y k
      obtain ⟨e1, y⟩ := y
      subst e1
      obtain ⟨w, hw, hp⟩ := g3.at i (f l[i]) (by simp [hi])
      have := y vs (ST.q (stof g2))
      rw [hw] at this
      obtain rfl := Option.some.inj this
      exact k _ H' (Ex.refl _) (by simp) (fun _ h => set_at h) fun F Z ρ ok => ok.setR (Ex.refl _) hp
theorem j_rng1 {ta : TA} {n : Int} (h : EvA ta σ H [.int n]) (hn : -1000000 ≤ n ∧ n ≤ 1000000) : EvJ C M (iRng1 ta) (gName j) [j] σ H (List.range n.toNat) (fun (i : Nat) ρ => ρ.set j (st (uI (i : Int)))) := fun H1 e R q =>
  h H1 e _ fun H2 e2 => ⟨n, rfl, by omega, by omega, q (Itr 0 n.toNat) H2 (fun _ _ => True) e2 trivial (fun _ _ _ _ _ _ => trivial)
    ⟨fun i H M hi _ => by show i < n.toNat; simpa using hi, fun H M _ => by show n.toNat ≤ _; simp, fun i H M x H' σ K hi _ y k => by
      obtain ⟨e1, e3⟩ := y
      subst e1 e3
      simp only [List.getElem_range] at k
      show K (σ.set j (some (.int (0 + (i : Int))))) H'
      rw [Int.zero_add]
      exact k _ H' (Ex.refl _) (by simp) (fun _ h => set_at h) fun F Z ρ ok => ok.setR (Ex.refl _) (by unfold Rp; rfl)⟩⟩
theorem j_rng2 {ta : TA} {lo n : Int} (h : EvA ta σ H [.int lo, .int n]) (hn : -1000000 ≤ n ∧ n ≤ 1000000) (hl : -1000000 ≤ lo ∧ lo ≤ 1000000) : EvJ C M (iRng2 ta) (gName j) [j] σ H (List.range (n - lo).toNat) (fun (i : Nat) ρ => ρ.set j (st (uI (lo + (i : Int))))) := fun H1 e R q =>
  h H1 e _ fun H2 e2 => ⟨lo, n, rfl, ⟨by omega, by omega, by omega, by omega⟩, q (Itr lo (n - lo).toNat) H2 (fun _ _ => True) e2 trivial (fun _ _ _ _ _ _ => trivial)
    ⟨fun i H M hi _ => by show i < (n - lo).toNat; simpa using hi, fun H M _ => by show (n - lo).toNat ≤ _; simp, fun i H M x H' σ K hi _ y k => by
      obtain ⟨e1, e3⟩ := y
      subst e1 e3
      simp only [List.getElem_range] at k
      exact k _ H' (Ex.refl _) (by simp) (fun _ h => set_at h) fun F Z ρ ok => ok.setR (Ex.refl _) (by unfold Rp; rfl)⟩⟩
theorem j_str {l : Row} (h : Ev te σ H (VS l)) : EvJ C M (iStr te) (gName j) [j] σ H l (fun c ρ => ρ.set j (st (uS [c]))) := fun H1 e R q =>
  h H1 e _ fun H2 e2 => ⟨S l, rfl, q (Its (S l)) H2 (fun _ _ => True) e2 trivial (fun _ _ _ _ _ _ => trivial)
    ⟨fun i H M hi _ => by show i < l.toArray.size; simpa using hi, fun H M _ => by show l.toArray.size ≤ l.length; simp, fun i H M x H' σ K hi _ y k => by
      obtain ⟨e1, c, ec, e3⟩ := y
      subst e1
      have ec : l.toArray[i]? = some c := ec
      simp [hi] at ec
      subst ec e3
      exact k _ H' (Ex.refl _) (by simp) (fun _ h => set_at h) fun F Z ρ ok => ok.setR (Ex.refl _) (by unfold Rp; rfl)⟩⟩
theorem j_zipSS {l m : Row} (h1 : Ev ta σ H (VS l)) (h2 : Ev tb σ H (VS m)) :
    EvJ C M (iZipSS (tCons ta (tCons tb tNil))) (gTup K 2 (gCons (gName j1) (gCons (gName j2) gNil))) [j1, j2] σ H (l.zip m) (fun p ρ => (ρ.set j1 (st (uS [p.1]))).set j2 (st (uS [p.2]))) := fun H1 e R q =>
  h1 H1 e _ fun H2 e2 => h2 H2 (e.trans e2) _ fun H3 e3 => ⟨S l, S m, rfl, q (ItzS (S l) (S m)) H3 (fun _ _ => True) (e2.trans e3) trivial (fun _ _ _ _ _ _ => trivial)
    ⟨fun i H M hi _ => by
      obtain ⟨p1, p2, _⟩ := zip_get hi
      show i < l.toArray.size ∧ i < m.toArray.size
      simpa using ⟨p1, p2⟩, fun H M _ => by
      show l.toArray.size ≤ _ ∨ m.toArray.size ≤ _
      simp only [List.size_toArray, List.length_zip]; omega, fun i H M x H' σ K' hi _ y k => by
      obtain ⟨p1, p2, e1⟩ := zip_get hi
      obtain ⟨T, c, d, rfl, hT, rfl, y1, y2⟩ := y
      have y1 : l.toArray[i]? = some c := y1
      have y2 : m.toArray[i]? = some d := y2
      simp [p1] at y1
      simp [p2] at y2
      subst y1 y2
      rw [e1] at k
      exact gTup2n (st_of upd_same) (k _ _ (Ex.new hT) (by simp) (fun _ h => set_at2 h) fun F Z ρ ok => (ok.setR (Ex.new hT) (by unfold Rp; rfl)).setR (Ex.refl _) (by unfold Rp; rfl))⟩⟩
theorem j_enumS {l : Row} (h : Ev ta σ H (VS l)) :
    EvJ C M (iEnumS (tCons ta tNil)) (gTup K 2 (gCons (gName j1) (gCons (gName j2) gNil))) [j1, j2] σ H l.zipIdx (fun p ρ => (ρ.set j1 (st (uI (p.2 : Nat)))).set j2 (st (uS [p.1]))) := fun H1 e R q =>
  h H1 e _ fun H2 e2 => ⟨S l, rfl, q (IteS (S l)) H2 (fun _ _ => True) e2 trivial (fun _ _ _ _ _ _ => trivial)
    ⟨fun i H M hi _ => by
      show i < l.toArray.size
      rw [List.length_zipIdx] at hi
      simpa using hi, fun H M _ => by
      show l.toArray.size ≤ _
      simp, fun i H M x H' σ K' hi _ y k => by
      have hi' : i < l.length := by rw [List.length_zipIdx] at hi; exact hi
      obtain ⟨T, c, rfl, hT, rfl, y1⟩ := y
      have y1 : l.toArray[i]? = some c := y1
      simp [hi'] at y1
      subst y1
      have e1 : l.zipIdx[i] = (l[i], i) := by simp
      rw [e1] at k
      exact gTup2n (st_of upd_same) (k _ _ (Ex.new hT) (by simp) (fun _ h => set_at2 h) fun F Z ρ ok => (ok.setR (Ex.new hT) (by unfold Rp; rfl)).setR (Ex.refl _) (by unfold Rp; rfl))⟩⟩
theorem j_enum {l : List α} {f : α → Dt} (h : EvR M ta σ H (.node .l (l.map f))) :
    EvJ GoM M (iEnum K (tCons ta tNil)) (gTup K 2 (gCons (gName j1) (gCons (gName j2) gNil))) [j1, j2] σ H l.zipIdx (fun p ρ => (ρ.set j1 (st (uI (p.2 : Nat)))).set j2 (st (f p.1))) := fun H1 e R q =>
  h H1 e _ fun v H2 e2 r => by
    unfold isR Rp at r
    obtain ⟨a, vs, rfl, n, o, r⟩ := r
    have o : H2 a = some (.lst vs) := o
    refine ⟨a, vs, rfl, SL.q (slof o), q (Ite K a) H2 (fun H M => ¬ M a ∧ H a = some (.lst vs) ∧ RpL M H (l.map f) vs) e2 ⟨n, o, r⟩ (fun Ha Ma Hb Mb g ⟨g1, g2, g3⟩ => ⟨(g a _ g1 g2).2, (g a _ g1 g2).1, RpL.go g g3⟩) ⟨?_, ?_, ?_⟩⟩
    · intro i H M hi ⟨g1, g2, g3⟩
      rw [List.length_zipIdx] at hi
      have hl := g3.len
      rw [List.length_map] at hl
      exact ⟨vs, vs[i]'(by omega), SL.q (slof g2), by simp [hl, hi]⟩
    · intro H M ⟨g1, g2, g3⟩
      have hl := g3.len
      rw [List.length_map] at hl
      exact ⟨vs, SL.q (slof g2), by rw [List.length_zipIdx]; omega⟩
    · intro i H M x H' σ K' hi ⟨g1, g2, g3⟩ y k
      have hi' : i < l.length := by rw [List.length_zipIdx] at hi; exact hi
      obtain ⟨T, x2, rfl, hT, rfl, y2⟩ := y
      obtain ⟨w, hw, hp⟩ := g3.at i (f l[i]) (by simp [hi'])
      have := y2 vs (SL.q (slof g2))
      rw [hw] at this
      obtain rfl := Option.some.inj this
      have e1 : l.zipIdx[i] = (l[i], i) := by simp
      rw [e1] at k
      exact gTup2n (st_of upd_same) (k _ _ (Ex.new hT) (by simp) (fun _ h => set_at2 h) fun F Z ρ ok => (ok.setR (Ex.new hT) (by unfold Rp; rfl)).setR (Ex.refl _) (mon_R _ _ _ _ _ (Ex.new hT) hp))
theorem j_zip {l : List α} {m : List β} {f1 : α → Dt} {f2 : β → Dt} (h1 : EvR M ta σ H (.node .l (l.map f1))) (h2 : EvR M tb σ H (.node .l (m.map f2))) :
    EvJ GoM M (iZip K (tCons ta (tCons tb tNil))) (gTup K 2 (gCons (gName j1) (gCons (gName j2) gNil))) [j1, j2] σ H (l.zip m) (fun p ρ => (ρ.set j1 (st (f1 p.1))).set j2 (st (f2 p.2))) := fun H1 e R q =>
  h1 H1 e _ fun v H2 e2 r => h2 H2 (e.trans e2) _ fun v' H3 e3 r' => by
    unfold isR Rp at r r'
    obtain ⟨a, vs, rfl, n, o, r⟩ := r
    obtain ⟨a', vs', rfl, n', o', r'⟩ := r'
    have o : H2 a = some (.lst vs) := o
    have o' : H3 a' = some (.lst vs') := o'
    refine ⟨a, a', vs, vs', rfl, SL.q (slof (e3 _ _ o)), SL.q (slof o'), q (Itz K a a') H3 (fun H M => (¬ M a ∧ H a = some (.lst vs) ∧ RpL M H (l.map f1) vs) ∧ (¬ M a' ∧ H a' = some (.lst vs') ∧ RpL M H (m.map f2) vs')) (e2.trans e3) ⟨⟨n, e3 _ _ o, RpL.go (Go.ex e3) r⟩, n', o', r'⟩
      (fun Ha Ma Hb Mb g ⟨⟨g1, g2, g3⟩, k1, k2, k3⟩ => ⟨⟨(g a _ g1 g2).2, (g a _ g1 g2).1, RpL.go g g3⟩, (g a' _ k1 k2).2, (g a' _ k1 k2).1, RpL.go g k3⟩) ⟨?_, ?_, ?_⟩⟩
    · intro i H M hi ⟨⟨g1, g2, g3⟩, k1, k2, k3⟩
      obtain ⟨p1, p2, _⟩ := zip_get hi
      have hl := g3.len
      have hl' := k3.len
      rw [List.length_map] at hl hl'
      exact ⟨vs, vs', vs[i]'(by omega), vs'[i]'(by omega), SL.q (slof g2), SL.q (slof k2), by simp [hl, p1], by simp [hl', p2]⟩
    · intro H M ⟨⟨g1, g2, g3⟩, k1, k2, k3⟩
      have hl := g3.len
      have hl' := k3.len
      rw [List.length_map] at hl hl'
      exact ⟨vs, vs', SL.q (slof g2), SL.q (slof k2), by rw [List.length_zip]; omega⟩
    · intro i H M x H' σ K' hi ⟨⟨g1, g2, g3⟩, k1, k2, k3⟩ y k
      obtain ⟨p1, p2, e1⟩ := zip_get hi
      obtain ⟨T, x1, x2, rfl, hT, rfl, y1, y2⟩ := y
      obtain ⟨w, hw, hp⟩ := g3.at i (f1 l[i]) (by simp [p1])
      obtain ⟨w', hw', hp'⟩ := k3.at i (f2 m[i]) (by simp [p2])
      have := y1 vs (SL.q (slof g2))
      rw [hw] at this
      obtain rfl := Option.some.inj this
      have := y2 vs' (SL.q (slof k2))
      rw [hw'] at this
      obtain rfl := Option.some.inj this
      rw [e1] at k
      exact gTup2n (st_of upd_same) (k _ _ (Ex.new hT) (by simp) (fun _ h => set_at2 h) fun F Z ρ ok => (ok.setR (Ex.new hT) (mon_R _ _ _ _ _ (Ex.new hT) hp)).setR (Ex.refl _) (mon_R _ _ _ _ _ (Ex.new hT) hp'))
theorem j_zip3 {l : List α} {m : List β} {n : List γ} {f1 : α → Dt} {f2 : β → Dt} {f3 : γ → Dt} (h1 : EvR M ta σ H (.node .l (l.map f1))) (h2 : EvR M tb σ H (.node .l (m.map f2))) (h3 : EvR M tc σ H (.node .l (n.map f3))) :
    EvJ GoM M (iZip3 K (tCons ta (tCons tb (tCons tc tNil)))) (gTup K 3 (gCons (gName j1) (gCons (gName j2) (gCons (gName j3) gNil)))) [j1, j2, j3] σ H (l.zip (m.zip n)) (fun p ρ => ((ρ.set j1 (st (f1 p.1))).set j2 (st (f2 p.2.1))).set j3 (st (f3 p.2.2))) := fun H1 e R q =>
  h1 H1 e _ fun v H2 e2 r => h2 H2 (e.trans e2) _ fun v' H3 e3 r' => h3 H3 ((e.trans e2).trans e3) _ fun v'' H4 e4 r'' => by
    unfold isR Rp at r r' r''
    obtain ⟨a, vs, rfl, n1, o, r⟩ := r
    obtain ⟨a', vs', rfl, n2, o', r'⟩ := r'
    obtain ⟨a'', vs'', rfl, n3, o'', r''⟩ := r''
    have o : H2 a = some (.lst vs) := o
    have o' : H3 a' = some (.lst vs') := o'
    have o'' : H4 a'' = some (.lst vs'') := o''
    refine ⟨a, a', a'', vs, vs', vs'', rfl, SL.q (slof (e4 _ _ (e3 _ _ o))), SL.q (slof (e4 _ _ o')), SL.q (slof o''), q (Itz3 K a a' a'') H4 (fun H M => (¬ M a ∧ H a = some (.lst vs) ∧ RpL M H (l.map f1) vs) ∧ (¬ M a' ∧ H a' = some (.lst vs') ∧ RpL M H (m.map f2) vs') ∧ (¬ M a'' ∧ H a'' = some (.lst vs'') ∧ RpL M H (n.map f3) vs''))
      ((e2.trans e3).trans e4) ⟨⟨n1, e4 _ _ (e3 _ _ o), RpL.go (Go.ex (e3.trans e4)) r⟩, ⟨n2, e4 _ _ o', RpL.go (Go.ex e4) r'⟩, n3, o'', r''⟩
      (fun Ha Ma Hb Mb g ⟨⟨g1, g2, g3⟩, ⟨k1, k2, k3⟩, m1, m2, m3⟩ => ⟨⟨(g a _ g1 g2).2, (g a _ g1 g2).1, RpL.go g g3⟩, ⟨(g a' _ k1 k2).2, (g a' _ k1 k2).1, RpL.go g k3⟩, (g a'' _ m1 m2).2, (g a'' _ m1 m2).1, RpL.go g m3⟩) ⟨?_, ?_, ?_⟩⟩
    · intro i H M hi ⟨⟨g1, g2, g3⟩, ⟨k1, k2, k3⟩, m1, m2, m3⟩
      obtain ⟨p1, p2, _⟩ := zip_get hi
      obtain ⟨p3, p4, _⟩ := zip_get p2
      have hl := g3.len
      have hl' := k3.len
      have hl'' := m3.len
      rw [List.length_map] at hl hl' hl''
      exact ⟨vs, vs', vs'', vs[i]'(by omega), vs'[i]'(by omega), vs''[i]'(by omega), SL.q (slof g2), SL.q (slof k2), SL.q (slof m2), by simp [hl, p1], by simp [hl', p3], by simp [hl'', p4]⟩
    · intro H M ⟨⟨g1, g2, g3⟩, ⟨k1, k2, k3⟩, m1, m2, m3⟩
      have hl := g3.len
      have hl' := k3.len
      have hl'' := m3.len
      rw [List.length_map] at hl hl' hl''
      exact ⟨vs, vs', vs'', SL.q (slof g2), SL.q (slof k2), SL.q (slof m2), by simp only [List.length_zip]; omega, by simp only [List.length_zip]; omega, by simp only [List.length_zip]; omega, by simp only [List.length_zip]; omega⟩
    · intro i H M x H' σ K' hi ⟨⟨g1, g2, g3⟩, ⟨k1, k2, k3⟩, m1, m2, m3⟩ y k
      obtain ⟨p1, p2, e1⟩ := zip_get hi
      obtain ⟨p3, p4, e2⟩ := zip_get p2
      obtain ⟨T, x1, x2, x3, rfl, hT, rfl, y1, y2, y3⟩ := y
      obtain ⟨w, hw, hp⟩ := g3.at i (f1 l[i]) (by simp [p1])
      obtain ⟨w', hw', hp'⟩ := k3.at i (f2 m[i]) (by simp [p3])
      obtain ⟨w'', hw'', hp''⟩ := m3.at i (f3 n[i]) (by simp [p4])
      have := y1 vs (SL.q (slof g2))
      rw [hw] at this
      obtain rfl := Option.some.inj this
      have := y2 vs' (SL.q (slof k2))
      rw [hw'] at this
      obtain rfl := Option.some.inj this
      have := y3 vs'' (SL.q (slof m2))
      rw [hw''] at this
      obtain rfl := Option.some.inj this
      rw [e1, e2] at k
      exact gTup3n (st_of upd_same) (k _ _ (Ex.new hT) (by simp) (fun _ h => set_at3 h) fun F Z ρ ok => ((ok.setR (Ex.new hT) (mon_R _ _ _ _ _ (Ex.new hT) hp)).setR (Ex.refl _) (mon_R _ _ _ _ _ (Ex.new hT) hp')).setR (Ex.refl _) (mon_R _ _ _ _ _ (Ex.new hT) hp''))
end

/-! ### comprehensions -/
theorem wipe_get {σ : L2.St} {k : Nat} : ∀ vs : List Nat, (L2.wipe σ vs)[k]? = if k ∈ vs then (if k < σ.length then some none else none) else σ[k]?
  | [] => by simp [L2.wipe]
  | v :: vs => by
    unfold L2.wipe
    rw [List.getElem?_set, L2.wipe_length]
    by_cases e : v = k
    · subst e
      simp
    · rw [if_neg e, wipe_get vs]
      have e' : ¬ k = v := fun z => e z.symm
      simp [e']
theorem wipe_eq {σ σ' : L2.St} {vs : List Nat} (hl : σ'.length = σ.length) (h : ∀ k, k ∉ vs → σ'[k]? = σ[k]?) : L2.wipe σ' vs = L2.wipe σ vs := by
  refine List.ext_getElem? fun k => ?_
  rw [wipe_get, wipe_get, hl]
  by_cases e : k ∈ vs
  · rw [if_pos e, if_pos e]
  · rw [if_neg e, if_neg e, h k e]
theorem wipe_wipe (σ : L2.St) (vs : List Nat) : L2.wipe (L2.wipe σ vs) vs = L2.wipe σ vs := wipe_eq (L2.wipe_length _ _) fun k hk => by rw [wipe_get, if_neg hk]
section
variable {K : PySem.W.Frag} {F : Addr → Prop} {Z Z' : Hp → (Addr → Prop) → Prop} {ρ : List Sl} {σ : L2.St} {H H' : Hp} {M : Addr → Prop} {p : Pat} {te : TE} {t : TT} {α : Type}
theorem Mb_app {bs cs : List Addr} {a : Addr} : Mb M (bs ++ cs) a ↔ Mb M bs a ∨ a ∈ cs := by
  unfold Mb
  rw [List.mem_append]
  constructor
  · rintro (h | h | h)
    · exact .inl (.inl h)
    · exact .inl (.inr h)
    · exact .inr h
  · rintro ((h | h) | h)
    · exact .inl h
    · exact .inr (.inl h)
    · exact .inr (.inr h)
/-- some new addresses are owned, too -/
theorem Ok.more (ok : Ok F Z ρ σ H M) {bs : List Addr} (e : Ex H H') (n : ∀ b ∈ bs, H b = none) (a : ∀ b ∈ bs, H' b ≠ none) : Ok F Z ρ σ H' (Mb M bs) := by
  obtain ⟨as, and_, own, sl⟩ := ok.sl
  refine ⟨⟨as, and_, fun b hb => ⟨.inl (own b hb).1, (own b hb).2⟩, sl.go (Go.add e n) fun b _ o h => e b o h⟩, ?_, fun b hb => .inl (ok.fr b hb), ?_, ok.mz⟩
  · rintro b (hb | hb) hn
    · exact ok.al b hb (fresh_back e hn)
    · exact a b hb hn
  · refine ok.mz _ _ _ _ ok.z ⟨fun b o _ h => e b o h, fun b hb => ?_⟩
    rcases hb.1 with h | h
    · exact .inl ⟨h, hb.2⟩
    · exact .inr (n b h)
theorem owF_snoc {M : Addr → Prop} {H : Hp} {d : Dt} {v : V} {bs : List Addr} (w : Ow M H d p v bs) : ∀ {ds : List Dt} {vs : List V} {cs : List Addr}, OwF M H ds (List.replicate ds.length p) vs cs → OwF M H (ds ++ [d]) (List.replicate (ds ++ [d]).length p) (vs ++ [v]) (cs ++ bs)
  | [], vs, cs, h => by
    unfold OwF at h
    obtain ⟨_, rfl, rfl⟩ := h
    show OwF M H [d] [p] [v] bs
    unfold OwF
    exact ⟨p, [], v, [], bs, [], rfl, rfl, by simp, w, by unfold OwF; exact ⟨rfl, rfl, rfl⟩⟩
  | e :: ds, vs, cs, h => by
    rw [List.length_cons, List.replicate_succ] at h
    unfold OwF at h
    obtain ⟨q, pr, u, r, b, c, e1, rfl, rfl, h1, h2⟩ := h
    obtain ⟨rfl, rfl⟩ := List.cons.inj e1
    show OwF M H (e :: (ds ++ [d])) (List.replicate ((ds ++ [d]).length + 1) _) _ _
    rw [List.replicate_succ]
    unfold OwF
    exact ⟨_, _, u, r ++ [v], b, c ++ bs, rfl, rfl, by rw [List.append_assoc], h1, owF_snoc w h2⟩
theorem p_lc {l : List α} {b : α → Bool} {f : α → Dt} {wi : TI} {gt : TG} {js : List Nat} {u : α → List Sl → List Sl} {vs : List Nat} (ok : Ok F Z ρ σ H M) (src : EvJ GoE M wi gt js σ H l u) (hz : l.length ≤ 40000) (hw : ∀ j ∈ js, j ∈ vs)
    (ht : ∀ x ∈ l, ∀ M' σ' H', Ok F Z (u x (wipeS ρ vs)) σ' H' M' → EvT t σ' H' (b x))
    (he : ∀ x ∈ l, b x = true → ∀ M' σ' H', Ok F Z (u x (wipeS ρ vs)) σ' H' M' → EvP M' te σ' H' (f x) p) :
    EvP M (tLc wi gt t te vs) σ H (.node .l ((l.filter b).map f)) (.ow p) := fun H0 e Q q =>
  src H0 e _ fun J H1 Gd e1 gd0 stay S Dl hD => by
    refine ⟨fun i m H' => m = l.length - i ∧ i ≤ l.length ∧ ∃ ws cs, Ex H1 H' ∧ H' Dl = some (.lst ws) ∧ cs.Nodup ∧ (∀ c ∈ cs, H1 c = none ∧ c ≠ Dl) ∧ OwF (Mb M (Dl :: cs)) H' (((l.take i).filter b).map f) (List.replicate (((l.take i).filter b).map f).length p) ws cs,
      ⟨l.length, by simp, Nat.zero_le _, [], [], Ex.new hD, upd_same, List.nodup_nil, (fun c hc => by cases hc), by
        simp only [List.take_zero, List.filter_nil, List.map_nil]
        unfold OwF
        exact ⟨rfl, rfl, rfl⟩⟩, ?_⟩
    rintro i m H' ⟨rfl, hi, ws, cs, p2, p3, p4, p5, p6⟩
    have ok1 : Ok F Z ρ σ H1 M := ok.ex (e.trans e1)
    have hDc : ∀ c ∈ Dl :: cs, H1 c = none := fun c hc => by
      rcases List.mem_cons.mp hc with rfl | hc
      · exact hD
      · exact (p5 c hc).1
    have hDa : ∀ c ∈ Dl :: cs, H' c ≠ none := fun c hc => by
      rcases List.mem_cons.mp hc with rfl | hc
      · rw [p3]; simp
      · exact p6.al c hc
    have ok' : Ok F Z (wipeS ρ vs) (L2.wipe σ vs) H' (Mb M (Dl :: cs)) := (ok1.more p2 hDc hDa).wipe vs
    have gd : Gd H' (Mb M (Dl :: cs)) := stay H1 M H' _ ⟨p2, fun a n hn z => by
      rcases z with z | z
      · exact n z
      · exact hn (hDc a z)⟩ gd0
    by_cases hlt : i < l.length
    · refine .inr ⟨S.go i H' _ hlt gd, fun H'' => ∃ ws cs, Ex H1 H'' ∧ H'' Dl = some (.lst ws) ∧ cs.Nodup ∧ (∀ c ∈ cs, H1 c = none ∧ c ≠ Dl) ∧ OwF (Mb M (Dl :: cs)) H'' (((l.take (i + 1)).filter b).map f) (List.replicate (((l.take (i + 1)).filter b).map f).length p) ws cs, fun H'' c => ⟨l.length - (i + 1), by omega, rfl, hlt, c⟩, fun x H2 y => ?_⟩
      refine S.yld i H' _ x H2 (L2.wipe σ vs) _ hlt gd y fun σ2 H3 e3 hl2 hs2 ok2 => ⟨?_, ?_⟩
      · rw [wipe_eq hl2 fun k hk => hs2 k fun z => hk (hw k z), wipe_wipe]
      have ok3 := ok2 F Z _ ok'
      have hm : l[i] ∈ l := List.getElem_mem hlt
      have hx : l.take (i + 1) = l.take i ++ [l[i]] := by rw [List.take_succ, List.getElem?_eq_getElem hlt]; rfl
      refine ht l[i] hm _ σ2 H3 ok3 H3 (Ex.refl _) _ fun H4 e4 => ?_
      have e34 := e3.trans e4
      cases hb : b l[i] with
      | true =>
        show te _ H4 _
        refine he l[i] hm hb _ σ2 H4 (ok3.ex e4) H4 (Ex.refl _) _ fun v bs H5 e5 nd5 n5 w5 => ?_
        have e35 := e34.trans e5
        have hcs5 : ∀ c ∈ Dl :: cs, c ∉ bs := fun c hc hbs => hDa c hc (fresh_back e34 (n5 c hbs))
        have hgo : Go (Mb (Mb M (Dl :: cs)) bs) H5 (Mb M (Dl :: (cs ++ bs))) (upd H5 Dl (.lst (ws ++ [v]))) := fun a o n h => by
          have hne : a ≠ Dl := fun z => n (.inl (.inr (by rw [z]; exact List.mem_cons_self)))
          refine ⟨by rw [upd_ne hne]; exact h, fun z => n ?_⟩
          rw [← List.cons_append] at z
          exact Mb_app.mp z
        refine ⟨ws, e35 _ _ p3, ?_, ws ++ [v], cs ++ bs, ?_, upd_same, ?_, ?_, ?_⟩
        · refine sz_lt ?_
          have h1 := (OwF.fr (M' := Mo) (fun _ _ z => z) (fun _ _ z => z) p6).len
          rw [h1, List.length_map]
          have := List.length_filter_le b (l.take i)
          rw [List.length_take] at this
          omega
        · exact Ex.mut (p2.trans e35) hD
        · rw [List.nodup_append]
          exact ⟨p4, nd5, fun a ha c hc z => hcs5 a (List.mem_cons_of_mem _ ha) (by rw [z]; exact hc)⟩
        · intro c hc
          rcases List.mem_append.mp hc with hc | hc
          · exact p5 c hc
          · exact ⟨fresh_back (p2.trans e34) (n5 c hc), fun z => hcs5 Dl List.mem_cons_self (by rw [← z]; exact hc)⟩
        · rw [hx, List.filter_append, List.map_append, List.filter_cons, if_pos hb]
          refine owF_snoc (d := f l[i]) ?_ ?_
          · refine w5.go hgo fun a ha o h => ?_
            rw [upd_ne (fun z => hcs5 Dl List.mem_cons_self (by rw [← z]; exact ha))]
            exact h
          · refine p6.go (M' := Mb M (Dl :: (cs ++ bs))) (fun a o n h => ?_) fun a ha o h => ?_
            · have hne : a ≠ Dl := fun z => n (.inr (by rw [z]; exact List.mem_cons_self))
              refine ⟨by rw [upd_ne hne]; exact e35 _ _ h, fun z => n ?_⟩
              rw [← List.cons_append] at z
              rcases Mb_app.mp z with z | z
              · exact z
              · exact absurd (fresh_back e34 (n5 a z)) (by rw [h]; simp)
            · rw [upd_ne (fun z => (p5 a ha).2 z)]
              exact e35 _ _ h
      | false =>
        show ∃ ws cs, _
        refine ⟨ws, cs, p2.trans e34, e34 _ _ p3, p4, p5, ?_⟩
        rw [hx, List.filter_append, List.filter_cons, if_neg (by rw [hb]; decide), List.filter_nil, List.append_nil]
        exact p6.go (Go.ex e34) fun a _ o h => e34 _ _ h
    · have ei : i = l.length := by omega
      subst ei
      rw [List.take_length] at p6
      refine .inl ⟨S.stop H' _ gd, q _ (Dl :: cs) H' (e1.trans p2) ?_ (fun c hc => fresh_back e1 (hDc c hc)) ?_⟩
      · rw [List.nodup_cons]
        exact ⟨fun h => (p5 Dl h).2 rfl, p4⟩
      · unfold Ow
        exact ⟨Dl, ws, cs, rfl, p3, rfl, p6⟩
theorem p_lc1 {l : List α} {f : α → Dt} {wi : TI} {gt : TG} {js : List Nat} {u : α → List Sl → List Sl} {vs : List Nat} (ok : Ok F Z ρ σ H M) (src : EvJ GoE M wi gt js σ H l u) (hz : l.length ≤ 40000) (hw : ∀ j ∈ js, j ∈ vs)
    (he : ∀ x ∈ l, ∀ M' σ' H', Ok F Z (u x (wipeS ρ vs)) σ' H' M' → EvP M' te σ' H' (f x) p) :
    EvP M (tLc wi gt tYes te vs) σ H (.node .l (l.map f)) (.ow p) := by
  have := p_lc (b := fun _ => true) (t := tYes) (te := te) (f := f) (p := p) ok src hz hw (fun x _ M' σ' H' _ H2 _ Q q => q H2 (Ex.refl _)) (fun x hx _ => he x hx)
  rwa [List.filter_eq_self.mpr (fun _ _ => rfl)] at this
end

/-! ### statements -/
def Nx (F : Addr → Prop) (Z : Hp → (Addr → Prop) → Prop) (P : List Sl → Prop) : L2.St → Hp → Prop := fun σ H => ∃ M ρ, Ok F Z ρ σ H M ∧ P ρ
section
variable {K : PySem.W.Frag} {F : Addr → Prop} {Z Z' : Hp → (Addr → Prop) → Prop} {ρ : List Sl} {σ : L2.St} {H H' H0 : Hp} {M : Addr → Prop} {d : Dt} {p : Pat} {v w : V} {bs : List Addr} {i j : Nat} {ta tb tc te tl : TE} {t : TT} {s : Sh} {ds es : List Dt} {α β γ : Type} {tr : TA} {D : Ends} {tu tw tz : TS} {g : TG} {wi : TI} {js : List Nat}
theorem c_asg (ok : Ok F Z ρ σ H M) (h : EvP M te σ H d p) (k : ∀ M' σ' H', Ok F Z (ρ.set i (.own d p)) σ' H' M' → D.nx σ' H') : tAsg te (gName i) D σ H :=
  h H (Ex.refl H) _ fun v bs H1 e nd n w => k _ _ _ (ok.set e nd n w)
theorem b_asg (ok : Ok F Z ρ σ H M) (h : EvP M te σ H d p) (k : ∀ M' σ' H', Ok F Z (ρ.set i (.own d p)) σ' H' M' → tz D σ' H') : tSeq (tAsg te (gName i)) tz D σ H := c_asg (D := { D with nx := tz D }) ok h k
theorem c_drop (ok : Ok F Z ρ σ H M) (h : EvP M te σ H d p) (k : ∀ M' σ' H', Ok F Z ρ σ' H' M' → D.nx σ' H') : tDrop te D σ H :=
  h H (Ex.refl H) _ fun v bs H1 e nd n w => k _ _ _ (ok.ex e)
theorem b_drop (ok : Ok F Z ρ σ H M) (h : EvP M te σ H d p) (k : ∀ M' σ' H', Ok F Z ρ σ' H' M' → tz D σ' H') : tSeq (tDrop te) tz D σ H := c_drop (D := { D with nx := tz D }) ok h k
theorem c_par {i2 : Nat} {d2 : Dt} {p2 : Pat} {tb : TE} (ok : Ok F Z ρ σ H M) (h : EvP M te σ H d p) (h2 : ∀ M' σ' H', Ok F Z ρ σ' H' M' → EvP M' tb σ' H' d2 p2) (k : ∀ M' σ' H', Ok F Z ((ρ.set i (.own d p)).set i2 (.own d2 p2)) σ' H' M' → D.nx σ' H') : tPar i i2 (tCons te (tCons tb tNil)) D σ H :=
  h H (Ex.refl H) _ fun v bs H1 e nd n w => by
    have ok1 : Ok F Z ρ σ H1 (Mb M bs) := ok.more e n w.al
    refine h2 _ _ _ ok1 H1 (Ex.refl _) _ fun v2 bs2 H2 e2 nd2 n2 w2 => ⟨v, v2, rfl, ?_⟩
    have s1 := (ok.set (i := i) e nd n w)
    have s2 := s1.set (i := i2) e2 nd2 n2 w2
    exact k _ _ _ s2
theorem b_par {i2 : Nat} {d2 : Dt} {p2 : Pat} {tb : TE} (ok : Ok F Z ρ σ H M) (h : EvP M te σ H d p) (h2 : ∀ M' σ' H', Ok F Z ρ σ' H' M' → EvP M' tb σ' H' d2 p2) (k : ∀ M' σ' H', Ok F Z ((ρ.set i (.own d p)).set i2 (.own d2 p2)) σ' H' M' → tz D σ' H') : tSeq (tPar i i2 (tCons te (tCons tb tNil))) tz D σ H := c_par (D := { D with nx := tz D }) ok h h2 k
theorem c_ret (ok : Ok F Z ρ σ H M) (h : EvP M te σ H d p) (k : RetP F H0 d p D.rt) (zz : ∀ H O, Z H O → Lt H0 Mo H O) : tRet te D σ H :=
  h H (Ex.refl H) _ fun v bs H1 e nd n w => by
    have l := zz _ _ ok.z
    refine k v bs H1 (l.out.trans e) nd (fun b hb => fresh_back l.out (n b hb)) (w.go (fun a o m h => ⟨h, fun z => m ?_⟩) fun _ _ _ h => h)
    rcases z with z | z
    · exact .inl (ok.fr a z)
    · exact .inr z
theorem Lt.own_new (l : Lt H0 Mo H (ownM M F)) {a : Addr} (h : M a ∧ ¬ F a) : H0 a = none := by
  rcases l.2 a h with z | z
  · exact z.elim
  · exact z
/-- return x, what the slot owns -/
theorem c_retv (ok : Ok F Z ρ σ H M) (hi : ρ[i]? = some (.own d p)) (k : RetP F H0 d p D.rt) (zz : ∀ H O, Z H O → Lt H0 Mo H O) : tRet (tVar i) D σ H := by
  obtain ⟨as, nd, own, sl⟩ := ok.sl
  obtain ⟨v, bs, cs, h1, h2, h3, h4⟩ := sl.out hi
  have l := zz _ _ ok.z
  have hb : ∀ b ∈ bs, M b ∧ ¬ F b := fun b hb => own b (h4.subset (List.mem_append_left _ hb))
  refine ⟨v, h1, k v bs H l.out (List.nodup_append.mp (h4.nodup_iff.mpr nd)).1 (fun b hbb => l.own_new (hb b hbb)) (h2.go (fun a o m h => ⟨h, fun z => m ?_⟩) fun _ _ _ h => h)⟩
  rcases z with z | z
  · exact ok.fr a z
  · exact (hb a z).1
theorem c_retN (ok : Ok F Z ρ σ H M) (k : RetP F H0 uN .sh D.rt) (zz : ∀ H O, Z H O → Lt H0 Mo H O) : tRetN D σ H :=
  k .non [] H (zz _ _ ok.z).out List.nodup_nil (fun b hb => nomatch hb) (by unfold Ow; exact ⟨rfl, rfl, rfl⟩)
theorem c_if {b : Bool} (ok : Ok F Z ρ σ H M) (h : EvT t σ H b) (h1 : b = true → ∀ M' σ' H', Ok F Z ρ σ' H' M' → tu D σ' H') (h2 : b = false → ∀ M' σ' H', Ok F Z ρ σ' H' M' → tw D σ' H') : tIfS t tu tw D σ H := s_if h (fun hb H1 e => h1 hb _ _ _ (ok.ex e)) (fun hb H1 e => h2 hb _ _ _ (ok.ex e))
theorem b_if {b : Bool} (ok : Ok F Z ρ σ H M) (h : EvT t σ H b) (h1 : b = true → ∀ M' σ' H', Ok F Z ρ σ' H' M' → tu { D with nx := tz D } σ' H') (h2 : b = false → ∀ M' σ' H', Ok F Z ρ σ' H' M' → tw { D with nx := tz D } σ' H') : tSeq (tIfS t tu tw) tz D σ H := q_if h (fun hb H1 e => h1 hb _ _ _ (ok.ex e)) (fun hb H1 e => h2 hb _ _ _ (ok.ex e))
theorem c_when {b : Bool} (ok : Ok F Z ρ σ H M) (h : EvT t σ H b) (h1 : b = true → ∀ M' σ' H', Ok F Z ρ σ' H' M' → tu D σ' H') (h2 : b = false → ∀ M' σ' H', Ok F Z ρ σ' H' M' → D.nx σ' H') : tIfS t tu tNext D σ H := s_when h (fun hb H1 e => h1 hb _ _ _ (ok.ex e)) (fun hb H1 e => h2 hb _ _ _ (ok.ex e))
theorem b_when {b : Bool} (ok : Ok F Z ρ σ H M) (h : EvT t σ H b) (h1 : b = true → ∀ M' σ' H', Ok F Z ρ σ' H' M' → tu { D with nx := tz D } σ' H') (h2 : b = false → ∀ M' σ' H', Ok F Z ρ σ' H' M' → tz D σ' H') : tSeq (tIfS t tu tNext) tz D σ H := q_when h (fun hb H1 e => h1 hb _ _ _ (ok.ex e)) (fun hb H1 e => h2 hb _ _ _ (ok.ex e))
/-- the ways meet in J -/
theorem b_ifJ {b : Bool} (J : List Sl → Prop) (ok : Ok F Z ρ σ H M) (h : EvT t σ H b) (h1 : b = true → ∀ M' σ' H', Ok F Z ρ σ' H' M' → (∀ ρ M σ H, J ρ → Ok F Z ρ σ H M → tz D σ H) → tu { D with nx := tz D } σ' H')
    (h2 : b = false → ∀ M' σ' H', Ok F Z ρ σ' H' M' → (∀ ρ M σ H, J ρ → Ok F Z ρ σ H M → tz D σ H) → tw { D with nx := tz D } σ' H') (k : ∀ ρ M σ H, J ρ → Ok F Z ρ σ H M → tz D σ H) : tSeq (tIfS t tu tw) tz D σ H := b_if ok h (fun hb M' σ' H' o => h1 hb _ _ _ o k) (fun hb M' σ' H' o => h2 hb _ _ _ o k)
theorem b_whenJ {b : Bool} (J : List Sl → Prop) (ok : Ok F Z ρ σ H M) (h : EvT t σ H b) (h1 : b = true → ∀ M' σ' H', Ok F Z ρ σ' H' M' → (∀ ρ M σ H, J ρ → Ok F Z ρ σ H M → tz D σ H) → tu { D with nx := tz D } σ' H')
    (h2 : b = false → J ρ) (k : ∀ ρ M σ H, J ρ → Ok F Z ρ σ H M → tz D σ H) : tSeq (tIfS t tu tNext) tz D σ H := b_when ok h (fun hb M' σ' H' o => h1 hb _ _ _ o k) (fun hb M' σ' H' o => k _ _ _ _ (h2 hb) o)
/-- if ..: (never) -/
theorem b_skip (ok : Ok F Z ρ σ H M) (h : EvT t σ H false) (k : ∀ M' σ' H', Ok F Z ρ σ' H' M' → tz D σ' H') : tSeq (tIfS t tu tNext) tz D σ H := b_when ok h (fun e => nomatch e) fun _ => k
theorem c_skip (ok : Ok F Z ρ σ H M) (h : EvT t σ H false) (k : ∀ M' σ' H', Ok F Z ρ σ' H' M' → D.nx σ' H') : tIfS t tu tNext D σ H := c_when ok h (fun e => nomatch e) fun _ => k
/-- xs.append(e) -/
theorem c_app {f : α → Dt} {xs : List α} {x : α} (ok : Ok F Z ρ σ H M) (hi : ρ[i]? = some (mu (.node .l (xs.map f)))) (h : EvR M te σ H (f x)) (hz : xs.length < 100000) (k : ∀ M' σ' H', Ok F Z (ρ.set i (mu (.node .l ((xs ++ [x]).map f)))) σ' H' M' → D.nx σ' H') : tDrop (tBM K "list" rAppend (tVar i) (tCons te tNil)) D σ H := by
  obtain ⟨a, vs, h1, h2, h3, h4⟩ := ok.mut hi
  have h2 : H a = some (.lst vs) := h2
  refine ⟨.ref a, h1, .inl ⟨rfl, vs, SL.q (slof h2)⟩, ?_⟩
  refine h H (Ex.refl _) _ fun v H1 e1 r => ⟨a, vs, v, rfl, rfl, e1 _ _ h2, sz_lt (by rw [h3.len, List.length_map]; exact hz), ?_⟩
  refine k _ _ _ (h4 H1 e1 _ .l _ (vs ++ [v]) upd_same ?_)
  rw [List.map_append]
  exact (RpL.go (Go.ex e1) h3).app (RpL.one r)
theorem b_app {f : α → Dt} {xs : List α} {x : α} (ok : Ok F Z ρ σ H M) (hi : ρ[i]? = some (mu (.node .l (xs.map f)))) (h : EvR M te σ H (f x)) (hz : xs.length < 100000) (k : ∀ M' σ' H', Ok F Z (ρ.set i (mu (.node .l ((xs ++ [x]).map f)))) σ' H' M' → tz D σ' H') : tSeq (tDrop (tBM K "list" rAppend (tVar i) (tCons te tNil))) tz D σ H := c_app (D := { D with nx := tz D }) ok hi h hz k
/-- xs[n] = e -/
theorem c_setL {f : α → Dt} {xs : List α} {x : α} {n : Nat} (ok : Ok F Z ρ σ H M) (hi : ρ[i]? = some (mu (.node .l (xs.map f)))) (h : EvR M te σ H (f x)) (hn : Ev tb σ H (.int (n : Int))) (hz : n < xs.length) (k : ∀ M' σ' H', Ok F Z (ρ.set i (mu (.node .l ((xs.set n x).map f)))) σ' H' M' → D.nx σ' H') : tAsg te (gSub (tVar i) tb rSetL) D σ H := by
  obtain ⟨a, vs, h1, h2, h3, h4⟩ := ok.mut hi
  have h2 : H a = some (.lst vs) := h2
  refine h H (Ex.refl _) _ fun v H1 e1 r => ⟨.ref a, h1, ?_⟩
  refine hn H1 e1 _ fun H2 e2 => ⟨a, vs, (n : Int), n, rfl, rfl, e2 _ _ (e1 _ _ h2), ?_, ?_⟩
  · have hl := h3.len
    rw [List.length_map] at hl
    exact ixN_nat (by omega)
  · refine k _ _ _ (h4 H2 (e1.trans e2) _ .l _ (vs.set n v) upd_same ?_)
    rw [List.map_set]
    exact (RpL.go (Go.ex (e1.trans e2)) h3).set (mon_R _ _ _ _ _ e2 r) n
theorem b_setL {f : α → Dt} {xs : List α} {x : α} {n : Nat} (ok : Ok F Z ρ σ H M) (hi : ρ[i]? = some (mu (.node .l (xs.map f)))) (h : EvR M te σ H (f x)) (hn : Ev tb σ H (.int (n : Int))) (hz : n < xs.length) (k : ∀ M' σ' H', Ok F Z (ρ.set i (mu (.node .l ((xs.set n x).map f)))) σ' H' M' → tz D σ' H') : tSeq (tAsg te (gSub (tVar i) tb rSetL)) tz D σ H := c_setL (D := { D with nx := tz D }) ok hi h hn hz k
/-- x += n -/
theorem c_aug {n m : Int} {f : Int → Int → Int} (ok : Ok F Z ρ σ H M) (hi : ρ[i]? = some (st (uI n))) (h : Ev te σ H (.int m)) (k : ∀ M' σ' H', Ok F Z (ρ.set i (st (uI (f n m)))) σ' H' M' → D.nx σ' H') : tAug i te (ipI f) D σ H := by
  obtain ⟨u, bs, h1, h2⟩ := ok.get hi
  unfold Ow at h2
  rw [h2.2.1] at h1
  exact ⟨_, h1, h H (Ex.refl _) _ fun H1 e1 => ⟨n, m, rfl, rfl, k _ _ _ (ok.setR e1 (by unfold Rp; rfl))⟩⟩
theorem b_aug {n m : Int} {f : Int → Int → Int} (ok : Ok F Z ρ σ H M) (hi : ρ[i]? = some (st (uI n))) (h : Ev te σ H (.int m)) (k : ∀ M' σ' H', Ok F Z (ρ.set i (st (uI (f n m)))) σ' H' M' → tz D σ' H') : tSeq (tAug i te (ipI f)) tz D σ H := c_aug (D := { D with nx := tz D }) ok hi h k
/-! loops -/
theorem c_forB {l : List α} {u : α → List Sl → List Sl} (B : List Sl → Prop) (P : Nat → List Sl → Prop) (ok : Ok F Z ρ σ H M) (src : EvJ GoM M wi g js σ H l u) (h0 : P 0 ρ)
    (turn : ∀ Z', (∀ H O, Z' H O → Z H O) → (∀ ρ' M' σ' H', B ρ' → Ok F Z' ρ' σ' H' M' → D.nx σ' H') → ∀ i x ρ' M' σ' H', l[i]? = some x → P i ρ' → Ok F Z' (u x ρ') σ' H' M' → tu { D with nx := Nx F Z' (P (i + 1)), ct := Nx F Z' (P (i + 1)), bk := D.nx } σ' H')
    (brk : ∀ ρ' M' σ' H', B ρ' → Ok F Z ρ' σ' H' M' → D.nx σ' H')
    (done : ∀ ρ' M' σ' H', P l.length ρ' → Ok F Z ρ' σ' H' M' → D.nx σ' H') : tFor wi g tu D σ H :=
  src H (Ex.refl H) _ fun J H1 Gd e1 gd0 stay S => by
    have ok1 := (ok.ex e1).mark
    have zz : ∀ H' O', (Z H' O' ∧ Lt H1 (ownM M F) H' O') → Z H' O' := fun _ _ z => z.1
    refine ⟨fun i m σ' H' => m = l.length - i ∧ i ≤ l.length ∧ Nx F (fun H' O' => Z H' O' ∧ Lt H1 (ownM M F) H' O') (P i) σ' H', ⟨l.length, by simp, Nat.zero_le _, M, ρ, ok1, h0⟩, ?_⟩
    rintro i m σ' H' ⟨rfl, hi, M', ρ', ok', hp⟩
    have gd : Gd H' M' := stay _ _ _ _ (fun a o n h => by
      have l := ok'.z.2
      refine ⟨l.1 a o (fun z => n z.1) h, fun z => ?_⟩
      by_cases hf : F a
      · exact n (ok.fr a hf)
      · rcases l.2 a ⟨z, hf⟩ with q | q
        · exact n q.1
        · rw [q] at h; cases h) gd0
    by_cases hlt : i < l.length
    · refine .inr ⟨S.go i H' _ hlt gd, Nx F (fun H' O' => Z H' O' ∧ Lt H1 (ownM M F) H' O') (P (i + 1)), fun σ'' H'' c => ⟨l.length - (i + 1), by omega, rfl, hlt, c⟩, fun x H2 y => ?_⟩
      exact S.yld i H' _ x H2 σ' _ hlt gd y fun σ'' H'' e'' _ _ k => turn _ zz (fun ρ' M' σ' H' b o => brk _ _ _ _ b (o.weak zz ok.mz)) i l[i] ρ' _ _ _ (by simp [hlt]) hp (k F _ _ ok')
    · have ei : i = l.length := by omega
      subst ei
      exact .inl ⟨S.stop H' _ gd, done _ _ _ _ hp (ok'.weak zz ok.mz)⟩
theorem c_for {l : List α} {u : α → List Sl → List Sl} (P : Nat → List Sl → Prop) (ok : Ok F Z ρ σ H M) (src : EvJ GoM M wi g js σ H l u) (h0 : P 0 ρ)
    (turn : ∀ Z', (∀ H O, Z' H O → Z H O) → ∀ i x ρ' M' σ' H', l[i]? = some x → P i ρ' → Ok F Z' (u x ρ') σ' H' M' → tu { D with nx := Nx F Z' (P (i + 1)), ct := Nx F Z' (P (i + 1)), bk := D.nx } σ' H')
    (done : ∀ ρ' M' σ' H', P l.length ρ' → Ok F Z ρ' σ' H' M' → D.nx σ' H') : tFor wi g tu D σ H :=
  c_forB (fun _ => False) P ok src h0 (fun Z' zz _ => turn Z' zz) (fun _ _ _ _ h => h.elim) done
theorem b_for {l : List α} {u : α → List Sl → List Sl} (P : Nat → List Sl → Prop) (ok : Ok F Z ρ σ H M) (src : EvJ GoM M wi g js σ H l u) (h0 : P 0 ρ)
    (turn : ∀ Z', (∀ H O, Z' H O → Z H O) → ∀ i x ρ' M' σ' H', l[i]? = some x → P i ρ' → Ok F Z' (u x ρ') σ' H' M' → tu { D with nx := Nx F Z' (P (i + 1)), ct := Nx F Z' (P (i + 1)), bk := tz D } σ' H')
    (done : ∀ ρ' M' σ' H', P l.length ρ' → Ok F Z ρ' σ' H' M' → tz D σ' H') : tSeq (tFor wi g tu) tz D σ H := c_for (D := { D with nx := tz D }) P ok src h0 turn done
theorem b_forB {l : List α} {u : α → List Sl → List Sl} (B : List Sl → Prop) (P : Nat → List Sl → Prop) (ok : Ok F Z ρ σ H M) (src : EvJ GoM M wi g js σ H l u) (h0 : P 0 ρ)
    (turn : ∀ Z', (∀ H O, Z' H O → Z H O) → (∀ ρ' M' σ' H', B ρ' → Ok F Z' ρ' σ' H' M' → tz D σ' H') → ∀ i x ρ' M' σ' H', l[i]? = some x → P i ρ' → Ok F Z' (u x ρ') σ' H' M' → tu { D with nx := Nx F Z' (P (i + 1)), ct := Nx F Z' (P (i + 1)), bk := tz D } σ' H')
    (brk : ∀ ρ' M' σ' H', B ρ' → Ok F Z ρ' σ' H' M' → tz D σ' H')
    (done : ∀ ρ' M' σ' H', P l.length ρ' → Ok F Z ρ' σ' H' M' → tz D σ' H') : tSeq (tFor wi g tu) tz D σ H := c_forB (D := { D with nx := tz D }) B P ok src h0 turn brk done
/-- while; P with what is left -/
theorem c_while (P : Nat → List Sl → Prop) (m0 : Nat) (ok : Ok F Z ρ σ H M) (h0 : P m0 ρ)
    (turn : ∀ m ρ' M' σ' H', P m ρ' → Ok F Z ρ' σ' H' M' → ∃ b, EvT t σ' H' b ∧ (b = true → ∀ M' σ' H', Ok F Z ρ' σ' H' M' → tu { D with nx := Nx F Z (fun r => ∃ m', m' < m ∧ P m' r), ct := Nx F Z (fun r => ∃ m', m' < m ∧ P m' r), bk := D.nx } σ' H') ∧ (b = false → ∀ M' σ' H', Ok F Z ρ' σ' H' M' → D.nx σ' H')) : tWhile t tu D σ H :=
  s_while (fun m σ' H' => Nx F Z (P m) σ' H') m0 ⟨M, ρ, ok, h0⟩ fun m σ' H' ⟨M', ρ', ok', hp⟩ => by
    obtain ⟨b, h1, h2, h3⟩ := turn m ρ' M' σ' H' hp ok'
    exact ⟨b, h1, fun hb H1 e => ⟨_, fun σ2 H2 ⟨M2, ρ2, o2, m', hm, hp2⟩ => ⟨m', hm, M2, ρ2, o2, hp2⟩, h2 hb _ _ _ (ok'.ex e)⟩, fun hb H1 e => h3 hb _ _ _ (ok'.ex e)⟩
theorem b_while (P : Nat → List Sl → Prop) (m0 : Nat) (ok : Ok F Z ρ σ H M) (h0 : P m0 ρ)
    (turn : ∀ m ρ' M' σ' H', P m ρ' → Ok F Z ρ' σ' H' M' → ∃ b, EvT t σ' H' b ∧ (b = true → ∀ M' σ' H', Ok F Z ρ' σ' H' M' → tu { D with nx := Nx F Z (fun r => ∃ m', m' < m ∧ P m' r), ct := Nx F Z (fun r => ∃ m', m' < m ∧ P m' r), bk := tz D } σ' H') ∧ (b = false → ∀ M' σ' H', Ok F Z ρ' σ' H' M' → tz D σ' H')) : tSeq (tWhile t tu) tz D σ H := c_while (D := { D with nx := tz D }) P m0 ok h0 turn
end
end Ho

/-! Ho, part L: a def's entry; dicts; == of data; reversed ranges -/
namespace Ho
open PySem PySem.Spec PyProof.Rows L2 Evl

theorem Ok.start {F : Addr → Prop} {ρ : List Sl} {σ : L2.St} {H : Hp} (al : Al F H) (sl : OkL F H ρ σ []) : Ok F (fun H' O' => Lt H Mo H' O') ρ σ H F :=
  ⟨⟨[], List.nodup_nil, (fun a ha => by cases ha), sl⟩, al, fun _ h => h, ⟨fun _ _ _ h => h, fun b hb => (hb.2 hb.1).elim⟩, fun _ _ _ _ z l => z.trans l⟩
def Pat.flat : Pat → Bool
  | .sh => true
  | .ow .sh => true
  | _ => false
section
variable {K : PySem.W.Frag} {F : Addr → Prop} {Z Z' : Hp → (Addr → Prop) → Prop} {ρ : List Sl} {σ : L2.St} {H H' Hb : Hp} {M : Addr → Prop} {d : Dt} {p : Pat} {v w : V} {bs : List Addr} {i j : Nat} {ta tb tc te tl : TE} {t : TT} {s : Sh} {ds es : List Dt} {α β γ : Type} {tr : TA} {a b : Row} {D : Ends}
theorem Ok.nx (ok : Ok F Z ρ σ H M) (h : ρ[i]? = some (.own (.node s ds) p)) (hp : p.flat = true) : EvN M (tVar i) σ H s ds := by
  match p, hp with
  | .sh, _ => exact r_n (ok.r h)
  | .ow .sh, _ => exact ok.n h
theorem c_end {Q : VK} (ok : Ok F Z ρ σ H M) (k : RetP F Hb uN .sh Q) (zz : ∀ H O, Z H O → Lt Hb Mo H O) : Q .non H :=
  k .non [] H (zz _ _ ok.z).out List.nodup_nil (fun b hb => nomatch hb) (by unfold Ow; exact ⟨rfl, rfl, rfl⟩)
/-! dicts of texts -/
theorem ev_get2G {r : Dic} {dd : Row} (h : EvG ta σ H (isD (DS r))) (hb : Ev tb σ H (VS a)) (hc : Ev tc σ H (VS dd)) : Ev (tDGet2 ta tb tc) σ H (VS ((look r a).getD dd)) := fun H1 e Q q =>
  h H1 e _ fun v H2 e2 ⟨p, ep, h2⟩ => ⟨p, ep, .inl ⟨_, .inl h2⟩, hb H2 (e.trans e2) _ fun H3 e3 => hc H3 ((e.trans e2).trans e3) _ fun H4 e4 => ⟨_, DGet.k (k := Sum.inr (S a)) (e4 _ _ (e3 _ _ h2)), by
    rw [DS_val]
    have q4 := q H4 ((e2.trans e3).trans e4)
    cases hk : look r a with
    | none => rw [hk] at q4; exact q4
    | some v => rw [hk] at q4; exact q4⟩⟩
theorem ev_dinG {r : Dic} (hb : Ev tb σ H (VS a)) (h : EvG ta σ H (isD (DS r))) : Ev (tDIn tb ta) σ H (.bl (look r a).isSome) := fun H1 e Q q =>
  hb H1 e _ fun H2 e2 => h H2 (e.trans e2) _ fun v H3 e3 ⟨p, ep, h3⟩ => ⟨p, _, ep, DGet.k (k := Sum.inr (S a)) h3, by
    rw [DS_val, Option.isSome_map]
    exact q H3 (e2.trans e3)⟩
theorem ev_dgetG {r : Dic} (h : EvG ta σ H (isD (DS r))) (hb : Ev tb σ H (VS a)) (hv : (look r a).isSome = true) : Ev (tDGet ta tb) σ H (VS ((look r a).getD [])) := fun H1 e Q q =>
  h H1 e _ fun v H2 e2 ⟨p, ep, h2⟩ => hb H2 (e.trans e2) _ fun H3 e3 => ⟨p, VS ((look r a).getD []), ep, by
    have := DGet.k (k := Sum.inr (S a)) (e3 _ _ h2)
    obtain ⟨v, hv⟩ := Option.isSome_iff_exists.mp hv
    rw [DS_val, hv] at this
    rw [hv]
    exact this, q H3 (e2.trans e3)⟩
end

/-! ### == of data: f's data as the model's own, by g; told apart just as the values are -/
structure Eqd {α : Type} [DecidableEq α] (f : α → Dt) (sm : α → Prop) (n : Nat) (g : α → PyData) : Prop where
  dp : ∀ (K : PySem.W.Frag) (H : Hp) (x : α) (v : V), Rp Mo H (f x) v → Dp K H v (g x)
  eq : ∀ x y, PyData.eqv (g x) (g y) = decide (x = y)
  lay : ∀ x, sm x → PyData.canLay0 (g x) = true
  dep : ∀ x, (g x).depth ≤ n
theorem eqd_I : Eqd uI (fun _ => True) 0 .int := by
  refine ⟨fun K H x v h => ?_, fun x y => ?_, fun x _ => by rw [PyData.canLay0], fun x => by rw [PyData.depth]; exact Nat.le_refl _⟩
  · unfold Rp at h
    rw [h]
    exact .int x
  · rw [PyData.eqv]
    by_cases h : x = y
    · subst h; simp
    · simp [h]
theorem eqd_B : Eqd uB (fun _ => True) 0 .bool := by
  refine ⟨fun K H x v h => ?_, fun x y => ?_, fun x _ => by rw [PyData.canLay0], fun x => by rw [PyData.depth]; exact Nat.le_refl _⟩
  · unfold Rp at h
    rw [h]
    exact .bl x
  · cases x <;> cases y <;> rfl
theorem eqd_S : Eqd uS SmR 0 dS := by
  refine ⟨fun K H x v h => ?_, fun x y => ?_, fun x h => ?_, fun x => ?_⟩
  · unfold Rp at h
    rw [h]
    exact .str (S x)
  · show PyData.eqv (.str (S x)) (.str (S y)) = _
    rw [PyData.eqv]
    by_cases h : x = y
    · subst h; simp
    · rw [decide_eq_false h]
      exact beq_eq_false_iff_ne.mpr fun e => h (S_inj e)
  · show PyData.canLay0 (.str (S x)) = true
    rw [PyData.canLay0, strOk_S h]
  · show PyData.depth (.str (S x)) ≤ 0
    rw [PyData.depth]
    exact Nat.le_refl _
theorem eqd_L {α : Type} [DecidableEq α] {f : α → Dt} {sm : α → Prop} {n : Nat} {g : α → PyData} (E : Eqd f sm n g) : Eqd (fun xs : List α => Dt.node .l (xs.map f)) (fun xs => ∀ x ∈ xs, sm x) (n + 1) (fun xs => .list (xs.map g)) := by
  have all : ∀ (K : PySem.W.Frag) (H : Hp) (xs : List α) (vs : List V), RpL Mo H (xs.map f) vs → DpAll K H vs (xs.map g) := by
    intro K H xs
    induction xs with
    | nil =>
      intro vs h
      rw [List.map_nil] at h
      unfold RpL at h
      rw [h]
      exact .nil
    | cons x xs ih =>
      intro vs h
      rw [List.map_cons] at h
      unfold RpL at h
      obtain ⟨v, r, rfl, h1, h2⟩ := h
      exact .cons (E.dp K H x v h1) (ih r h2)
  refine ⟨fun K H xs v h => ?_, fun xs ys => ?_, fun xs h => ?_, fun xs => ?_⟩
  · unfold Rp at h
    obtain ⟨a, vs, rfl, _, o, r⟩ := h
    exact .lst (SL.q (slof o)) (all K H xs vs r)
  · show PyData.eqv (.list (xs.map g)) (.list (ys.map g)) = _
    rw [PyData.eqv]
    induction xs generalizing ys with
    | nil => cases ys <;> simp [PyData.eqvAll]
    | cons x xs ih =>
      cases ys with
      | nil => simp [PyData.eqvAll]
      | cons y ys =>
        rw [List.map_cons, List.map_cons, PyData.eqvAll, ih ys, E.eq]
        by_cases h : x = y
        · subst h; simp
        · simp [h]
  · show PyData.canLay0 (.list (xs.map g)) = true
    rw [PyData.canLay0]
    induction xs with
    | nil => rw [List.map_nil, PyData.canLayAll0]
    | cons x xs ih => rw [List.map_cons, PyData.canLayAll0, E.lay x (h x List.mem_cons_self), ih fun y hy => h y (List.mem_cons_of_mem _ hy)]; rfl
  · show PyData.depth (.list (xs.map g)) ≤ n + 1
    rw [PyData.depth]
    refine Nat.succ_le_succ ?_
    induction xs with
    | nil => rw [List.map_nil, PyData.depthAll]; exact Nat.zero_le _
    | cons x xs ih =>
      rw [List.map_cons, PyData.depthAll]
      exact Nat.max_le.mpr ⟨E.dep x, ih⟩
theorem eqd_T {α β : Type} [DecidableEq α] [DecidableEq β] {f : α → Dt} {sm : α → Prop} {n : Nat} {g : α → PyData} {f2 : β → Dt} {sm2 : β → Prop} {n2 : Nat} {g2 : β → PyData} (E : Eqd f sm n g) (E2 : Eqd f2 sm2 n2 g2) :
    Eqd (fun p : α × β => Dt.node .t [f p.1, f2 p.2]) (fun p => sm p.1 ∧ sm2 p.2) (max n n2 + 1) (fun p => .tuple [g p.1, g2 p.2]) := by
  refine ⟨fun K H p v h => ?_, fun p q => ?_, fun p h => ?_, fun p => ?_⟩
  · unfold Rp at h
    obtain ⟨a, vs, rfl, _, o, r⟩ := h
    simp only [RpL] at r
    obtain ⟨v1, r1, rfl, h1, v2, r2, rfl, h2, rfl⟩ := r
    exact .tup (ST.q (stof o)) (.cons (E.dp K H _ _ h1) (.cons (E2.dp K H _ _ h2) .nil))
  · obtain ⟨a, b⟩ := p
    obtain ⟨c, d⟩ := q
    show PyData.eqv (.tuple [g a, g2 b]) (.tuple [g c, g2 d]) = _
    rw [PyData.eqv, PyData.eqvAll, PyData.eqvAll, PyData.eqvAll, E.eq, E2.eq]
    by_cases h : a = c <;> by_cases h' : b = d <;> simp [h, h']
  · show PyData.canLay0 (.tuple [g p.1, g2 p.2]) = true
    rw [PyData.canLay0, PyData.canLayAll0, PyData.canLayAll0, PyData.canLayAll0, E.lay _ h.1, E2.lay _ h.2]
    rfl
  · show PyData.depth (.tuple [g p.1, g2 p.2]) ≤ _
    rw [PyData.depth, PyData.depthAll, PyData.depthAll, PyData.depthAll]
    have h1 := E.dep p.1
    have h2 := E2.dep p.2
    omega
section
variable {K : PySem.W.Frag} {σ : L2.St} {H : Hp} {ta tb : TE} {α : Type} [DecidableEq α] {f : α → Dt} {sm : α → Prop} {n : Nat} {g : α → PyData} {x y : α}
theorem ev_eqE (E : Eqd f sm n g) (h1 : EvR Mo ta σ H (f x)) (h2 : EvR Mo tb σ H (f y)) (s1 : sm x) (s2 : sm y) (hn : n ≤ 64 := by decide) : Ev (tOp (rEqD K) ta tb) σ H (.bl (decide (x = y))) := fun H1 e Q q =>
  h1 H1 e _ fun v H2 e2 g1 => h2 H2 (e.trans e2) _ fun v' H3 e3 g2 => ⟨g x, g y, E.dp K H3 x v (mon_R _ _ _ _ _ e3 g1), E.dp K H3 y v' g2, by
    unfold SeqAt.shaped
    rw [E.lay x s1, decide_eq_true (Nat.le_trans (E.dep x) hn)]
    rfl, by
    unfold SeqAt.shaped
    rw [E.lay y s2, decide_eq_true (Nat.le_trans (E.dep y) hn)]
    rfl, by rw [E.eq]; exact q H3 (e2.trans e3)⟩
theorem ev_neE (E : Eqd f sm n g) (h1 : EvR Mo ta σ H (f x)) (h2 : EvR Mo tb σ H (f y)) (s1 : sm x) (s2 : sm y) (hn : n ≤ 64 := by decide) : Ev (tOp (rNeD K) ta tb) σ H (.bl (!decide (x = y))) := fun H1 e Q q =>
  h1 H1 e _ fun v H2 e2 g1 => h2 H2 (e.trans e2) _ fun v' H3 e3 g2 => ⟨g x, g y, E.dp K H3 x v (mon_R _ _ _ _ _ e3 g1), E.dp K H3 y v' g2, by
    unfold SeqAt.shaped
    rw [E.lay x s1, decide_eq_true (Nat.le_trans (E.dep x) hn)]
    rfl, by
    unfold SeqAt.shaped
    rw [E.lay y s2, decide_eq_true (Nat.le_trans (E.dep y) hn)]
    rfl, by rw [E.eq]; exact q H3 (e2.trans e3)⟩
end

/-! ### min, max with a default -/
def vO (o : Option Int) : V := match o with
  | none => .non
  | some i => .int i
def lMin : List Int → Option Int
  | [] => none
  | n :: r => some (r.foldl min n)
def lMax : List Int → Option Int
  | [] => none
  | n :: r => some (r.foldl max n)
def rMinDf (K : PySem.W.Frag) : List V → List V → Hp → VK → Prop := fun vs zs H Q => ∃ a ns d, vs = [.ref a] ∧ zs = [d] ∧ SqL K H a (ns.map V.int) ∧ Q (match lMin ns with | none => d | some i => .int i) H
def rMaxDf (K : PySem.W.Frag) : List V → List V → Hp → VK → Prop := fun vs zs H Q => ∃ a ns d, vs = [.ref a] ∧ zs = [d] ∧ SqL K H a (ns.map V.int) ∧ Q (match lMax ns with | none => d | some i => .int i) H
theorem alike_I (ns : List Int) : PySem.W.AlikeAll (ns.map PyData.int) := by
  constructor
  · intro x hx y hy
    obtain ⟨a, _, rfl⟩ := List.mem_map.mp hx
    obtain ⟨b, _, rfl⟩ := List.mem_map.mp hy
    rw [PySem.W.alike]
  · intro x hx
    obtain ⟨a, _, rfl⟩ := List.mem_map.mp hx
    intro h
    cases h
theorem ck_minDf {X : Cx} {K : PySem.W.Frag} (hc : X.calm = true) (hu : X.A.units + 64 < cLine) (hK : X.K = K := by rfl) : CallRK X (.builtin "min") ["default"] (rMinDf K) := by
  subst hK
  intro pins s σ H xs zs us ws Q I r rz h
  obtain ⟨a, ns, d, rfl, rfl, hs, q⟩ := h
  rw [Vals.ref1 r]
  obtain ⟨dv, rfl, rd⟩ := rz.one
  obtain ⟨its, rv, hl, _⟩ := I.list hs
  obtain ⟨as, hr⟩ := Dp.readsAll I (ns.map .int) _ its (dp_I ns) rv
  refine PySem.W.min_list_default (I.ok.hd hc) hl.isList hr (alike_I ns) (by rw [depth_I]; omega) (fun e h' tk hk => ?_) fun y ys i v h' tk bs e hv hr' hk => ?_
  · have : ns = [] := by simpa using e
    subst this
    exact ⟨d, H, I.kept hk, rd, q⟩
  · cases ns with
    | nil => cases e
    | cons n r =>
      rw [List.map_cons] at e
      obtain ⟨rfl, rfl⟩ := List.cons.inj e
      rw [PySem.W.minD_ints] at hr'
      cases hr'
      exact ⟨.int _, H, I.kept hk, ⟨_, rfl⟩, q⟩
theorem ck_maxDf {X : Cx} {K : PySem.W.Frag} (hc : X.calm = true) (hu : X.A.units + 64 < cLine) (hK : X.K = K := by rfl) : CallRK X (.builtin "max") ["default"] (rMaxDf K) := by
  subst hK
  intro pins s σ H xs zs us ws Q I r rz h
  obtain ⟨a, ns, d, rfl, rfl, hs, q⟩ := h
  rw [Vals.ref1 r]
  obtain ⟨dv, rfl, rd⟩ := rz.one
  obtain ⟨its, rv, hl, _⟩ := I.list hs
  obtain ⟨as, hr⟩ := Dp.readsAll I (ns.map .int) _ its (dp_I ns) rv
  refine PySem.W.max_list_default (I.ok.hd hc) hl.isList hr (alike_I ns) (by rw [depth_I]; omega) (fun e h' tk hk => ?_) fun y ys i v h' tk bs e hv hr' hk => ?_
  · have : ns = [] := by simpa using e
    subst this
    exact ⟨d, H, I.kept hk, rd, q⟩
  · cases ns with
    | nil => cases e
    | cons n r =>
      rw [List.map_cons] at e
      obtain ⟨rfl, rfl⟩ := List.cons.inj e
      rw [PySem.W.maxD_ints] at hr'
      cases hr'
      exact ⟨.int _, H, I.kept hk, ⟨_, rfl⟩, q⟩
section
variable {K : PySem.W.Frag} {σ : L2.St} {H : Hp} {ta tb te : TE} {t : TT} {tr tk : TA} {d : V} {ns : List Int} {o : Option Int}
theorem ev_minDf (h : EvQ K te σ H (ns.map V.int)) (hd : Ev tb σ H d) : Ev (tCKw (rMinDf K) (tCons te tNil) (tCons tb tNil)) σ H (match lMin ns with | none => d | some i => .int i) := fun H1 e Q q =>
  h H1 e _ fun a H2 e2 hs => hd H2 (e.trans e2) _ fun H3 e3 => ⟨a, ns, d, rfl, rfl, (exl (K := K) e3 hs).q, q H3 (e2.trans e3)⟩
theorem ev_maxDf (h : EvQ K te σ H (ns.map V.int)) (hd : Ev tb σ H d) : Ev (tCKw (rMaxDf K) (tCons te tNil) (tCons tb tNil)) σ H (match lMax ns with | none => d | some i => .int i) := fun H1 e Q q =>
  h H1 e _ fun a H2 e2 hs => hd H2 (e.trans e2) _ fun H3 e3 => ⟨a, ns, d, rfl, rfl, (exl (K := K) e3 hs).q, q H3 (e2.trans e3)⟩
theorem ev_minN (h : EvQ K te σ H (ns.map V.int)) (hd : Ev tb σ H .non) : Ev (tCKw (rMinDf K) (tCons te tNil) (tCons tb tNil)) σ H (vO (lMin ns)) := by
  have := ev_minDf h hd
  cases hl : lMin ns with
  | none => rw [hl] at this; exact this
  | some i => rw [hl] at this; exact this
/-! options -/
theorem vO_non : decide (vO o = .non) = o.isNone := by cases o <;> simp [vO]
theorem ev_isNoO (ha : Ev ta σ H (vO o)) (hb : Ev tb σ H .non) : Ev (tOp (rIsNo false) ta tb) σ H (.bl o.isNone) := Ev.is (ev_isNo ha hb) (by rw [vO_non])
theorem ev_isntNoO (ha : Ev ta σ H (vO o)) (hb : Ev tb σ H .non) : Ev (tOp (rIsNo true) ta tb) σ H (.bl o.isSome) := Ev.is (ev_isntNo ha hb) (by rw [vO_non]; cases o <;> rfl)
theorem ev_getO (ha : Ev ta σ H (vO o)) (h : o.isSome = true) : Ev ta σ H (.int (o.getD 0)) := Ev.is ha (by cases o with
  | none => cases h
  | some i => rfl)
end

/-! ### reversed(range(..)) -/
section
variable {X : Cx} {K : PySem.W.Frag} {C : Hp → (Addr → Prop) → Hp → (Addr → Prop) → Prop} {M : Addr → Prop} {σ : L2.St} {H : Hp} {ta : TE} {j : Nat}
def iRev1 (ta : TE) : TI := iRevR (tRg1 ta)
theorem pi_rev1 {tg a : Expr} {p p2 pos pos2 : Pos} (hg : Gl X "reversed") (hm : X.mg "reversed" = none) (hg2 : Gl X "range") (hm2 : X.mg "range" = none) (ha : PE X a ta) (na : starEach [a] X.env = (false, eval a X.env) :: starEach [] X.env := by rfl)
    (hs : starEach [.Call (.Name "range" p2) [a] [] pos2] X.env = (false, eval (.Call (.Name "range" p2) [a] [] pos2) X.env) :: starEach [] X.env := by rfl) :
    PI X tg (.Call (.Name "reversed" p) [.Call (.Name "range" p2) [a] [] pos2] [] pos) (iRev1 ta) := pi_revR hg hm (prg_1 hg2 hm2 ha na) hs
theorem j_rev1 {n : Int} (h : Ev ta σ H (.int n)) (hn : -1000000 ≤ n ∧ n ≤ 1000000) : EvJ C M (iRev1 ta) (gName j) [j] σ H (List.range n.toNat) (fun (i : Nat) ρ => ρ.set j (st (uI (n - 1 - (i : Int))))) := fun H1 e R q => by
  unfold iRev1 iRevR tRg1
  refine h H1 e _ fun H2 e2 => ⟨n, rfl, by omega, by omega, by omega, by omega, q _ H2 (fun _ _ => True) e2 trivial (fun _ _ _ _ _ _ => trivial) ⟨fun i H M hi _ => ?_, fun H M _ => ?_, fun i H M x H' σ K hi _ y k => ?_⟩⟩
  · show i < (n - 0).toNat
    rw [List.length_range] at hi
    omega
  · show (n - 0).toNat ≤ _
    rw [List.length_range]
    omega
  · obtain ⟨e1, e3⟩ := y
    subst e1 e3
    rw [List.length_range] at hi
    simp only [List.getElem_range] at k
    have e4 : (0 : Int) + (((n - 0).toNat : Nat) : Int) - 1 + (i : Nat) * (-1) = n - 1 - (i : Int) := by omega
    rw [e4]
    exact k _ H' (Ex.refl _) (by simp) (fun _ h => set_at h) fun F Z ρ ok => ok.setR (Ex.refl _) (by unfold Rp; rfl)
end
end Ho

/-! Ho, part N: own classes: fields, methods, making, isinstance -/
namespace Ho
open PySem PySem.Spec PyProof.Rows L2 Evl

def cA (mg : Str → Option Value) (x : Str) : Addr := match mg x with
  | some (.ref a) => a
  | _ => 0
/-- a class of the module -/
structure ClsAt (K : PySem.W.Frag) (mg : Str → Option Value) (x : Str) : Prop where
  at_ : mg x = some (.ref (cA mg x))
  cl : Cls K (cA mg x)
  ha : PySem.W.findIn K (.ref (cA mg x)) "__class__" = some (some (.builtin "object.__class__"))
  hn : PySem.W.specialIn K (.builtin "object.__class__") "__get__" = some (some (.builtin "getset_descriptor.__get__"))
  ht : PySem.W.takesIn K (.builtin "object.__class__") = some true
  hm : PySem.W.mroIn K (cA mg x) (.type "object") = some true
/-- a method of it -/
structure MethAt (K : PySem.W.Frag) (mg : Str → Option Value) (x m qual : Str) (st : Stmt) (ps : List Str) : Prop where
  ex : ∃ f fd, Meth K (cA mg x) m f ∧ Fun K m qual st f fd ∧ Binds K fd ps []
structure InitAt (K : PySem.W.Frag) (mg : Str → Option Value) (x qual : Str) (st : Stmt) (ps : List Str) : Prop where
  ex : ∃ f fd, Mk K (cA mg x) f ∧ Fun K "__init__" qual st f fd ∧ Binds K fd ps []
structure OkM (P : Program) (w : World) (K : PySem.W.Frag) (mg : Str → Option Value) (base : Heap) (CX : CXT) (C : Addr) (m : Str) (k : Nat) (sp : Sp) : Prop where
  ex : ∃ f fd ps, Meth K C m f ∧ Binds K fd ps [] ∧ FnOk P w K mg base CX k f fd ps sp
structure OkI (P : Program) (w : World) (K : PySem.W.Frag) (mg : Str → Option Value) (base : Heap) (CX : CXT) (C : Addr) (k : Nat) (sp : Sp) : Prop where
  ex : ∃ f fd ps, Mk K C f ∧ Binds K fd ps [] ∧ FnOk P w K mg base CX k f fd ps sp
section
variable {P : Program} {w : World} {K : PySem.W.Frag} {mg : Str → Option Value} {base : Heap}
theorem OkM.of {x m qual : Str} {st : Stmt} {ps N : List Str} {k : Nat} {sp : Sp} (D : MethAt K mg x m qual st ps) (Sc : FnScope N ps (defScope st)) (len : ∀ vs H Q E, sp vs H Q E → vs.length = ps.length)
    (hbody : ∀ (f : Addr) (cdv : Value) (A : Around) (outer : List Env) (s : Shared) (H : Hp) (vs : List V) (Q : VK) (E : XK), Room k (A.deeper (envOfC qual (defScope st) s.heap.objs.size f cdv)) → sp vs H Q E →
      ∃ t, PSs (cxOf CX0 P w K mg base N qual (defScope st) f cdv A outer s H E).nox (defBody st) t ∧ t { nx := fun _ H' => Q .non H', rt := Q } (start N vs) H) : OkM P w K mg base CX0 (cA mg x) m (k + 1) sp := by
  obtain ⟨f, fd, hm, F, b⟩ := D.ex
  exact ⟨f, fd, ps, hm, b, F.ok Sc len (hbody f)⟩
theorem OkI.of {x qual : Str} {st : Stmt} {ps N : List Str} {k : Nat} {sp : Sp} (D : InitAt K mg x qual st ps) (Sc : FnScope N ps (defScope st)) (len : ∀ vs H Q E, sp vs H Q E → vs.length = ps.length)
    (hbody : ∀ (f : Addr) (cdv : Value) (A : Around) (outer : List Env) (s : Shared) (H : Hp) (vs : List V) (Q : VK) (E : XK), Room k (A.deeper (envOfC qual (defScope st) s.heap.objs.size f cdv)) → sp vs H Q E →
      ∃ t, PSs (cxOf CX0 P w K mg base N qual (defScope st) f cdv A outer s H E).nox (defBody st) t ∧ t { nx := fun _ H' => Q .non H', rt := Q } (start N vs) H) : OkI P w K mg base CX0 (cA mg x) (k + 1) sp := by
  obtain ⟨f, fd, hm, F, b⟩ := D.ex
  exact ⟨f, fd, ps, hm, b, F.ok Sc len (hbody f)⟩
end

theorem OkM.mono {P : Program} {w : World} {K : PySem.W.Frag} {mg : Str → Option Value} {base : Heap} {CX : CXT} {C : Addr} {m : Str} {j k : Nat} {sp : Sp} (O : OkM P w K mg base CX C m j sp) (h : j ≤ k) : OkM P w K mg base CX C m k sp := by
  obtain ⟨f, fd, ps, h1, h2, h3⟩ := O.ex
  exact ⟨f, fd, ps, h1, h2, h3.mono h⟩

/-! ### calls of methods: of one of some classes -/
def tMethU (sel : Addr → Sp → Prop) (m : Str) (E : XK) (ta : TE) (t : TA) : TE := fun σ H Q => ta σ H fun x H1 => ∃ a C dx fs sp, x = .ref a ∧ H1 a = some (.ins C dx fs) ∧ fs.lookup m = none ∧ sel C sp ∧ t σ H1 fun vs H2 => sp (x :: vs) H2 Q E
section
variable {X : Cx} {CX : CXT} {j k : Nat} {sel : Addr → Sp → Prop} {E : XK} {m : Str} {p pos apos : Pos} {e o : Expr} {es : List Expr} {ta : TE} {t : TA}
theorem pe_methU {pl : Sem Bool} (hO : ∀ C sp, sel C sp → Cls X.K C ∧ OkM X.prog X.w X.K X.mg X.base CX C m k sp) (hr : Room j X.A) (hx : Passes CX X E) (he : PE X o ta) (ha : PA X (e :: es) t) (hk : k ≤ j := by decide)
    (hst : starEach (e :: es) X.env = (false, eval e X.env) :: starEach es X.env := by rfl) (hpl : (backTo pos (starEach es X.env)).any (·.1) = false := by rfl)
    (ht : eval (.Call (.Attribute o m apos) (e :: es) [] pos) X.env = (do
      let ov ← eval o X.env
      standAt apos.atName
      let (f, first) ← holding [ov] (getMethod ov m pl)
      callWith pos f first (backTo pos (starEach (e :: es) X.env)) (backToKw pos (keywordEach [] X.env))) := by rfl) :
    PE X (.Call (.Attribute o m apos) (e :: es) [] pos) (tMethU sel m E ta t) := by
  refine ⟨fun pins s σ H Q I h => ?_⟩
  refine PySem.W.methodCall_KW (pl := pl) (thn (he.run pins s σ H _ I h) fun u s1 ⟨x, H1, I1, rx, a, C, dx, fs, sp, ex, ea, l, hs, q⟩ => ?_) ht
  subst ex
  obtain rfl : u = Value.ref a := rx
  obtain ⟨c, f, fd, ps, hm, hb, F⟩ := hO C sp hs
  refine getmeth_ok I1 ea c hm l ?_
  refine PySem.W.callWith_K (first := [.ref a]) (h₀ := X.base) I.ok.mod.kin hm.kp (thn (ha.run pos pins s1 σ H1 _ I1 q) fun us s2 ⟨vs, H2, I2, r, q2⟩ => ⟨I2.kIn, ?_⟩) hst hpl
  exact run_fn (us := .ref a :: us) (vs := .ref a :: vs) F (hr.mono hk) hb .nil hx I2 (.cons rfl r) (by rw [List.append_nil]; exact q2)
theorem pe_methU0 {pl : Sem Bool} (hO : ∀ C sp, sel C sp → Cls X.K C ∧ OkM X.prog X.w X.K X.mg X.base CX C m k sp) (hr : Room j X.A) (hx : Passes CX X E) (he : PE X o ta) (hk : k ≤ j := by decide)
    (ht : eval (.Call (.Attribute o m apos) [] [] pos) X.env = (do
      let ov ← eval o X.env
      standAt apos.atName
      let (f, first) ← holding [ov] (getMethod ov m pl)
      callWith pos f first (backTo pos (starEach [] X.env)) (backToKw pos (keywordEach [] X.env))) := by rfl) :
    PE X (.Call (.Attribute o m apos) [] [] pos) (tMethU sel m E ta tNil) := by
  refine ⟨fun pins s σ H Q I h => ?_⟩
  refine PySem.W.methodCall_KW (pl := pl) (thn (he.run pins s σ H _ I h) fun u s1 ⟨x, H1, I1, rx, a, C, dx, fs, sp, ex, ea, l, hs, q⟩ => ?_) ht
  subst ex
  obtain rfl : u = Value.ref a := rx
  obtain ⟨c, f, fd, ps, hm, hb, F⟩ := hO C sp hs
  refine getmeth_ok I1 ea c hm l ?_
  exact PySem.W.callWith_K0 (first := [.ref a]) I1.kIn hm.kp (run_fn (us := [.ref a]) (vs := [.ref a]) F (hr.mono hk) hb .nil hx I1 (.cons rfl .nil) q)
end
theorem lookup_zip {ns : List Str} {m : Str} : ∀ {vs : List V}, m ∉ ns → (ns.zip vs).lookup m = none := by
  induction ns with
  | nil => intro vs _; rfl
  | cons n ns ih =>
    intro vs h
    cases vs with
    | nil => rfl
    | cons v vs =>
      rw [List.zip_cons_cons, List.lookup_cons]
      have : (m == n) = false := beq_eq_false_iff_ne.mpr fun e => h (by rw [e]; exact List.mem_cons_self)
      rw [this]
      exact ih fun z => h (List.mem_cons_of_mem _ z)
theorem lookup_zip_at {f : Str} : ∀ {j : Nat} {ns : List Str} {vs : List V}, ns[j]? = some f → f ∉ ns.take j → ns.length = vs.length → (ns.zip vs).lookup f = vs[j]?
  | j, [], vs, h, _, _ => by simp at h
  | j, n :: ns, [], h, _, hl => by simp at hl
  | 0, n :: ns, v :: vs, h, _, hl => by
    simp at h
    subst h
    rw [List.zip_cons_cons, List.lookup_cons]
    simp
  | j + 1, n :: ns, v :: vs, h, hn, hl => by
    rw [List.take_succ_cons, List.mem_cons, not_or] at hn
    rw [List.zip_cons_cons, List.lookup_cons]
    have : (f == n) = false := beq_eq_false_iff_ne.mpr hn.1
    rw [this]
    exact lookup_zip_at (j := j) (by simpa using h) hn.2 (by simpa using hl)
theorem putF_new {f : Str} {v : V} : ∀ {ns : List Str} {vs : List V}, f ∉ ns → ns.length = vs.length → putF f v (ns.zip vs) = (ns ++ [f]).zip (vs ++ [v])
  | [], [], _, _ => rfl
  | [], v :: vs, _, h => by simp at h
  | n :: ns, [], _, h => by simp at h
  | n :: ns, u :: vs, h, hl => by
    rw [List.zip_cons_cons]
    show (if n = f then _ else _) = _
    rw [if_neg fun e => h (by rw [e]; exact List.mem_cons_self), putF_new (fun z => h (List.mem_cons_of_mem _ z)) (by simpa using hl)]
    rfl
theorem putF_at {f : Str} {v : V} : ∀ {j : Nat} {ns : List Str} {vs : List V}, ns[j]? = some f → f ∉ ns.take j → ns.length = vs.length → putF f v (ns.zip vs) = ns.zip (vs.set j v)
  | j, [], vs, h, _, _ => by simp at h
  | j, n :: ns, [], h, _, hl => by simp at hl
  | 0, n :: ns, u :: vs, h, _, hl => by
    simp at h
    subst h
    rw [List.zip_cons_cons]
    show (if n = n then _ else _) = _
    rw [if_pos rfl]
    rfl
  | j + 1, n :: ns, u :: vs, h, hn, hl => by
    rw [List.take_succ_cons, List.mem_cons, not_or] at hn
    rw [List.zip_cons_cons]
    show (if n = f then _ else _) = _
    rw [if_neg fun e => hn.1 e.symm, putF_at (j := j) (by simpa using h) hn.2 (by simpa using hl)]
    rfl
/-! what the slots hold, to be read alone -/
def rdSl : Sl → Sl
  | .una => .una
  | .any => .any
  | .own d _ => .own d .sh
theorem OkL.rd {M : Addr → Prop} {H : Hp} : ∀ {ρ : List Sl} {σ : List (Option V)} {as : List Addr}, OkL M H ρ σ as → OkL Mo H (ρ.map rdSl) σ []
  | [], σ, as, h => ⟨h.1, rfl⟩
  | .una :: ρ, σ, as, ⟨r, e, t⟩ => ⟨r, e, OkL.rd t⟩
  | .any :: ρ, σ, as, ⟨x, r, e, t⟩ => ⟨x, r, e, OkL.rd t⟩
  | .own d p :: ρ, σ, as, ⟨v, r, bs, cs, e, ea, o, t⟩ => ⟨v, r, [], [], e, rfl, ow_sh.mpr ⟨rfl, o.rd⟩, OkL.rd t⟩
theorem Ok.rd {F : Addr → Prop} {Z : Hp → (Addr → Prop) → Prop} {ρ : List Sl} {σ : L2.St} {H : Hp} {M : Addr → Prop} (ok : Ok F Z ρ σ H M) : Ok Mo (fun _ _ => True) (ρ.map rdSl) σ H Mo := by
  obtain ⟨as, nd, own, sl⟩ := ok.sl
  exact ⟨⟨[], List.nodup_nil, (fun a ha => by cases ha), sl.rd⟩, fun a h => h.elim, fun a h => h, trivial, fun _ _ _ _ _ _ => trivial⟩
/-! the promise of an __init__ -/
def spI (n : Nat) (R : (Addr → Prop) → List V → Hp → Addr → Dt → Pat → Prop) : Sp := fun vs H Q _ => vs.length = n + 1 ∧ ∃ F x dx C r d p, vs = .ref x :: r ∧ H x = some (.ins C dx []) ∧ Al F H ∧ ¬ F x ∧ R (Mb F [x]) r H C d p ∧
  ∀ bs H', (∀ a o, a ≠ x → H a = some o → H' a = some o) → bs.Nodup → (∀ b ∈ bs, b = x ∨ H b = none) → Ow (Mb F bs) H' d p (.ref x) bs → Q .non H'
def tMakeO (C : Addr) (sp : Sp) (E : XK) (t : TA) : TE := fun σ H Q => t σ H fun vs H1 => ∀ x dx, H1 x = none → H1 dx = none → dx ≠ x → sp (.ref x :: vs) (upd (upd H1 dx (.own x)) x (.ins C dx [])) (fun v H2 => v = .non ∧ Q (.ref x) H2) E
section
variable {X : Cx} {CX : CXT} {j k : Nat} {C : Addr} {sp : Sp} {E : XK} {x : Str} {p pos apos : Pos} {e o : Expr} {es : List Expr} {ta : TE} {t : TA}
theorem pe_makeO (O : OkI X.prog X.w X.K X.mg X.base CX C k sp) (hm : X.mg x = some (.ref C)) (hr : Room j X.A) (hg : Gl X x) (hx : Passes CX X E) (ha : PA X (e :: es) t) (hk : k + 1 ≤ j := by decide)
    (hdb : (x == ("__debug__" : Str)) = false := by decide) (he : starEach (e :: es) X.env = (false, eval e X.env) :: starEach es X.env := by rfl) (hpl : (backTo pos (starEach es X.env)).any (·.1) = false := by rfl) :
    PE X (.Call (.Name x p) (e :: es) [] pos) (tMakeO C sp E t) := by
  obtain ⟨f, fd, ps, M, hb, F⟩ := O.ex
  have := pe_make (pos := pos) (p := p) (x := x) M F (hr.mono hk) hg hm hb .nil hx ha hdb he hpl
  have e1 : tMake C sp [] E t = tMakeO C sp E t := by
    funext σ H Q
    unfold tMake tMakeO
    simp only [List.append_nil]
  rwa [e1] at this
end
section
variable {K : PySem.W.Frag} {F : Addr → Prop} {Z Z' : Hp → (Addr → Prop) → Prop} {ρ : List Sl} {σ : L2.St} {H H' Hb : Hp} {M Mx : Addr → Prop} {d : Dt} {p : Pat} {v w : V} {bs : List Addr} {i j : Nat} {ta tb tc te tl tv : TE} {t : TT} {s : Sh} {ds es : List Dt} {α β γ : Type} {tr : TA} {a b : Row} {D : Ends} {C : Addr} {ns : List Str} {f m : Str} {ps : List Pat} {Ps : List (V → Hp → Prop)} {E : XK} {tz : TS}
/-- o.f -/
theorem r_fld (dd : Dt) (h : EvN Mx ta σ H (.i C ns) ds) (hC : Cls K C) (hn : NoAttr K C f) (j : Nat) (hj : ns[j]? = some f) (ht : f ∉ ns.take j) (hl : ns.length = ds.length) : EvR Mx (tFld K ta f) σ H (ds.getD j dd) := fun H1 e Q q =>
  h H1 e _ fun v H2 e2 ⟨a, vs, hv, ⟨dx, ho, hz⟩, hr⟩ => by
    have hlt : j < ds.length := by rw [← hl]; exact (List.getElem?_eq_some_iff.mp hj).1
    obtain ⟨w, hw, hp⟩ := hr.at j (ds.getD j dd) (by rw [List.getD_eq_getElem?_getD, List.getElem?_eq_getElem hlt]; rfl)
    exact ⟨a, C, dx, ns.zip vs, w, hv, ho, hC, hn, by rw [lookup_zip_at hj ht hz]; exact hw, q w H2 e2 hp⟩
/-- calls -/
theorem p_methR {sel : Addr → Sp → Prop} {n : Nat} {R : (Addr → Prop) → List V → Hp → Dt → Pat → Prop} {ds : List Dt} (al : Al M H) (h0 : EvR M ta σ H (.node (.i C ns) ds)) (h : EvAG tr σ H Ps) (hs : sel C (spR (n + 1) R)) (hl : m ∉ ns) (hn : Ps.length = n)
    (hr : ∀ vs H1, AllP (isR M (.node (.i C ns) ds) :: Ps) vs H1 → R M vs H1 d p) : EvP M (tMethU sel m E ta tr) σ H d p := fun H1 e Q q =>
  h0 H1 e _ fun v H2 e2 r => by
    obtain ⟨a, vs, rfl, ⟨dx, ho, hz⟩, hrr⟩ := Rp.n r
    refine ⟨a, C, dx, _, _, rfl, ho, lookup_zip hl, hs, ?_⟩
    refine h H2 (e.trans e2) _ fun ws H3 e3 hp => ⟨by rw [List.length_cons, hp.length, hn], M, d, p, fun a ha z => al a ha (fresh_back ((e.trans e2).trans e3) z), hr _ _ ⟨_, ws, rfl, mon_R _ _ _ _ _ e3 r, hp⟩, fun v bs H4 e4 nd nn w => q v bs H4 ((e2.trans e3).trans e4) nd (fun b hb => fresh_back (e2.trans e3) (nn b hb)) w⟩
theorem allP_rpL {M : Addr → Prop} {H : Hp} : ∀ {ds : List Dt} {vs : List V}, AllP (ds.map (isR M)) vs H ↔ RpL M H ds vs
  | [], vs => by
    rw [List.map_nil]
    unfold RpL
    exact Iff.rfl
  | d :: ds, vs => by
    rw [List.map_cons]
    unfold RpL
    constructor
    · rintro ⟨v, r, e, h1, h2⟩
      exact ⟨v, r, e, h1, allP_rpL.mp h2⟩
    · rintro ⟨v, r, e, h1, h2⟩
      exact ⟨v, r, e, h1, allP_rpL.mpr h2⟩
theorem p_makeR {n : Nat} {R : (Addr → Prop) → List V → Hp → Addr → Dt → Pat → Prop} {ds : List Dt} (al : Al M H) (h : EvAG tr σ H (ds.map (isR M))) (hn : ds.length = n) (hr : ∀ M vs H1, AllP (ds.map (isR M)) vs H1 → R M vs H1 C d p) : EvP M (tMakeO C (spI n R) E tr) σ H d p := fun H1 e Q q =>
  h H1 e _ fun vs H2 e2 hp => fun x dx hx hdx hne => by
    have e3 : Ex H2 (upd (upd H2 dx (.own x)) x (.ins C dx [])) := (Ex.new hdx).trans (Ex.new (by rw [upd_ne (fun z => hne z.symm)]; exact hx))
    have hp2 : AllP (ds.map (isR (Mb M [x]))) vs (upd (upd H2 dx (.own x)) x (.ins C dx [])) := allP_rpL.mpr (RpL.go (Go.add e3 (by simpa using hx)) (allP_rpL.mp hp))
    refine ⟨by rw [List.length_cons, hp.length, List.length_map, hn], M, x, dx, C, vs, d, p, rfl, upd_same, fun a ha z => al a ha (fresh_back ((e.trans e2).trans e3) z), fun z => al x z (fresh_back (e.trans e2) hx), hr _ vs _ hp2, fun bs H4 k nd nn w => ⟨rfl, q _ bs H4 (e2.trans fun a o h => k a o (fun z => by rw [z, hx] at h; cases h) (e3 a o h)) nd (fun b hb => ?_) w⟩⟩
    rcases nn b hb with rfl | z
    · exact fresh_back e2 hx
    · exact fresh_back (e2.trans e3) z
theorem ow_new {x dx : Addr} (h : H x = some (.ins C dx [])) : Ow M H (.node (.i C []) []) (.fs []) (.ref x) [x] := by
  unfold Ow
  exact ⟨x, [], [], rfl, ⟨dx, h, rfl⟩, rfl, by unfold OwF; exact ⟨rfl, rfl, rfl⟩⟩
/-- self at the entry of an __init__ -/
theorem Ok.startI {x : Addr} (al : Al F H) (nf : ¬ F x) (hx : H x ≠ none) (sl : OkL (Mb F [x]) H ρ σ [x]) : Ok F (fun H' O' => Lt H (· = x) H' O') ρ σ H (Mb F [x]) :=
  ⟨⟨[x], by simp, (fun a ha => by rw [List.mem_singleton.mp ha]; exact ⟨.inr (by simp), nf⟩), sl⟩, fun a ha => by
    rcases ha with ha | ha
    · exact al a ha
    · rw [List.mem_singleton.mp ha]; exact hx, fun a ha => .inl ha, ⟨fun a o _ h => h, fun b hb => by
    rcases hb.1 with h | h
    · exact (hb.2 h).elim
    · exact .inl (by simpa using h)⟩, fun _ _ _ _ z l => z.trans l⟩
/-- o.f = e, a new field -/
theorem c_fld (ok : Ok F Z ρ σ H M) (hi : ρ[i]? = some (.own (.node (.i C ns) ds) (.fs ps))) (h : EvP M tv σ H d p) (hC : Cls K C) (hn : NoAttr K C f) (hf : f ∉ ns) (hz : ns.length < 1000)
    (k : ∀ M' H', Ok F Z (ρ.set i (.own (.node (.i C (ns ++ [f])) (ds ++ [d])) (.fs (ps ++ [p])))) σ H' M' → D.nx σ H') : sFld K (tVar i) tv f D σ H :=
  h H (Ex.refl _) _ fun y bs H1 e1 nd n w => by
    obtain ⟨as, and_, own, sl⟩ := ok.sl
    obtain ⟨v, cs, rs, h1, h2, h3, h4⟩ := sl.out hi
    unfold Ow at h2
    obtain ⟨a, vs, cs', rfl, ⟨dx, ho, hl⟩, rfl, f2⟩ := h2
    have nd2 := List.nodup_append.mp (h4.nodup_iff.mpr and_)
    have ndc := List.nodup_cons.mp nd2.1
    have ha := own a (h4.subset (by simp))
    have halloc : ∀ b ∈ as, H b ≠ none := sl.al
    have hab : a ∉ bs := fun z => ok.al a ha.1 (n a z)
    refine ⟨_, h1, a, C, dx, ns.zip vs, rfl, e1 _ _ ho, hC, hn, by rw [List.length_zip]; omega, ?_⟩
    rw [putF_new hf hl]
    have hM : ∀ b, Mb M bs b → H1 b ≠ none := fun b hb => by
      rcases hb with hb | hb
      · exact fun z => ok.al b hb (fresh_back e1 z)
      · exact w.al b hb
    have g1 : Go (Mb M bs) H1 (Mb M bs) (upd H1 a (.ins C dx ((ns ++ [f]).zip (vs ++ [y])))) := fun b u nb hb => ⟨by rw [upd_ne (fun z => nb (.inl (by rw [z]; exact ha.1)))]; exact hb, nb⟩
    have g0 : Go M H (Mb M bs) (upd H1 a (.ins C dx ((ns ++ [f]).zip (vs ++ [y])))) := fun b u nb hb => by
      have nb2 : ¬ Mb M bs b := fun z => by
        rcases z with z | z
        · exact nb z
        · rw [n b z] at hb; cases hb
      exact g1 b u nb2 (e1 b u hb)
    have keep : ∀ b, b ≠ a → ∀ o, H b = some o → upd H1 a (.ins C dx ((ns ++ [f]).zip (vs ++ [y]))) b = some o := fun b hb o h => by rw [upd_ne hb]; exact e1 b o h
    have sl' := h3.go g0 fun b hb u hu => keep b (fun z => nd2.2.2 a List.mem_cons_self b hb z.symm) u hu
    have f2' := f2.go g0 fun b hb u hu => keep b (fun z => ndc.1 (by rw [← z]; exact hb)) u hu
    have w' : Ow (Mb M bs) (upd H1 a (.ins C dx ((ns ++ [f]).zip (vs ++ [y])))) d p y bs := w.go g1 fun b hb u hu => by rw [upd_ne (fun z => hab (by rw [← z]; exact hb))]; exact hu
    have snoc : ∀ {ds : List Dt} {ps : List Pat} {vs : List V} {cs : List Addr} {H : Hp} {M : Addr → Prop}, OwF M H ds ps vs cs → Ow M H d p y bs → OwF M H (ds ++ [d]) (ps ++ [p]) (vs ++ [y]) (cs ++ bs) := by
      intro ds
      induction ds with
      | nil =>
        intro ps vs cs H M h w
        unfold OwF at h
        obtain ⟨rfl, rfl, rfl⟩ := h
        show OwF M H [d] [p] [y] bs
        unfold OwF
        exact ⟨p, [], y, [], bs, [], rfl, rfl, by simp, w, by unfold OwF; exact ⟨rfl, rfl, rfl⟩⟩
      | cons d0 ds ih =>
        intro ps vs cs H M h w
        unfold OwF at h
        obtain ⟨q, pr, u, r, b, c, rfl, rfl, rfl, h1, h2⟩ := h
        show OwF M H (d0 :: (ds ++ [d])) _ _ _
        unfold OwF
        exact ⟨q, pr ++ [p], u, r ++ [y], b, c ++ bs, rfl, rfl, by rw [List.append_assoc], h1, ih h2 w⟩
    have hi' : i < ρ.length := (List.getElem?_eq_some_iff.mp hi).1
    obtain ⟨as', k1, k2⟩ := OkL.back (d := .node (.i C (ns ++ [f])) (ds ++ [d])) (p := .fs (ps ++ [p])) (bs := a :: (cs' ++ bs)) (by
      unfold Ow
      exact ⟨a, vs ++ [y], cs' ++ bs, rfl, ⟨dx, upd_same, by simp [hl]⟩, rfl, snoc f2' w'⟩) hi' sl' h1
    refine k _ _ ⟨⟨as', ?_, fun b hb => ?_, k1⟩, fun b hb hnn => ?_, fun b hb => .inl (ok.fr b hb), ?_, ok.mz⟩
    · rw [k2.nodup_iff]
      have hbs : ∀ b ∈ bs, b ∉ as := fun b hb hb' => halloc b hb' (n b hb)
      have e1 : (a :: (cs' ++ bs) ++ rs).Perm (as ++ bs) := by
        refine List.Perm.trans ?_ (h4.append_right bs)
        show (a :: (cs' ++ bs) ++ rs).Perm ((a :: cs') ++ rs ++ bs)
        rw [show a :: (cs' ++ bs) ++ rs = (a :: cs') ++ (bs ++ rs) by simp, List.append_assoc]
        exact (List.perm_append_comm).append_left _
      rw [e1.nodup_iff, List.nodup_append]
      exact ⟨and_, nd, fun x hx y hy z => hbs y hy (by rw [← z]; exact hx)⟩
    · have hb := k2.subset hb
      rcases List.mem_append.mp hb with hb | hb
      · rcases List.mem_cons.mp hb with rfl | hb
        · exact ⟨.inl ha.1, ha.2⟩
        · rcases List.mem_append.mp hb with hb | hb
          · have := own b (h4.subset (by simp [hb]))
            exact ⟨.inl this.1, this.2⟩
          · exact ⟨.inr hb, fun z => ok.al b (ok.fr b z) (n b hb)⟩
      · have := own b (h4.subset (by simp [hb]))
        exact ⟨.inl this.1, this.2⟩
    · by_cases z : b = a
      · rw [z, upd_same] at hnn; cases hnn
      · rw [upd_ne z] at hnn
        exact hM b hb hnn
    · refine ok.mz _ _ _ _ ok.z ⟨fun b u nb hb => keep b (fun z => nb (by rw [z]; exact ha)) u hb, fun b hb => ?_⟩
      rcases hb.1 with h | h
      · exact .inl ⟨h, hb.2⟩
      · exact .inr (n b h)
theorem b_fld (ok : Ok F Z ρ σ H M) (hi : ρ[i]? = some (.own (.node (.i C ns) ds) (.fs ps))) (h : EvP M tv σ H d p) (hC : Cls K C) (hn : NoAttr K C f) (hf : f ∉ ns) (hz : ns.length < 1000)
    (k : ∀ M' H', Ok F Z (ρ.set i (.own (.node (.i C (ns ++ [f])) (ds ++ [d])) (.fs (ps ++ [p])))) σ H' M' → tz D σ H') : tSeq (sFld K (tVar i) tv f) tz D σ H := c_fld (D := { D with nx := tz D }) ok hi h hC hn hf hz k
/-- the end of an __init__ -/
theorem c_endI {x : Addr} {Q : VK} (ok : Ok F Z ρ σ H M) (hi : ρ[i]? = some (.own d p)) (hs : σ[i]? = some (some (.ref x)))
    (k : ∀ bs H', (∀ a o, a ≠ x → Hb a = some o → H' a = some o) → bs.Nodup → (∀ b ∈ bs, b = x ∨ Hb b = none) → Ow (Mb F bs) H' d p (.ref x) bs → Q .non H') (zz : ∀ H O, Z H O → Lt Hb (· = x) H O) : Q .non H := by
  obtain ⟨as, nd, own, sl⟩ := ok.sl
  obtain ⟨v, bs, cs, h1, h2, h3, h4⟩ := sl.out hi
  rw [h1] at hs
  obtain rfl := Option.some.inj (Option.some.inj hs)
  have l := zz _ _ ok.z
  have hb : ∀ b ∈ bs, M b ∧ ¬ F b := fun b hb => own b (h4.subset (List.mem_append_left _ hb))
  refine k bs H (fun a o n h => l.1 a o n h) (List.nodup_append.mp (h4.nodup_iff.mpr nd)).1 (fun b hbb => l.2 b (hb b hbb)) (h2.go (fun a o m h => ⟨h, fun z => m ?_⟩) fun _ _ _ h => h)
  rcases z with z | z
  · exact ok.fr a z
  · exact (hb a z).1
/-- isinstance(o, C) -/
theorem ev_isiO {x : Str} {mg : Str → Option Value} {c : V} {cc : Value} {bb : Bool} (h : EvN Mx ta σ H (.i (cA mg x) ns) ds) (T : ClsAt K mg x) (hb : Ev tb σ H c) (hc : ClsV c cc) (hk : PySem.W.kitOne K (.ref (cA mg x)) cc = some bb) : Ev (tCB (rIsi K) (tCons ta (tCons tb tNil))) σ H (.bl bb) := fun H1 e Q q =>
  h H1 e _ fun v H2 e2 ⟨a, vs, hv, ⟨dx, ho, hz⟩, hr⟩ => hb H2 (e.trans e2) _ fun H3 e3 => by
    subst hv
    exact ⟨.ref a, c, .ref (cA mg x), cc, bb, rfl, hc, .base (.ins (e3 _ _ ho) T.cl T.ha T.hn T.ht T.hm), hk, q H3 (e2.trans e3)⟩
end
end Ho

/-! Ho, part O: lists repeated; names stored together -/
namespace Ho
open PySem PySem.Spec PyProof.Rows L2 Evl
abbrev uO (o : Option Int) : Dt := .sc (vO o)
theorem nd_map {α β : Type} {s : Sh} {f : β → Dt} {g : α → β} {l : List α} : Dt.node s (l.map fun x => f (g x)) = Dt.node s ((l.map g).map f) := by
  rw [List.map_map]
  rfl
section
variable {K : PySem.W.Frag} {F : Addr → Prop} {Z Z' : Hp → (Addr → Prop) → Prop} {ρ : List Sl} {σ : L2.St} {H H' Hb : Hp} {M Mx : Addr → Prop} {d d1 d2 d3 : Dt} {p p1 p2 p3 : Pat} {v w : V} {bs : List Addr} {i j l : Nat} {ta tb tc te tl tv : TE} {t : TT} {s : Sh} {ds es : List Dt} {α β γ : Type} {tr : TA} {a b : Row} {D : Ends} {tz : TS}
theorem p_rep {f : α → Dt} {xs : List α} {n : Int} (ha : EvN M ta σ H .l (xs.map f)) (hb : Ev tb σ H (.int n)) (h0 : -100000 ≤ n) (h1 : n ≤ 100000) (hz : xs.length * n.toNat ≤ 100000) : EvP M (tOp rRep ta tb) σ H (.node .l ((List.replicate n.toNat xs).flatten.map f)) (.ow .sh) := fun H1 e Q q =>
  ha H1 e _ fun v H2 e2 ⟨a, vs, hv, ho, hr⟩ => hb H2 (e.trans e2) _ fun H3 e3 => by
    subst hv
    refine ⟨a, n, _, rfl, rfl, e3 _ _ ho, by omega, by omega, by rw [hr.len, List.length_map]; exact sz_of hz, fun p hp => q _ [p] _ ((e2.trans e3).trans (Ex.new hp)) (by simp) (by simpa using fresh_back (e2.trans e3) hp) (ow_mu.mpr ⟨p, _, rfl, upd_same, rfl, RpL.go (Go.add (Ex.new hp) (by simpa using hp)) ?_⟩)⟩
    rw [List.map_flatten, List.map_replicate]
    exact (RpL.go (Go.ex e3) hr).rep _
theorem n_is {ds' : List Dt} (h : EvN M te σ H s ds) (e : ds = ds') : EvN M te σ H s ds' := e ▸ h
theorem c_par3 (ok : Ok F Z ρ σ H M) (h1 : EvP M ta σ H d1 p1) (h2 : ∀ M' σ' H', Ok F Z ρ σ' H' M' → EvP M' tb σ' H' d2 p2) (h3 : ∀ M' σ' H', Ok F Z ρ σ' H' M' → EvP M' tc σ' H' d3 p3)
    (k : ∀ M' σ' H', Ok F Z (((ρ.set i (.own d1 p1)).set j (.own d2 p2)).set l (.own d3 p3)) σ' H' M' → D.nx σ' H') : tPar3 i j l (tCons ta (tCons tb (tCons tc tNil))) D σ H :=
  h1 H (Ex.refl H) _ fun v bs H1 e nd n w => by
    have ok1 : Ok F Z ρ σ H1 (Mb M bs) := ok.more e n w.al
    refine h2 _ _ _ ok1 H1 (Ex.refl _) _ fun v2 bs2 H2 e2 nd2 n2 w2 => ?_
    have ok2 : Ok F Z ρ σ H2 (Mb (Mb M bs) bs2) := ok1.more e2 n2 w2.al
    refine h3 _ _ _ ok2 H2 (Ex.refl _) _ fun v3 bs3 H3 e3 nd3 n3 w3 => ⟨v, v2, v3, rfl, ?_⟩
    exact k _ _ _ (((ok.set (i := i) e nd n w).set (i := j) e2 nd2 n2 w2).set (i := l) e3 nd3 n3 w3)
theorem b_par3 (ok : Ok F Z ρ σ H M) (h1 : EvP M ta σ H d1 p1) (h2 : ∀ M' σ' H', Ok F Z ρ σ' H' M' → EvP M' tb σ' H' d2 p2) (h3 : ∀ M' σ' H', Ok F Z ρ σ' H' M' → EvP M' tc σ' H' d3 p3)
    (k : ∀ M' σ' H', Ok F Z (((ρ.set i (.own d1 p1)).set j (.own d2 p2)).set l (.own d3 p3)) σ' H' M' → tz D σ' H') : tSeq (tPar3 i j l (tCons ta (tCons tb (tCons tc tNil)))) tz D σ H := c_par3 (D := { D with nx := tz D }) ok h1 h2 h3 k
/-- a, b = e1, e2 by a tuple that is laid -/
theorem c_tup2 (ok : Ok F Z ρ σ H M) (h1 : EvP M ta σ H d1 p1) (h2 : ∀ M' σ' H', Ok F Z ρ σ' H' M' → EvP M' tb σ' H' d2 p2)
    (k : ∀ M' σ' H', Ok F Z ((ρ.set i (.own d1 p1)).set j (.own d2 p2)) σ' H' M' → D.nx σ' H') : tAsg (tTup (tCons ta (tCons tb tNil))) (gTup K 2 (gCons (gName i) (gCons (gName j) gNil))) D σ H :=
  h1 H (Ex.refl H) _ fun v bs H1 e nd n w => by
    have ok1 : Ok F Z ρ σ H1 (Mb M bs) := ok.more e n w.al
    refine h2 _ _ _ ok1 H1 (Ex.refl _) _ fun v2 bs2 H2 e2 nd2 n2 w2 => ⟨sz_of (by simp), fun T hT => ?_⟩
    exact gTup2n (st_of upd_same) (k _ _ _ (((ok.set (i := i) e nd n w).set (i := j) e2 nd2 n2 w2).ex (Ex.new hT)))
theorem b_tup2 (ok : Ok F Z ρ σ H M) (h1 : EvP M ta σ H d1 p1) (h2 : ∀ M' σ' H', Ok F Z ρ σ' H' M' → EvP M' tb σ' H' d2 p2)
    (k : ∀ M' σ' H', Ok F Z ((ρ.set i (.own d1 p1)).set j (.own d2 p2)) σ' H' M' → tz D σ' H') : tSeq (tAsg (tTup (tCons ta (tCons tb tNil))) (gTup K 2 (gCons (gName i) (gCons (gName j) gNil)))) tz D σ H := c_tup2 (D := { D with nx := tz D }) ok h1 h2 k
theorem c_tup3 (ok : Ok F Z ρ σ H M) (h1 : EvP M ta σ H d1 p1) (h2 : ∀ M' σ' H', Ok F Z ρ σ' H' M' → EvP M' tb σ' H' d2 p2) (h3 : ∀ M' σ' H', Ok F Z ρ σ' H' M' → EvP M' tc σ' H' d3 p3)
    (k : ∀ M' σ' H', Ok F Z (((ρ.set i (.own d1 p1)).set j (.own d2 p2)).set l (.own d3 p3)) σ' H' M' → D.nx σ' H') : tAsg (tTup (tCons ta (tCons tb (tCons tc tNil)))) (gTup K 3 (gCons (gName i) (gCons (gName j) (gCons (gName l) gNil)))) D σ H :=
  h1 H (Ex.refl H) _ fun v bs H1 e nd n w => by
    have ok1 : Ok F Z ρ σ H1 (Mb M bs) := ok.more e n w.al
    refine h2 _ _ _ ok1 H1 (Ex.refl _) _ fun v2 bs2 H2 e2 nd2 n2 w2 => ?_
    have ok2 : Ok F Z ρ σ H2 (Mb (Mb M bs) bs2) := ok1.more e2 n2 w2.al
    refine h3 _ _ _ ok2 H2 (Ex.refl _) _ fun v3 bs3 H3 e3 nd3 n3 w3 => ⟨sz_of (by simp), fun T hT => ?_⟩
    exact gTup3n (st_of upd_same) (k _ _ _ ((((ok.set (i := i) e nd n w).set (i := j) e2 nd2 n2 w2).set (i := l) e3 nd3 n3 w3).ex (Ex.new hT)))
theorem b_tup3 (ok : Ok F Z ρ σ H M) (h1 : EvP M ta σ H d1 p1) (h2 : ∀ M' σ' H', Ok F Z ρ σ' H' M' → EvP M' tb σ' H' d2 p2) (h3 : ∀ M' σ' H', Ok F Z ρ σ' H' M' → EvP M' tc σ' H' d3 p3)
    (k : ∀ M' σ' H', Ok F Z (((ρ.set i (.own d1 p1)).set j (.own d2 p2)).set l (.own d3 p3)) σ' H' M' → tz D σ' H') : tSeq (tAsg (tTup (tCons ta (tCons tb (tCons tc tNil)))) (gTup K 3 (gCons (gName i) (gCons (gName j) (gCons (gName l) gNil))))) tz D σ H := c_tup3 (D := { D with nx := tz D }) ok h1 h2 h3 k
/-- a, b = e -/
theorem c_unp2 (ok : Ok F Z ρ σ H M) (h : EvR M te σ H (.node .t [d1, d2])) (k : ∀ M' σ' H', Ok F Z ((ρ.set i (st d1)).set j (st d2)) σ' H' M' → D.nx σ' H') : tAsg te (gTup K 2 (gCons (gName i) (gCons (gName j) gNil))) D σ H :=
  h H (Ex.refl H) _ fun v H1 e r => by
    unfold isR Rp at r
    obtain ⟨a, vs, rfl, n, o, r⟩ := r
    simp only [RpL] at r
    obtain ⟨v1, r1, rfl, h1, v2, r2, rfl, h2, rfl⟩ := r
    exact gTup2n (st_of o) (k _ _ _ ((ok.setR e h1).setR (Ex.refl _) h2))
theorem b_unp2 (ok : Ok F Z ρ σ H M) (h : EvR M te σ H (.node .t [d1, d2])) (k : ∀ M' σ' H', Ok F Z ((ρ.set i (st d1)).set j (st d2)) σ' H' M' → tz D σ' H') : tSeq (tAsg te (gTup K 2 (gCons (gName i) (gCons (gName j) gNil)))) tz D σ H := c_unp2 (D := { D with nx := tz D }) ok h k
theorem c_unp3 (ok : Ok F Z ρ σ H M) (h : EvR M te σ H (.node .t [d1, d2, d3])) (k : ∀ M' σ' H', Ok F Z (((ρ.set i (st d1)).set j (st d2)).set l (st d3)) σ' H' M' → D.nx σ' H') : tAsg te (gTup K 3 (gCons (gName i) (gCons (gName j) (gCons (gName l) gNil)))) D σ H :=
  h H (Ex.refl H) _ fun v H1 e r => by
    unfold isR Rp at r
    obtain ⟨a, vs, rfl, n, o, r⟩ := r
    simp only [RpL] at r
    obtain ⟨v1, r1, rfl, h1, v2, r2, rfl, h2, v3, r3, rfl, h3, rfl⟩ := r
    exact gTup3n (st_of o) (k _ _ _ (((ok.setR e h1).setR (Ex.refl _) h2).setR (Ex.refl _) h3))
theorem b_unp3 (ok : Ok F Z ρ σ H M) (h : EvR M te σ H (.node .t [d1, d2, d3])) (k : ∀ M' σ' H', Ok F Z (((ρ.set i (st d1)).set j (st d2)).set l (st d3)) σ' H' M' → tz D σ' H') : tSeq (tAsg te (gTup K 3 (gCons (gName i) (gCons (gName j) (gCons (gName l) gNil))))) tz D σ H := c_unp3 (D := { D with nx := tz D }) ok h k
end
end Ho

/-! min, max of a list of numbers; fields and parts of things that are owned -/
namespace Ho
open PySem PySem.Spec PyProof.Rows L2 Evl
def rMinL (K : PySem.W.Frag) : List V → Hp → VK → Prop := fun vs H Q => ∃ a ns m, vs = [.ref a] ∧ SqL K H a (ns.map V.int) ∧ lMin ns = some m ∧ Q (.int m) H
def rMaxL (K : PySem.W.Frag) : List V → Hp → VK → Prop := fun vs H Q => ∃ a ns m, vs = [.ref a] ∧ SqL K H a (ns.map V.int) ∧ lMax ns = some m ∧ Q (.int m) H
theorem kcr_minL {X : Cx} {K : PySem.W.Frag} (hc : X.calm = true) (hu : X.A.units + 64 < cLine) (hK : X.K = K := by rfl) : CallR X (.builtin "min") (rMinL K) := by
  subst hK
  intro pins s σ H xs us Q I r h
  obtain ⟨a, ns, m, rfl, hs, hm, q⟩ := h
  rw [Vals.ref1 r]
  obtain ⟨its, rv, hl, _⟩ := I.list hs
  obtain ⟨as, hr⟩ := Dp.readsAll I (ns.map .int) _ its (dp_I ns) rv
  have hd := depth_I ns
  have ha := alike_I ns
  cases ns with
  | nil => cases hm
  | cons n r =>
    rw [List.map_cons] at hr ha hd
    refine PySem.W.min_list_data (I.ok.hd hc) hl.isList hr ha (by rw [hd]; omega) fun i v h' tk bs hv hr' hk => ?_
    rw [PySem.W.minD_ints] at hr'
    cases hm
    cases hr'
    exact ⟨.int _, H, I.kept hk, ⟨_, rfl⟩, q⟩
theorem kcr_maxL {X : Cx} {K : PySem.W.Frag} (hc : X.calm = true) (hu : X.A.units + 64 < cLine) (hK : X.K = K := by rfl) : CallR X (.builtin "max") (rMaxL K) := by
  subst hK
  intro pins s σ H xs us Q I r h
  obtain ⟨a, ns, m, rfl, hs, hm, q⟩ := h
  rw [Vals.ref1 r]
  obtain ⟨its, rv, hl, _⟩ := I.list hs
  obtain ⟨as, hr⟩ := Dp.readsAll I (ns.map .int) _ its (dp_I ns) rv
  have hd := depth_I ns
  have ha := alike_I ns
  cases ns with
  | nil => cases hm
  | cons n r =>
    rw [List.map_cons] at hr ha hd
    refine PySem.W.max_list_data (I.ok.hd hc) hl.isList hr ha (by rw [hd]; omega) fun i v h' tk bs hv hr' hk => ?_
    rw [PySem.W.maxD_ints] at hr'
    cases hm
    cases hr'
    exact ⟨.int _, H, I.kept hk, ⟨_, rfl⟩, q⟩
section
variable {K : PySem.W.Frag} {σ : L2.St} {H : Hp} {te : TE} {ns : List Int}
theorem lMin_get {ns : List Int} (h : ns ≠ []) : lMin ns = some ((lMin ns).getD 0) := by cases ns with
  | nil => exact absurd rfl h
  | cons a r => rfl
theorem lMax_get {ns : List Int} (h : ns ≠ []) : lMax ns = some ((lMax ns).getD 0) := by cases ns with
  | nil => exact absurd rfl h
  | cons a r => rfl
theorem ev_minQ (h : EvQ K te σ H (ns.map V.int)) (hn : ns ≠ []) : Ev (tCB (rMinL K) (tCons te tNil)) σ H (.int ((lMin ns).getD 0)) := fun H1 e Q q =>
  h H1 e _ fun a H2 e2 hs => ⟨a, ns, _, rfl, hs.q, lMin_get hn, q H2 e2⟩
theorem ev_maxQ (h : EvQ K te σ H (ns.map V.int)) (hn : ns ≠ []) : Ev (tCB (rMaxL K) (tCons te tNil)) σ H (.int ((lMax ns).getD 0)) := fun H1 e Q q =>
  h H1 e _ fun a H2 e2 hs => ⟨a, ns, _, rfl, hs.q, lMax_get hn, q H2 e2⟩
end
/-! ### texts by steps -/
def tStepS (k : Int) (te : TE) : TE := fun σ H Q => te σ H fun x H1 => ∃ z, x = .str z ∧ z.length ≤ sizeLine ∧ Q (.str (Txt.sliceBy z none none (k, 0))) H1
theorem step_tail {X : Cx} {pins : List (Addr × Obj)} {σ : L2.St} {H : Hp} {s : Shared} {e sl : Expr} {z : Str} {t : Tok} {k : Int} {uk : Tok} {Q : VK} (I : Inv X pins σ H s) (hz : z.length ≤ sizeLine) (hk : (k == 0) = false) (q : Q (.str (Txt.sliceBy z none none (k, 0))) H)
    (hs : subscripted sl false (.str z t) (.ref s.heap.objs.size) = operate [.str z t, .ref s.heap.objs.size] (getItem (.str z t) (.ref s.heap.objs.size))) :
    wpAny (model X.prog X.w) X.A (subscriptTail e sl (.str z t) (.ref s.heap.objs.size)) (EP X pins σ Q) X.xe { s with heap := s.heap.push { cls := .type "slice", data := .fields #[.none, .none, .int k uk] } } := by
  have I5 : Inv X pins σ H { s with heap := s.heap.push { cls := .type "slice", data := .fields #[.none, .none, .int k uk] } } := I.kept (t' := s.toks) fun b ob q => Heap.get?_push_of_some _ q
  refine tail_any (ops := [.str z t, .ref s.heap.objs.size]) (typeIs_str _ _ _) F.slot_str_getitem.lookup ?_ hs
  exact wpAny_getItem_str_slice (l := none) (u := none) (st := some (k, uk)) ⟨_, Heap.get?_push_size _ rfl, rfl, rfl⟩ hk
    (post_val_or_str ⟨Nat.le_trans (Txt.sliceBy_le z _ _ (k, uk) (by simpa using hk)) hz, fun t' c => ⟨.str _, H, I5.tok _, ⟨_, rfl⟩, q⟩⟩)
theorem pe_step2S {X : Cx} {e : Expr} {te : TE} {k : Nat} {p1 p3 pos : Pos} (he : PE X e te) : PE X (.Subscript e (.Slice none none (some (.Constant (.int 2) k p1)) p3) pos) (tStepS 2 te) := by
  refine ⟨fun pins s σ H Q I h => ?_⟩
  refine Subscript_ (thn (he.run pins s σ H _ I h) fun v s1 ⟨x, H1, I1, r1, q1⟩ => ?_)
  obtain ⟨z, ex, hz, q⟩ := q1
  subst ex
  obtain ⟨t, rfl⟩ := r1
  have hst : PO X (some (.Constant (.int 2) k p1)) (tPart (tC (.int 2))) := po_some pe_int
  refine wpAny_Slice (thn (po_none.run pins s1 σ H1 (fun o H2 => o = none ∧ H2 = H1) I1 ⟨rfl, rfl⟩) fun vl s2 ⟨l, H2, I2, pl, el, e2⟩ => ?_)
  subst el e2
  refine thn (po_none.run pins s2 σ H2 (fun o H3 => o = none ∧ H3 = H2) I2 ⟨rfl, rfl⟩) fun vu s3 ⟨u, H3, I3, pu, eu, e3⟩ => ?_
  subst eu e3
  refine thn (hst.run pins s3 σ H3 (fun o H4 => o = some 2 ∧ H4 = H3) I3 ⟨2, rfl, rfl, rfl⟩) fun vs s4 ⟨o, H4, I4, ps, eo, e4⟩ => ?_
  subst eo e4
  obtain ⟨l, rfl, el⟩ := IsPart.raw pl
  obtain ⟨u, rfl, eu⟩ := IsPart.raw pu
  obtain ⟨o, rfl, eo⟩ := IsPart.raw ps
  cases l with
  | some p => cases el
  | none => cases u with
    | some p => cases eu
    | none => cases o with
      | none => cases eo
      | some p =>
        obtain ⟨k0, uk⟩ := p
        cases eo
        exact step_tail I4 hz (by decide) q (by with_unfolding_all rfl)
theorem pe_revS {X : Cx} {e : Expr} {te : TE} {k : Nat} {p1 p2 p3 pos : Pos} (he : PE X e te) : PE X (.Subscript e (.Slice none none (some (.UnaryOp .USub (.Constant (.int 1) k p1) p2)) p3) pos) (tStepS (-1) te) := by
  refine ⟨fun pins s σ H Q I h => ?_⟩
  refine Subscript_ (thn (he.run pins s σ H _ I h) fun v s1 ⟨x, H1, I1, r1, q1⟩ => ?_)
  obtain ⟨z, ex, hz, q⟩ := q1
  subst ex
  obtain ⟨t, rfl⟩ := r1
  have hst : PO X (some (.UnaryOp .USub (.Constant (.int 1) k p1) p2)) (tPart (tUn (rU fun i => .int (-i)) (tC (.int 1)))) := po_some (pe_un un_neg pe_int)
  refine wpAny_Slice (thn (po_none.run pins s1 σ H1 (fun o H2 => o = none ∧ H2 = H1) I1 ⟨rfl, rfl⟩) fun vl s2 ⟨l, H2, I2, pl, el, e2⟩ => ?_)
  subst el e2
  refine thn (po_none.run pins s2 σ H2 (fun o H3 => o = none ∧ H3 = H2) I2 ⟨rfl, rfl⟩) fun vu s3 ⟨u, H3, I3, pu, eu, e3⟩ => ?_
  subst eu e3
  refine thn (hst.run pins s3 σ H3 (fun o H4 => o = some (-1) ∧ H4 = H3) I3 ⟨1, rfl, -1, rfl, rfl, rfl⟩) fun vs s4 ⟨o, H4, I4, ps, eo, e4⟩ => ?_
  subst eo e4
  obtain ⟨l, rfl, el⟩ := IsPart.raw pl
  obtain ⟨u, rfl, eu⟩ := IsPart.raw pu
  obtain ⟨o, rfl, eo⟩ := IsPart.raw ps
  cases l with
  | some p => cases el
  | none => cases u with
    | some p => cases eu
    | none => cases o with
      | none => cases eo
      | some p =>
        obtain ⟨k0, uk⟩ := p
        cases eo
        exact step_tail I4 hz (by decide) q (by with_unfolding_all rfl)
def stepG (k : Int) (a : Row) : Row := (Txt.sliceBy (S a) none none (k, 0)).cps.toList
theorem ev_stepS {k : Int} {te : TE} {σ : L2.St} {H : Hp} {a : Row} (h : Ev te σ H (VS a)) (hl : a.length ≤ 100000) : Ev (tStepS k te) σ H (VS (stepG k a)) := fun H1 e Q q =>
  h H1 e _ fun H2 e2 => ⟨S a, rfl, by rw [S_len]; exact sz_of hl, by
    have : S (stepG k a) = Txt.sliceBy (S a) none none (k, 0) := by unfold stepG S; simp
    rw [← this]
    exact q H2 e2⟩
theorem ev_step2S {te : TE} {σ : L2.St} {H : Hp} {a : Row} (h : Ev te σ H (VS a)) (hl : a.length ≤ 100000) : Ev (tStepS 2 te) σ H (VS (stepG 2 a)) := ev_stepS h hl
theorem stepG_sub {k : Int} {a : Row} : ∀ c ∈ stepG k a, c ∈ a := fun c hc => by
  unfold stepG Txt.sliceBy at hc
  split at hc
  · unfold S at hc; simpa using hc
  · simp only at hc
    rw [List.mem_filterMap] at hc
    obtain ⟨i, -, hi⟩ := hc
    unfold S at hi
    simp at hi
    exact List.mem_of_getElem? hi
theorem stepG_len {k : Int} {a : Row} (h : k ≠ 0) : (stepG k a).length ≤ a.length := by
  have := Txt.sliceBy_le (S a) none none (k, 0) h
  rw [S_len] at this
  exact this
theorem stepG_rev (a : Row) : stepG (-1) a = a.reverse := by
  unfold stepG
  rw [step_rev_list, S_len]
  refine List.ext_getElem (by simp) fun i h1 h2 => ?_
  rw [List.getElem_map, List.getElem_range, List.getElem_reverse]
  simp at h1
  show a.toArray.getD _ _ = _
  simp [Array.getD, show a.length - 1 - i < a.length by omega]
theorem ev_revS {te : TE} {σ : L2.St} {H : Hp} {a : Row} (h : Ev te σ H (VS a)) (hl : a.length ≤ 100000) : Ev (tStepS (-1) te) σ H (VS a.reverse) := Ev.is (ev_stepS h hl) (by rw [stepG_rev])
/-! ### parts of what is owned -/
theorem OwF.at {M : Addr → Prop} {H : Hp} : ∀ {ds : List Dt} {ps : List Pat} {vs : List V} {cs : List Addr}, OwF M H ds ps vs cs → ∀ (j : Nat) (d : Dt) (p : Pat), ds[j]? = some d → ps[j]? = some p →
    ∃ v b, vs[j]? = some v ∧ Ow M H d p v b ∧ (∀ a ∈ b, a ∈ cs) ∧ (cs.Nodup → b.Nodup) ∧
      ∀ H' d', cs.Nodup → Go M H M H' → (∀ x ∈ cs, x ∉ b → ∀ o, H x = some o → H' x = some o) → Ow M H' d' p v b → OwF M H' (ds.set j d') ps vs cs
  | [], ps, vs, cs, h, j, d, p, e, _ => by simp at e
  | d0 :: ds, ps, vs, cs, h, j, d, p, e, e' => by
    unfold OwF at h
    obtain ⟨p0, pr, v0, r, b0, c, rfl, rfl, rfl, h1, h2⟩ := h
    cases j with
    | zero =>
      simp at e e'
      subst e e'
      refine ⟨v0, b0, rfl, h1, fun a ha => List.mem_append_left _ ha, fun n => (List.nodup_append.mp n).1, fun H' d' n g k w => ?_⟩
      show OwF M H' (d' :: ds) _ _ _
      unfold OwF
      exact ⟨p0, pr, v0, r, b0, c, rfl, rfl, rfl, w, h2.go g fun x hx o ho => k x (List.mem_append_right _ hx) (fun z => (List.nodup_append.mp n).2.2 x z x hx rfl) o ho⟩
    | succ j =>
      obtain ⟨v, b, k1, k2, k3, k4, k5⟩ := OwF.at h2 j d p (by simpa using e) (by simpa using e')
      refine ⟨v, b, by simpa using k1, k2, fun a ha => List.mem_append_right _ (k3 a ha), fun n => k4 (List.nodup_append.mp n).2.1, fun H' d' n g k w => ?_⟩
      show OwF M H' (d0 :: ds.set j d') _ _ _
      unfold OwF
      exact ⟨p0, pr, v0, r, b0, c, rfl, rfl, rfl, h1.go g fun x hx o ho => k x (List.mem_append_left _ hx) (fun z => (List.nodup_append.mp n).2.2 x hx x (k3 x z) rfl) o ho,
        k5 H' d' (List.nodup_append.mp n).2.1 g (fun x hx hb => k x (List.mem_append_right _ hx) hb) w⟩
/-- to tells the part d (owned by p) of what slot i owns; W: the whole with a new part -/
def Rch (to : TE) (σ : L2.St) (H : Hp) (M : Addr → Prop) (i : Nat) (d0 : Dt) (p0 : Pat) (d : Dt) (p : Pat) (W : Dt → Dt) : Prop :=
  ∀ v0 bs0, σ[i]? = some (some v0) → Ow M H d0 p0 v0 bs0 → bs0.Nodup → ∃ v b, (∀ H1, Ex H H1 → ∀ Q : VK, (∀ H2, Ex H1 H2 → Q v H2) → to σ H1 Q) ∧ Ow M H d p v b ∧ b.Nodup ∧ (∀ x ∈ b, x ∈ bs0) ∧
    ∀ H1 d', Go M H M H1 → (∀ x ∈ bs0, x ∉ b → ∀ o, H x = some o → H1 x = some o) → Ow M H1 d' p v b → Ow M H1 (W d') p0 v0 bs0
section
variable {K : PySem.W.Frag} {F : Addr → Prop} {Z : Hp → (Addr → Prop) → Prop} {ρ : List Sl} {σ : L2.St} {H : Hp} {M : Addr → Prop} {d d0 : Dt} {p p0 : Pat} {i j n : Nat} {to tb te : TE} {s : Sh} {ds : List Dt} {α : Type} {D : Ends} {C : Addr} {ns : List Str} {f : Str} {ps : List Pat} {tz : TS} {W : Dt → Dt}
theorem Rch.var : Rch (tVar i) σ H M i d p d p id := fun v0 bs0 e w nd => ⟨v0, bs0, fun H1 e1 Q q => ⟨v0, e, q H1 (Ex.refl _)⟩, w, nd, fun _ h => h, fun _ _ _ _ h => h⟩
theorem Rch.fld (h : Rch to σ H M i d0 p0 (.node (.i C ns) ds) (.fs ps) W) (hC : Cls K C) (hn : NoAttr K C f) (j : Nat) (hj : ns[j]? = some f) (ht : f ∉ ns.take j) (hd : ds[j]? = some d) (hp : ps[j]? = some p) :
    Rch (tFld K to f) σ H M i d0 p0 d p (fun x => W (.node (.i C ns) (ds.set j x))) := fun v0 bs0 e0 w0 nd => by
  obtain ⟨v, b, ev, w, nb, sub, put⟩ := h v0 bs0 e0 w0 nd
  unfold Ow at w
  obtain ⟨a, vs, cs, rfl, ⟨dx, ho, hl⟩, rfl, f2⟩ := w
  obtain ⟨vj, bj, k1, k2, k3, k4, k5⟩ := f2.at j d p hd hp
  have nc := List.nodup_cons.mp nb
  refine ⟨vj, bj, fun H1 e Q q => ev H1 e _ fun H2 e2 => ⟨a, C, dx, ns.zip vs, vj, rfl, (e.trans e2) _ _ ho, hC, hn, by rw [lookup_zip_at hj ht hl]; exact k1, q H2 e2⟩, k2, k4 nc.2, fun x hx => sub x (List.mem_cons_of_mem _ (k3 x hx)), fun H1 d' g k w' =>
    put H1 _ g (fun x hx hxb => k x hx (fun z => hxb (List.mem_cons_of_mem _ (k3 x z)))) ?_⟩
  unfold Ow
  exact ⟨a, vs, cs, rfl, ⟨dx, k a (sub a List.mem_cons_self) (fun z => nc.1 (k3 a z)) _ ho, hl⟩, rfl, k5 H1 d' nc.2 g (fun x hx hxb => k x (sub x (List.mem_cons_of_mem _ hx)) hxb) w'⟩
theorem Rch.ix (h : Rch to σ H M i d0 p0 (.node .l ds) (.ow p) W) (hb : Ev tb σ H (.int (n : Int))) (hd : ds[n]? = some d) : Rch (tOp (rIxL K) to tb) σ H M i d0 p0 d p (fun x => W (.node .l (ds.set n x))) := fun v0 bs0 e0 w0 nd => by
  obtain ⟨v, b, ev, w, nb, sub, put⟩ := h v0 bs0 e0 w0 nd
  unfold Ow at w
  obtain ⟨a, vs, cs, rfl, ho, rfl, f2⟩ := w
  have hn := (List.getElem?_eq_some_iff.mp hd).1
  obtain ⟨vj, bj, k1, k2, k3, k4, k5⟩ := f2.at n d p hd (by rw [List.getElem?_replicate, if_pos hn])
  have nc := List.nodup_cons.mp nb
  have hvl : n < vs.length := (List.getElem?_eq_some_iff.mp k1).1
  refine ⟨vj, bj, fun H1 e Q q => ev H1 e _ fun H2 e2 => hb H2 (e.trans e2) _ fun H3 e3 => ⟨a, vs, (n : Int), _, rfl, rfl, (slof (K := K) (((e.trans e2).trans e3) _ _ ho)).q, atI_getD V.non (by omega) (by omega), by rw [List.getD_eq_getElem?_getD, show ((n : Int)).toNat = n from rfl, k1]; exact q H3 (e2.trans e3)⟩, k2, k4 nc.2, fun x hx => sub x (List.mem_cons_of_mem _ (k3 x hx)), fun H1 d' g k w' =>
    put H1 _ g (fun x hx hxb => k x hx (fun z => hxb (List.mem_cons_of_mem _ (k3 x z)))) ?_⟩
  unfold Ow
  exact ⟨a, vs, cs, rfl, k a (sub a List.mem_cons_self) (fun z => nc.1 (k3 a z)) _ ho, rfl, by rw [List.length_set]; exact k5 H1 d' nc.2 g (fun x hx hxb => k x (sub x (List.mem_cons_of_mem _ hx)) hxb) w'⟩
/-- the object told is changed -/
theorem Ok.reach (ok : Ok F Z ρ σ H M) (h : ρ[i]? = some (.own d0 p0)) (R : Rch to σ H M i d0 p0 (.node s ds) (.ow .sh) W) : ∃ a vs, (∀ H1, Ex H H1 → ∀ Q : VK, (∀ H2, Ex H1 H2 → Q (.ref a) H2) → to σ H1 Q) ∧ ObAt H s a vs ∧ RpL M H ds vs ∧
    ∀ H1, Ex H H1 → ∀ (o : HO) (s' : Sh) (ds' : List Dt) (vs' : List V), ObAt (upd H1 a o) s' a vs' → RpL M H1 ds' vs' → Ok F Z (ρ.set i (.own (W (.node s' ds')) p0)) σ (upd H1 a o) M := by
  obtain ⟨as, nd, own, sl⟩ := ok.sl
  obtain ⟨v0, bs, cs, h1, h2, h3, h4⟩ := sl.out h
  have nd2 := List.nodup_append.mp (h4.nodup_iff.mpr nd)
  obtain ⟨v, b, ev, w, nb, sub, put⟩ := R v0 bs h1 h2 nd2.1
  obtain ⟨a, vs, rfl, ob, rfl, r⟩ := ow_mu.mp w
  refine ⟨a, vs, ev, ob, r, fun H1 e o s' ds' vs' ob' r' => ?_⟩
  have hab : a ∈ bs := sub a (List.mem_singleton.mpr rfl)
  have ha := own a (h4.subset (List.mem_append_left _ hab))
  have g : Go M H1 M (upd H1 a o) := fun b u n hb => ⟨by rw [upd_ne (fun z => n (by rw [z]; exact ha.1))]; exact hb, n⟩
  have g0 : Go M H M (upd H1 a o) := fun b u n hb => g b u n (e b u hb)
  have hi : i < ρ.length := (List.getElem?_eq_some_iff.mp h).1
  have sl' := h3.go g0 fun b hb u hu => by
    rw [upd_ne (fun z => nd2.2.2 a hab b hb z.symm)]
    exact e b u hu
  obtain ⟨as', k1, k2⟩ := OkL.back (bs := bs) (put (upd H1 a o) (.node s' ds') g0 (fun x hx hxb u hu => by
    rw [upd_ne (fun z => hxb (by rw [z]; exact List.mem_singleton.mpr rfl))]
    exact e x u hu) (ow_mu.mpr ⟨a, vs', rfl, ob', rfl, r'.go g⟩)) hi sl' h1
  refine ⟨⟨as', by rw [k2.nodup_iff]; exact h4.nodup_iff.mpr nd, fun b hb => own b (h4.subset (k2.subset hb)), k1⟩, fun b hb hn => ?_, ok.fr, ?_, ok.mz⟩
  · by_cases z : b = a
    · rw [z, upd_same] at hn; cases hn
    · rw [upd_ne z] at hn
      exact ok.al b hb (fresh_back e hn)
  · exact ok.mz _ _ _ _ ok.z ⟨fun b u n hb => by rw [upd_ne (fun z => n (by rw [z]; exact ha))]; exact e b u hb, fun b hb => .inl hb⟩
/-- (part).append(e) -/
theorem c_appP {g : α → Dt} {xs : List α} {x : α} (ok : Ok F Z ρ σ H M) (hi : ρ[i]? = some (.own d0 p0)) (R : Rch to σ H M i d0 p0 (.node .l (xs.map g)) (.ow .sh) W) (h : EvR M te σ H (g x)) (hz : xs.length < 100000)
    (k : ∀ M' σ' H', Ok F Z (ρ.set i (.own (W (.node .l ((xs ++ [x]).map g))) p0)) σ' H' M' → D.nx σ' H') : tDrop (tBM K "list" rAppend to (tCons te tNil)) D σ H := by
  obtain ⟨a, vs, h1, h2, h3, h4⟩ := ok.reach hi R
  have h2 : H a = some (.lst vs) := h2
  refine h1 H (Ex.refl _) _ fun H0 e0 => ⟨.inl ⟨rfl, vs, SL.q (slof (e0 _ _ h2))⟩, ?_⟩
  refine h H0 e0 _ fun v H1 e1 r => ⟨a, vs, v, rfl, rfl, (e0.trans e1) _ _ h2, sz_lt (by rw [h3.len, List.length_map]; exact hz), ?_⟩
  refine k _ _ _ (h4 H1 (e0.trans e1) _ .l _ (vs ++ [v]) upd_same ?_)
  rw [List.map_append]
  exact (RpL.go (Go.ex (e0.trans e1)) h3).app (RpL.one r)
theorem b_appP {g : α → Dt} {xs : List α} {x : α} (ok : Ok F Z ρ σ H M) (hi : ρ[i]? = some (.own d0 p0)) (R : Rch to σ H M i d0 p0 (.node .l (xs.map g)) (.ow .sh) W) (h : EvR M te σ H (g x)) (hz : xs.length < 100000)
    (k : ∀ M' σ' H', Ok F Z (ρ.set i (.own (W (.node .l ((xs ++ [x]).map g))) p0)) σ' H' M' → tz D σ' H') : tSeq (tDrop (tBM K "list" rAppend to (tCons te tNil))) tz D σ H := c_appP (D := { D with nx := tz D }) ok hi R h hz k
/-- (part)[n] = e -/
theorem c_setP {g : α → Dt} {xs : List α} {x : α} (ok : Ok F Z ρ σ H M) (hi : ρ[i]? = some (.own d0 p0)) (R : Rch to σ H M i d0 p0 (.node .l (xs.map g)) (.ow .sh) W) (h : EvR M te σ H (g x)) (hn : Ev tb σ H (.int (n : Int))) (hz : n < xs.length)
    (k : ∀ M' σ' H', Ok F Z (ρ.set i (.own (W (.node .l ((xs.set n x).map g))) p0)) σ' H' M' → D.nx σ' H') : tAsg te (gSub to tb rSetL) D σ H := by
  obtain ⟨a, vs, h1, h2, h3, h4⟩ := ok.reach hi R
  have h2 : H a = some (.lst vs) := h2
  refine h H (Ex.refl _) _ fun v H1 e1 r => h1 H1 e1 _ fun H2 e2 => ?_
  refine hn H2 (e1.trans e2) _ fun H3 e3 => ⟨a, vs, (n : Int), n, rfl, rfl, ((e1.trans e2).trans e3) _ _ h2, ?_, ?_⟩
  · have hl := h3.len
    rw [List.length_map] at hl
    exact ixN_nat (by omega)
  · refine k _ _ _ (h4 H3 ((e1.trans e2).trans e3) _ .l _ (vs.set n v) upd_same ?_)
    rw [List.map_set]
    exact (RpL.go (Go.ex ((e1.trans e2).trans e3)) h3).set (mon_R _ _ _ _ _ (e2.trans e3) r) n
theorem b_setP {g : α → Dt} {xs : List α} {x : α} (ok : Ok F Z ρ σ H M) (hi : ρ[i]? = some (.own d0 p0)) (R : Rch to σ H M i d0 p0 (.node .l (xs.map g)) (.ow .sh) W) (h : EvR M te σ H (g x)) (hn : Ev tb σ H (.int (n : Int))) (hz : n < xs.length)
    (k : ∀ M' σ' H', Ok F Z (ρ.set i (.own (W (.node .l ((xs.set n x).map g))) p0)) σ' H' M' → tz D σ' H') : tSeq (tAsg te (gSub to tb rSetL)) tz D σ H := c_setP (D := { D with nx := tz D }) ok hi R h hn hz k
end
end Ho

/-! dicts whose items are any data -/
namespace Ho
open PySem PySem.Spec PyProof.Rows L2 Evl
section
variable {α β : Type} [DecidableEq α]
def lookG (r : List (α × β)) (k : α) : Option β := (r.find? fun p => decide (p.1 = k)).map (·.2)
def putG (r : List (α × β)) (k : α) (v : β) : List (α × β) := if (r.any fun p => decide (p.1 = k)) = true then r.map (fun p => if p.1 = k then (p.1, v) else p) else r ++ [(k, v)]
theorem lookG_nil {k : α} : lookG ([] : List (α × β)) k = none := rfl
theorem lookG_cons {p : α × β} {r : List (α × β)} {k : α} : lookG (p :: r) k = if p.1 = k then some p.2 else lookG r k := by
  unfold lookG
  by_cases h : p.1 = k
  · simp [h]
  · simp [h]
theorem lookG_any {k : α} : ∀ {r : List (α × β)}, (r.any fun p => decide (p.1 = k)) = (lookG r k).isSome
  | [] => rfl
  | p :: r => by
    rw [List.any_cons, lookG_cons, lookG_any (r := r)]
    by_cases h : p.1 = k
    · simp [h]
    · simp [h]
theorem lookG_app {k : α} {r s : List (α × β)} : lookG (r ++ s) k = (lookG r k).or (lookG s k) := by
  induction r with
  | nil => simp [lookG_nil]
  | cons p r ih =>
    rw [List.cons_append, lookG_cons, lookG_cons, ih]
    split <;> simp
theorem putG_new {r : List (α × β)} {k : α} {v : β} (h : lookG r k = none) : putG r k v = r ++ [(k, v)] := by
  unfold putG
  rw [lookG_any, h]
  rfl
theorem putG_old {r : List (α × β)} {k : α} {v : β} (h : (lookG r k).isSome = true) : putG r k v = r.map (fun p => if p.1 = k then (p.1, v) else p) := by
  unfold putG
  rw [lookG_any, h, if_pos rfl]
theorem putG_len (r : List (α × β)) (k : α) (v : β) : (putG r k v).length ≤ r.length + 1 := by
  unfold putG
  split <;> simp
theorem putG_keys (r : List (α × β)) (k : α) (v : β) : (putG r k v).map (·.1) = if (lookG r k).isSome then r.map (·.1) else r.map (·.1) ++ [k] := by
  cases h : lookG r k with
  | none => rw [putG_new h]; simp
  | some b =>
    rw [putG_old (by rw [h]; rfl), List.map_map]
    show _ = r.map (·.1)
    refine List.map_congr_left fun p _ => ?_
    show (if p.1 = k then (p.1, v) else p).1 = p.1
    split <;> rfl
theorem lookG_mem {k : α} {v : β} : ∀ {r : List (α × β)}, lookG r k = some v → (k, v) ∈ r
  | [], h => by cases h
  | p :: r, h => by
    rw [lookG_cons] at h
    split at h
    · rename_i e
      cases h
      subst e
      exact List.mem_cons_self
    · exact List.mem_cons_of_mem _ (lookG_mem h)
theorem lookG_put {r : List (α × β)} {k j : α} {v : β} : lookG (putG r k v) j = if k = j then some v else lookG r j := by
  cases h : lookG r k with
  | none =>
    rw [putG_new h, lookG_app, lookG_cons, lookG_nil]
    by_cases e : k = j
    · subst e; rw [h]; simp
    · simp [e]
  | some b =>
    rw [putG_old (by rw [h]; rfl)]
    by_cases e : k = j
    · subst e
      rw [if_pos rfl]
      have : ∀ r : List (α × β), (lookG r k).isSome = true → lookG (r.map fun p => if p.1 = k then (p.1, v) else p) k = some v := fun r => by
        induction r with
        | nil => intro h; cases h
        | cons p r ih =>
          intro h
          rw [List.map_cons, lookG_cons]
          by_cases e : p.1 = k
          · simp [e]
          · rw [lookG_cons, if_neg e] at h
            simp [e]
            exact ih h
      exact this r (by rw [h]; rfl)
    · rw [if_neg e]
      clear h
      induction r with
      | nil => rfl
      | cons p r ih =>
        rw [List.map_cons, lookG_cons, lookG_cons, ih]
        by_cases h2 : p.1 = k
        · simp [h2, e]
        · simp [h2]
end
section
variable {α β : Type} [DecidableEq α] {κ : α → Key} {f : β → Dt} {M : Addr → Prop} {H : Hp}
theorem valK (hκ : ∀ a b, κ a = κ b → a = b) {k : α} : ∀ {r : List (α × β)} {vs : List V}, RpL M H (r.map fun p => f p.2) vs → match lookG r k with
    | none => valV ((r.map fun p => κ p.1).zip vs) (κ k) = none
    | some b => ∃ v, valV ((r.map fun p => κ p.1).zip vs) (κ k) = some v ∧ Rp M H (f b) v
  | [], vs, h => rfl
  | p :: r, vs, h => by
    rw [List.map_cons] at h
    unfold RpL at h
    obtain ⟨v, w, rfl, h1, h2⟩ := h
    rw [List.map_cons, List.zip_cons_cons, lookG_cons]
    by_cases e : p.1 = k
    · rw [if_pos e]
      exact ⟨v, valV_pos (by rw [e]), h1⟩
    · rw [if_neg e, valV_neg (fun z => e (hκ _ _ z))]
      exact valK hκ h2
theorem valK_none (hκ : ∀ a b, κ a = κ b → a = b) {k : α} {r : List (α × β)} {vs : List V} (h : RpL M H (r.map fun p => f p.2) vs) (hn : lookG r k = none) : valV ((r.map fun p => κ p.1).zip vs) (κ k) = none := by
  have := valK hκ (k := k) h
  rw [hn] at this
  exact this
theorem valK_some (hκ : ∀ a b, κ a = κ b → a = b) {k : α} {b : β} {r : List (α × β)} {vs : List V} (h : RpL M H (r.map fun p => f p.2) vs) (hn : lookG r k = some b) : ∃ v, valV ((r.map fun p => κ p.1).zip vs) (κ k) = some v ∧ Rp M H (f b) v := by
  have := valK hκ (k := k) h
  rw [hn] at this
  exact this
theorem valK_is (hκ : ∀ a b, κ a = κ b → a = b) {k : α} {r : List (α × β)} {vs : List V} (h : RpL M H (r.map fun p => f p.2) vs) : (valV ((r.map fun p => κ p.1).zip vs) (κ k)).isSome = (lookG r k).isSome := by
  cases hn : lookG r k with
  | none => rw [valK_none hκ h hn]; rfl
  | some b =>
    obtain ⟨v, e, _⟩ := valK_some hκ h hn
    rw [e]; rfl
/-- the dict with an item put -/
theorem putK_is (hκ : ∀ a b, κ a = κ b → a = b) {k : α} {b : β} {v : V} (hv : Rp M H (f b) v) {r : List (α × β)} {vs : List V} (h : RpL M H (r.map fun p => f p.2) vs) :
    ∃ vs', putK ((r.map fun p => κ p.1).zip vs) (κ k) v = ((putG r k b).map fun p => κ p.1).zip vs' ∧ RpL M H ((putG r k b).map fun p => f p.2) vs' := by
  have hany : (((r.map fun p => κ p.1).zip vs).any fun kv => decide (kv.1 = κ k)) = (r.any fun p => decide (p.1 = k)) := by
    rw [valV_any, valK_is hκ h, lookG_any]
  unfold putK putG
  rw [hany]
  by_cases c : (r.any fun p => decide (p.1 = k)) = true
  · rw [if_pos c, if_pos c]
    clear c hany
    induction r generalizing vs with
    | nil =>
      unfold RpL at h
      subst h
      exact ⟨[], rfl, by unfold RpL; rfl⟩
    | cons p r ih =>
      rw [List.map_cons] at h
      unfold RpL at h
      obtain ⟨v0, w, rfl, h1, h2⟩ := h
      obtain ⟨vs', e1, e2⟩ := ih h2
      rw [List.map_cons, List.zip_cons_cons, List.map_cons, e1]
      by_cases e : p.1 = k
      · refine ⟨v :: vs', ?_, ?_⟩
        · simp [e]
        · rw [List.map_cons, List.map_cons]
          unfold RpL
          exact ⟨v, vs', rfl, by simp [e]; exact hv, e2⟩
      · have e' : ¬ κ p.1 = κ k := fun z => e (hκ _ _ z)
        refine ⟨v0 :: vs', ?_, ?_⟩
        · simp [e, e']
        · rw [List.map_cons, List.map_cons]
          unfold RpL
          exact ⟨v0, vs', rfl, by simp [e]; exact h1, e2⟩
  · rw [if_neg c, if_neg c]
    refine ⟨vs ++ [v], ?_, ?_⟩
    · rw [List.map_append, List.zip_append (by rw [List.length_map, h.len, List.length_map])]
      rfl
    · rw [List.map_append]
      exact h.app (RpL.one hv)
end
theorem inS_inj (a b : Row) (h : (Sum.inr (S a) : Key) = Sum.inr (S b)) : a = b := keyS_eq.mp h
theorem inI_inj (a b : Int) (h : (Sum.inl a : Key) = Sum.inl b) : a = b := Sum.inl.inj h
section
variable {K : PySem.W.Frag} {F : Addr → Prop} {Z : Hp → (Addr → Prop) → Prop} {ρ : List Sl} {σ : L2.St} {H : Hp} {M : Addr → Prop} {d d0 : Dt} {p p0 : Pat} {i j n : Nat} {to ta tb te : TE} {α β : Type} {D : Ends} {tz : TS} {W : Dt → Dt} {f : β → Dt}
/-! in, []: keys that are texts, numbers -/
theorem ev_dinS {r : List (Row × β)} {a : Row} (hb : Ev tb σ H (VS a)) (h : EvN M ta σ H (.d (r.map fun p => .inr (S p.1))) (r.map fun p => f p.2)) : Ev (tDIn tb ta) σ H (.bl (lookG r a).isSome) := fun H1 e Q q =>
  hb H1 e _ fun H2 e2 => h H2 (e.trans e2) _ fun v H3 e3 ⟨x, vs, ev, ho, hr⟩ => ⟨x, _, ev, DGet.k (k := Sum.inr (S a)) ho.1, by
    rw [valK_is (κ := fun x : Row => Sum.inr (S x)) inS_inj hr]
    exact q H3 (e2.trans e3)⟩
theorem ev_dninS {r : List (Row × β)} {a : Row} (hb : Ev tb σ H (VS a)) (h : EvN M ta σ H (.d (r.map fun p => .inr (S p.1))) (r.map fun p => f p.2)) : Ev (tDNotIn tb ta) σ H (.bl (!(lookG r a).isSome)) := fun H1 e Q q =>
  hb H1 e _ fun H2 e2 => h H2 (e.trans e2) _ fun v H3 e3 ⟨x, vs, ev, ho, hr⟩ => ⟨x, _, ev, DGet.k (k := Sum.inr (S a)) ho.1, by
    rw [valK_is (κ := fun x : Row => Sum.inr (S x)) inS_inj hr]
    exact q H3 (e2.trans e3)⟩
theorem ev_dinI {r : List (Int × β)} {a : Int} (hb : Ev tb σ H (.int a)) (h : EvN M ta σ H (.d (r.map fun p => .inl p.1)) (r.map fun p => f p.2)) : Ev (tDIn tb ta) σ H (.bl (lookG r a).isSome) := fun H1 e Q q =>
  hb H1 e _ fun H2 e2 => h H2 (e.trans e2) _ fun v H3 e3 ⟨x, vs, ev, ho, hr⟩ => ⟨x, _, ev, DGet.k (k := Sum.inl a) ho.1, by
    rw [valK_is (κ := fun x : Int => Sum.inl x) inI_inj hr]
    exact q H3 (e2.trans e3)⟩
theorem ev_dninI {r : List (Int × β)} {a : Int} (hb : Ev tb σ H (.int a)) (h : EvN M ta σ H (.d (r.map fun p => .inl p.1)) (r.map fun p => f p.2)) : Ev (tDNotIn tb ta) σ H (.bl (!(lookG r a).isSome)) := fun H1 e Q q =>
  hb H1 e _ fun H2 e2 => h H2 (e.trans e2) _ fun v H3 e3 ⟨x, vs, ev, ho, hr⟩ => ⟨x, _, ev, DGet.k (k := Sum.inl a) ho.1, by
    rw [valK_is (κ := fun x : Int => Sum.inl x) inI_inj hr]
    exact q H3 (e2.trans e3)⟩
theorem r_dgetS {r : List (Row × β)} {a : Row} {b : β} (h : EvN M ta σ H (.d (r.map fun p => .inr (S p.1))) (r.map fun p => f p.2)) (hb : Ev tb σ H (VS a)) (hl : lookG r a = some b) : EvR M (tDGet ta tb) σ H (f b) := fun H1 e Q q =>
  h H1 e _ fun v H2 e2 ⟨x, vs, ev, ho, hr⟩ => hb H2 (e.trans e2) _ fun H3 e3 => by
    obtain ⟨w, e1, e4⟩ := valK_some (κ := fun x : Row => Sum.inr (S x)) inS_inj hr hl
    exact ⟨x, w, ev, by rw [← e1]; exact DGet.k (k := Sum.inr (S a)) (e3 _ _ ho.1), q w H3 (e2.trans e3) (Rp.go (Go.ex e3) e4)⟩
theorem r_dgetI {r : List (Int × β)} {a : Int} {b : β} (h : EvN M ta σ H (.d (r.map fun p => .inl p.1)) (r.map fun p => f p.2)) (hb : Ev tb σ H (.int a)) (hl : lookG r a = some b) : EvR M (tDGet ta tb) σ H (f b) := fun H1 e Q q =>
  h H1 e _ fun v H2 e2 ⟨x, vs, ev, ho, hr⟩ => hb H2 (e.trans e2) _ fun H3 e3 => by
    obtain ⟨w, e1, e4⟩ := valK_some (κ := fun x : Int => Sum.inl x) inI_inj hr hl
    exact ⟨x, w, ev, by rw [← e1]; exact DGet.k (k := Sum.inl a) (e3 _ _ ho.1), q w H3 (e2.trans e3) (Rp.go (Go.ex e3) e4)⟩
/-! d[k] = e -/
theorem c_putS {r : List (Row × β)} {a : Row} {b : β} (ok : Ok F Z ρ σ H M) (hi : ρ[i]? = some (mu (uDS f r))) (h : EvR M te σ H (f b)) (hk : Ev tb σ H (VS a)) (hz : r.length < 100000)
    (k : ∀ M' σ' H', Ok F Z (ρ.set i (mu (uDS f (putG r a b)))) σ' H' M' → D.nx σ' H') : sDPut (tVar i) tb te D σ H := by
  obtain ⟨x, vs, h1, h2, h3, h4⟩ := ok.mut hi
  refine h H (Ex.refl _) _ fun v H1 e1 r1 => ⟨.ref x, h1, ?_⟩
  refine hk H1 e1 _ fun H2 e2 => ⟨x, _, rfl, DPut.k (k := Sum.inr (S a)) ((e1.trans e2) _ _ h2.1) (by rw [List.length_zip, h3.len]; simp; exact sz_lt hz), ?_⟩
  have h3' := RpL.go (Go.ex (M := M) (e1.trans e2)) h3
  obtain ⟨vs', e3, e4⟩ := putK_is (κ := fun x : Row => Sum.inr (S x)) inS_inj (k := a) (mon_R _ _ _ _ _ e2 r1) h3'
  rw [e3]
  exact k _ _ _ (h4 H2 (e1.trans e2) _ (.d ((putG r a b).map fun p => .inr (S p.1))) _ vs' ⟨upd_same, by rw [e4.len]; simp⟩ e4)
theorem b_putS {r : List (Row × β)} {a : Row} {b : β} (ok : Ok F Z ρ σ H M) (hi : ρ[i]? = some (mu (uDS f r))) (h : EvR M te σ H (f b)) (hk : Ev tb σ H (VS a)) (hz : r.length < 100000)
    (k : ∀ M' σ' H', Ok F Z (ρ.set i (mu (uDS f (putG r a b)))) σ' H' M' → tz D σ' H') : tSeq (sDPut (tVar i) tb te) tz D σ H := c_putS (D := { D with nx := tz D }) ok hi h hk hz k
theorem c_putI {r : List (Int × β)} {a : Int} {b : β} (ok : Ok F Z ρ σ H M) (hi : ρ[i]? = some (mu (uDI f r))) (h : EvR M te σ H (f b)) (hk : Ev tb σ H (.int a)) (hz : r.length < 100000)
    (k : ∀ M' σ' H', Ok F Z (ρ.set i (mu (uDI f (putG r a b)))) σ' H' M' → D.nx σ' H') : sDPut (tVar i) tb te D σ H := by
  obtain ⟨x, vs, h1, h2, h3, h4⟩ := ok.mut hi
  refine h H (Ex.refl _) _ fun v H1 e1 r1 => ⟨.ref x, h1, ?_⟩
  refine hk H1 e1 _ fun H2 e2 => ⟨x, _, rfl, DPut.k (k := Sum.inl a) ((e1.trans e2) _ _ h2.1) (by rw [List.length_zip, h3.len]; simp; exact sz_lt hz), ?_⟩
  have h3' := RpL.go (Go.ex (M := M) (e1.trans e2)) h3
  obtain ⟨vs', e3, e4⟩ := putK_is (κ := fun x : Int => Sum.inl x) inI_inj (k := a) (mon_R _ _ _ _ _ e2 r1) h3'
  rw [e3]
  exact k _ _ _ (h4 H2 (e1.trans e2) _ (.d ((putG r a b).map fun p => .inl p.1)) _ vs' ⟨upd_same, by rw [e4.len]; simp⟩ e4)
theorem b_putI {r : List (Int × β)} {a : Int} {b : β} (ok : Ok F Z ρ σ H M) (hi : ρ[i]? = some (mu (uDI f r))) (h : EvR M te σ H (f b)) (hk : Ev tb σ H (.int a)) (hz : r.length < 100000)
    (k : ∀ M' σ' H', Ok F Z (ρ.set i (mu (uDI f (putG r a b)))) σ' H' M' → tz D σ' H') : tSeq (sDPut (tVar i) tb te) tz D σ H := c_putI (D := { D with nx := tz D }) ok hi h hk hz k
/-! d.setdefault(k, e) -/
def setG [DecidableEq α] (r : List (α × β)) (k : α) (v : β) : List (α × β) := if (lookG r k).isSome then r else r ++ [(k, v)]
theorem c_setdS {r : List (Row × β)} {a : Row} {b : β} (ok : Ok F Z ρ σ H M) (hi : ρ[i]? = some (mu (uDS f r))) (h : EvR M te σ H (f b)) (hk : Ev tb σ H (VS a)) (hz : r.length < 100000)
    (k : ∀ M' σ' H', Ok F Z (ρ.set i (mu (uDS f (setG r a b)))) σ' H' M' → D.nx σ' H') : tDrop (tDSetd (tVar i) tb te) D σ H := by
  obtain ⟨x, vs, h1, h2, h3, h4⟩ := ok.mut hi
  refine ⟨.ref x, h1, x, rfl, .inl ⟨_, .inl h2.1⟩, ?_⟩
  refine hk H (Ex.refl _) _ fun H1 e1 => h H1 e1 _ fun v H2 e2 r1 => ⟨_, Sum.inr (S a), (e1.trans e2) _ _ h2.1, rfl, by rw [List.length_zip, h3.len]; simp; exact sz_lt hz, ?_, ?_⟩
  · intro u hu
    have : lookG r a ≠ none := fun hn => by rw [valK_none (κ := fun x : Row => Sum.inr (S x)) inS_inj h3 hn] at hu; cases hu
    have e : setG r a b = r := by
      unfold setG
      rw [if_pos (by cases hl : lookG r a with
        | none => exact absurd hl this
        | some b => rfl)]
    refine k M σ H2 ?_
    rw [e, show ρ.set i (mu (uDS f r)) = ρ from by
      obtain ⟨hl, he⟩ := List.getElem?_eq_some_iff.mp hi
      rw [← he]
      exact List.set_getElem_self hl]
    exact ok.ex (e1.trans e2)
  · intro hn
    have hl : lookG r a = none := by
      cases hl : lookG r a with
      | none => rfl
      | some c =>
        obtain ⟨w, e, _⟩ := valK_some (κ := fun x : Row => Sum.inr (S x)) inS_inj h3 hl
        rw [e] at hn
        cases hn
    have h3' := RpL.go (Go.ex (M := M) (e1.trans e2)) h3
    obtain ⟨vs', e3, e4⟩ := putK_is (κ := fun x : Row => Sum.inr (S x)) inS_inj (k := a) r1 h3'
    have e : setG r a b = putG r a b := by unfold setG; rw [putG_new hl, hl]; rfl
    rw [← e] at e3 e4
    rw [e3]
    exact k _ _ _ (h4 H2 (e1.trans e2) _ (.d ((setG r a b).map fun p => .inr (S p.1))) _ vs' ⟨upd_same, by rw [e4.len]; simp⟩ e4)
theorem b_setdS {r : List (Row × β)} {a : Row} {b : β} (ok : Ok F Z ρ σ H M) (hi : ρ[i]? = some (mu (uDS f r))) (h : EvR M te σ H (f b)) (hk : Ev tb σ H (VS a)) (hz : r.length < 100000)
    (k : ∀ M' σ' H', Ok F Z (ρ.set i (mu (uDS f (setG r a b)))) σ' H' M' → tz D σ' H') : tSeq (tDrop (tDSetd (tVar i) tb te)) tz D σ H := c_setdS (D := { D with nx := tz D }) ok hi h hk hz k
/-! {} -/
theorem p_nilDS : EvD te σ H [] → EvP M te σ H (uDS f []) (.ow .sh) := fun h H1 e Q q => h H1 e Q fun p H2 hp e2 h2 => q _ [p] H2 e2 (by simp) (by simpa using hp) (ow_mu.mpr ⟨p, [], rfl, ⟨h2, rfl⟩, rfl, by simp [RpL]⟩)
theorem p_nilDI : EvD te σ H [] → EvP M te σ H (uDI f []) (.ow .sh) := fun h H1 e Q q => h H1 e Q fun p H2 hp e2 h2 => q _ [p] H2 e2 (by simp) (by simpa using hp) (ow_mu.mpr ⟨p, [], rfl, ⟨h2, rfl⟩, rfl, by simp [RpL]⟩)
/-! sorted(d) -/
theorem sorted_perm : ∀ {a b : List Int}, a.Perm b → a.Pairwise (· ≤ ·) → b.Pairwise (· ≤ ·) → a = b
  | [], b, h, _, _ => (List.Perm.nil_eq h)
  | x :: a, [], h, _, _ => by simp at h
  | x :: a, y :: b, h, ha, hb => by
    rw [List.pairwise_cons] at ha hb
    have hx : y ≤ x := by
      rcases List.mem_cons.mp (h.subset List.mem_cons_self) with e | e
      · omega
      · exact hb.1 x e
    have hy : x ≤ y := by
      rcases List.mem_cons.mp (h.symm.subset List.mem_cons_self) with e | e
      · omega
      · exact ha.1 y e
    have e : x = y := by omega
    subst e
    rw [sorted_perm (List.Perm.cons_inv h) ha.2 hb.2]
def rSortedDI : List V → Hp → VK → Prop := fun xs H Q => ∃ (a : Addr) (kvs : List (Key × V)) (ks : List Int), xs = [.ref a] ∧ Rd H a (.dK kvs) ∧ kvs.map (·.1) = ks.map Sum.inl ∧ ks.length < 64 ∧
    ∀ (ys : List Int) (p : Addr), ys.Perm ks → ys.Pairwise (· ≤ ·) → H p = none → Q (.ref p) (upd H p (.lst (ys.map V.int)))
theorem cr_sortedDI {X : Cx} (hcalm : X.calm = true) : CallR X (.builtin "sorted") rSortedDI := call_sortedDI hcalm
theorem p_sortedDI {Mx : Addr → Prop} {r : List (Int × β)} {ns : List Int} (h : EvN Mx te σ H (.d (r.map fun p => .inl p.1)) (r.map fun p => f p.2)) (hn : r.length < 64) (hp : ns.Perm (r.map (·.1))) (hs : ns.Pairwise (· ≤ ·)) : EvP M (tCB rSortedDI (tCons te tNil)) σ H (uL uI ns) (.ow .sh) := fun H1 e Q q =>
  h H1 e _ fun v H2 e2 ⟨x, vs, ev, ho, hr⟩ => ⟨x, _, r.map (·.1), by rw [ev], .inl ho.1, by
    rw [show (List.zip (r.map fun p => (Sum.inl p.1 : Key)) vs).map (·.1) = r.map fun p => (Sum.inl p.1 : Key) from List.map_fst_zip (by rw [hr.len]; simp), List.map_map]
    rfl, by rw [List.length_map]; exact hn, fun ys b h1 h2 hb => by
    have e3 : ys = ns := sorted_perm (h1.trans hp.symm) h2 hs
    subst e3
    exact q _ [b] _ (e2.trans (Ex.new hb)) (by simp) (by simpa using fresh_back e2 hb) (ow_mu.mpr ⟨b, ys.map V.int, rfl, upd_same, rfl, rpL_sc.mpr rfl⟩)⟩
end
end Ho

/-! parts given up to be shared -/
namespace Ho
open PySem PySem.Spec PyProof.Rows L2 Evl
/-- d owned as p tells is owned as p' tells, the rest shared -/
def Wk (d : Dt) (p p' : Pat) : Prop := ∀ M H v bs, Ow M H d p v bs → ∃ bs', bs'.Sublist bs ∧ ∀ M' : Addr → Prop, (∀ a, ¬ M a → ¬ M' a) → (∀ a ∈ bs, a ∉ bs' → ¬ M' a) → bs.Nodup → Ow M' H d p' v bs'
theorem wk_refl {d : Dt} {p : Pat} : Wk d p p := fun M H v bs w => ⟨bs, List.Sublist.refl _, fun M' g _ _ => w.go (fun a o n e => ⟨e, g a n⟩) fun _ _ _ h => h⟩
theorem wk_mu {s : Sh} {ds : List Dt} {p : Pat} : Wk (.node s ds) (.ow p) (.ow .sh) := fun M H v bs w => by
  unfold Ow at w
  obtain ⟨a, vs, cs, rfl, ho, rfl, f⟩ := w
  refine ⟨[a], List.Sublist.cons₂ _ (List.nil_sublist _), fun M' g h nd => ow_mu.mpr ⟨a, vs, rfl, ho, rfl, f.fr g fun b hb => h b (List.mem_cons_of_mem _ hb) fun z => ?_⟩⟩
  rw [List.mem_singleton.mp z] at hb
  exact (List.nodup_cons.mp nd).1 hb
theorem wk_f1 {s : Sh} {d : Dt} {p p' : Pat} (k : Wk d p p') : Wk (.node s [d]) (.fs [p]) (.fs [p']) := fun M H v bs w => by
  unfold Ow at w
  obtain ⟨a, vs, cs, rfl, ho, rfl, f⟩ := w
  unfold OwF at f
  obtain ⟨p0, pr, v0, r, b, c, e1, rfl, rfl, f1, f2⟩ := f
  cases e1
  unfold OwF at f2
  obtain ⟨-, rfl, rfl⟩ := f2
  obtain ⟨b', hs, hk⟩ := k M H v0 b f1
  rw [List.append_nil]
  refine ⟨a :: b', hs.cons₂ _, fun M' g h nd => ?_⟩
  have nc := List.nodup_cons.mp nd
  unfold Ow
  refine ⟨a, [v0], b', rfl, ho, rfl, ?_⟩
  unfold OwF
  refine ⟨p', [], v0, [], b', [], rfl, rfl, (List.append_nil _).symm, hk M' g (fun x hx hn => h x (List.mem_cons_of_mem _ hx) fun z => ?_) nc.2, by unfold OwF; exact ⟨rfl, rfl, rfl⟩⟩
  rcases List.mem_cons.mp z with rfl | z
  · exact nc.1 hx
  · exact hn z
section
variable {F : Addr → Prop} {Z : Hp → (Addr → Prop) → Prop} {ρ : List Sl} {σ : L2.St} {H : Hp} {M : Addr → Prop} {d : Dt} {p p' : Pat}
theorem Ok.part (ok : Ok F Z ρ σ H M) (i : Nat) (h : ρ[i]? = some (.own d p)) (hw : Wk d p p') : ∃ M', Ok F Z (ρ.set i (.own d p')) σ H M' := by
  obtain ⟨as, nd, own, sl⟩ := ok.sl
  obtain ⟨v, bs, cs, h1, h2, h3, h4⟩ := sl.out h
  have nd2 := List.nodup_append.mp (h4.nodup_iff.mpr nd)
  obtain ⟨bs', hs, hk⟩ := hw M H v bs h2
  have hM : ∀ a, ¬ M a → ¬ (M a ∧ (a ∈ bs → a ∈ bs')) := fun a n z => n z.1
  have w : Ow (fun a => M a ∧ (a ∈ bs → a ∈ bs')) H d p' v bs' := hk _ hM (fun a ha hn z => hn (z.2 ha)) nd2.1
  have sl' := h3.go (M' := fun a => M a ∧ (a ∈ bs → a ∈ bs')) (H' := H) (fun a o n e => ⟨e, hM a n⟩) fun _ _ _ h => h
  have hi : i < ρ.length := (List.getElem?_eq_some_iff.mp h).1
  obtain ⟨as', k1, k2⟩ := OkL.back w hi sl' h1
  have nd3 : (bs' ++ cs).Nodup := List.nodup_append.mpr ⟨hs.nodup nd2.1, nd2.2.1, fun a ha b hb => nd2.2.2 a (hs.subset ha) b hb⟩
  refine ⟨_, ⟨as', by rw [k2.nodup_iff]; exact nd3, fun a ha => ?_, k1⟩, fun a ha => ok.al a ha.1, fun a ha => ⟨ok.fr a ha, fun hb => absurd ha (own a (h4.subset (List.mem_append_left _ hb))).2⟩, ?_, ok.mz⟩
  · rcases List.mem_append.mp (k2.subset ha) with hb | hc
    · have := own a (h4.subset (List.mem_append_left _ (hs.subset hb)))
      exact ⟨⟨this.1, fun _ => hb⟩, this.2⟩
    · have := own a (h4.subset (List.mem_append_right _ hc))
      exact ⟨⟨this.1, fun hb => absurd rfl (nd2.2.2 a hb a hc)⟩, this.2⟩
  · exact ok.mz _ _ _ _ ok.z ⟨fun _ _ _ h => h, fun b hb => .inl ⟨hb.1.1, hb.2⟩⟩
end
/-! x += e, texts -/
theorem ip_addS {X : Cx} : PIp X .Add rAddS := fun pins s σ H x y u v Q I rx ry h => iop_add_str pins s σ H x y u v Q I rx ry h
theorem ps_augS {X : Cx} {i : Nat} {x : Str} {e : Expr} {te : TE} {pos pos' : Pos} (hN : X.N.Nodup) (hi : X.N[i]? = some x) (hx : Loc X.env.scope x) (he : PE X e te) (hf : X.fn x = true ∨ X.env.scope.names.lookup x = some .local := by first | exact .inl rfl | exact .inr rfl | assumption) :
    PS X (.AugAssign (.Name x pos') .Add e pos) (tAug i te rAddS) := ps_aug hN hi hx he ip_addS hf
section
variable {F : Addr → Prop} {Z : Hp → (Addr → Prop) → Prop} {ρ : List Sl} {σ : L2.St} {H : Hp} {M : Addr → Prop} {i : Nat} {te : TE} {a b : Row} {D : Ends} {tz : TS}
theorem c_augS (ok : Ok F Z ρ σ H M) (hi : ρ[i]? = some (st (uS a))) (h : Ev te σ H (VS b)) (hz : a.length + b.length ≤ 100000) (k : ∀ M' σ' H', Ok F Z (ρ.set i (st (uS (a ++ b)))) σ' H' M' → D.nx σ' H') : tAug i te rAddS D σ H := by
  obtain ⟨u, bs, h1, h2⟩ := ok.get hi
  unfold Ow at h2
  rw [h2.2.1] at h1
  exact ⟨_, h1, h H (Ex.refl _) _ fun H1 e1 => ⟨S a, S b, rfl, rfl, by rw [S_len, S_len]; exact sz_of hz, by rw [S_add]; exact k _ _ _ (ok.setR e1 (by unfold Rp; rfl))⟩⟩
theorem b_augS (ok : Ok F Z ρ σ H M) (hi : ρ[i]? = some (st (uS a))) (h : Ev te σ H (VS b)) (hz : a.length + b.length ≤ 100000) (k : ∀ M' σ' H', Ok F Z (ρ.set i (st (uS (a ++ b)))) σ' H' M' → tz D σ' H') : tSeq (tAug i te rAddS) tz D σ H := c_augS (D := { D with nx := tz D }) ok hi h hz k
end
end Ho

/-! sets of numbers and texts that come from lists; sorted lists of data -/
namespace Ho
open PySem PySem.Spec PyProof.Rows L2 Evl
/-! ### sets of keys -/
def kyV : Value → Key
  | .int k _ => .inl k
  | .str x _ => .inr x
  | _ => .inl 0
theorem kyV_of {k : Key} {v : Value} (h : keyIs k v = true) : kyV v = k := by
  rcases keyIs_shape h with ⟨i, t, rfl, rfl⟩ | ⟨x, t, rfl, rfl⟩
  · rfl
  · rfl
theorem keyScan {k : Key} {v : Value} (h : keyIs k v = true) : v.scannable = true := by
  rcases keyIs_shape h with ⟨i, t, rfl, rfl⟩ | ⟨x, t, rfl, rfl⟩
  · rfl
  · rfl
/-- entries and table of a set whose keys are L -/
structure KD (w : World) (es : Array (Int × Value)) (t : SetTable) (L : List Key) : Prop where
  el : ∀ e ∈ es.toList, keyIs (kyV e.2) e.2 = true ∧ e.1 = keyH w (kyV e.2)
  pm : (es.toList.map fun e => kyV e.2).Perm L
  nd : L.Nodup
  sm : es.size < scanBound
  ft : t.fits es.size = true
  ri : Ris t.place.toList
  ld : w.params.followText "set-order" = true ∨ t.led = true
def KSt (w : World) (h : Heap) (a : Addr) (L : List Key) : Prop := ∃ o es ep t, h.get? a = some o ∧ o.ExactSet ∧ o.data = .set es ep t ∧ KD w es t L
def insK (L : List Key) (k : Key) : List Key := if (L.any fun x => decide (x = k)) = true then L else L ++ [k]
theorem any_key {L : List Key} {k : Key} : (L.any fun x => decide (x = k)) = true ↔ k ∈ L := by
  rw [List.any_eq_true]
  constructor
  · rintro ⟨x, hx, e⟩
    rw [← of_decide_eq_true e]
    exact hx
  · intro h
    exact ⟨k, h, decide_eq_true rfl⟩
theorem insK_in {L : List Key} {k : Key} (h : k ∈ L) : insK L k = L := if_pos (any_key.mpr h)
theorem insK_ni {L : List Key} {k : Key} (h : k ∉ L) : insK L k = L ++ [k] := if_neg fun z => h (any_key.mp z)
def dedK (ks : List Key) : List Key := ks.foldl insK []
section
variable {P : Program} {w : World} {A : Around} {E : Value → Shared → Prop} {s : Shared} {a : Addr} {L : List Key} {h h' : Heap} {es es1 : Array (Int × Value)} {t t1 : SetTable} {k : Key} {x : Value}
theorem KD.elems (d : KD w es t L) : ElemsOf (mixKind P w) es.toList := fun e he => ⟨⟨kyV e.2, (d.el e he).1, (d.el e he).2⟩, keyScan (d.el e he).1⟩
theorem KD.re (d : KD w es t L) (p : es1.toList.Perm es.toList) (f : t1.fits es1.size = true) (r : Ris t1.place.toList) (l : t1.led = t.led) : KD w es1 t1 L := by
  have z : es1.size = es.size := by rw [← Array.length_toList, p.length_eq, Array.length_toList]
  exact ⟨fun e he => d.el e (p.subset he), (p.map _).trans d.pm, d.nd, by rw [z]; exact d.sm, f, r, d.ld.imp id fun q => by rw [l]; exact q⟩
theorem KD.push (d : KD w es t L) (hk : keyIs k x = true) (nk : k ∉ L) (p : es1.toList.Perm (es.toList ++ [(keyH w k, x)])) (sm : es1.size < scanBound) (f : t1.fits es1.size = true) (r : Ris t1.place.toList) (l : t1.led = t.led) : KD w es1 t1 (L ++ [k]) := by
  refine ⟨fun e he => ?_, ?_, ?_, sm, f, r, d.ld.imp id fun q => by rw [l]; exact q⟩
  · rcases List.mem_append.mp (p.subset he) with z | z
    · exact d.el e z
    · rw [List.mem_singleton.mp z]
      show keyIs (kyV x) x = true ∧ keyH w k = keyH w (kyV x)
      rw [kyV_of hk]
      exact ⟨hk, rfl⟩
  · refine (p.map _).trans ?_
    rw [List.map_append]
    show List.Perm (_ ++ [kyV x]) _
    rw [kyV_of hk]
    exact d.pm.append_right _
  · rw [List.nodup_append]
    exact ⟨d.nd, by simp, fun u hu v hv z => nk (by rw [← List.mem_singleton.mp hv, ← z]; exact hu)⟩
theorem KSt.at (R : KSt w h a L) (kp : ∀ o, h.get? a = some o → h'.get? a = some o) : KSt w h' a L := by
  obtain ⟨o, es, ep, t, ho, r⟩ := R
  exact ⟨o, es, ep, t, kp o ho, r⟩
theorem ks_tail {g : Bool → Sem Unit} (hg : ∀ (b : Bool) (s₁ : Shared) (Q' : Unit → Shared → Prop), Q' () s₁ → wpAny (model P w) A (g b) Q' E s₁) {o : Obj} {ep : Nat} {t0 : SetTable} (ho : s.heap.get? a = some o) (hex : o.ExactSet) (hd : o.data = .set es ep t0)
    (d : KD w es1 t1 L) {dm : Bool} {R : Option Bool → Shared → Prop} (hR : ∀ h', Heap.SameBut a s.heap h' → KSt w h' a L → R (some true) { s with heap := h' }) :
    wpAny (model P w) A (do
        storeSet a es1 t1
        if (!dm && t1.tooFull) = true then do
            g (relayAll t1 es1 (SetTable.grown es1.size)).2.2
            storeSet a (relayAll t1 es1 (SetTable.grown es1.size)).1 (relayAll t1 es1 (SetTable.grown es1.size)).2.1
            pure (some true)
          else pure (some true)) R E s := by
  refine wpAny_bind (wpAny_storeSet_of ho hd ?_ (fits_of_scanBound d.sm))
  have o1 := store_at (es' := es1) (t' := t1) ho hd
  have b1 := Heap.SameBut.update s.heap a (Obj.putSet es1 t1)
  split
  · have q1 := relayAll_perm t1 es1 (SetTable.grown es1.size)
    have q2 := relayAll_fits t1 es1 (SetTable.grown es1.size)
    have q3 := relayAll_ris t1 es1 (SetTable.grown es1.size)
    have q4 := relayAll_led t1 es1 (SetTable.grown es1.size)
    generalize relayAll t1 es1 (SetTable.grown es1.size) = Y at q1 q2 q3 q4 ⊢
    obtain ⟨es2, t2, gv⟩ := Y
    dsimp only at q1 q2 q3 q4 ⊢
    have d2 : KD w es2 t2 L := d.re q1 q2 q3 q4
    refine wpAny_bind (hg _ _ _ (wpAny_bind (wpAny_storeSet_of o1 rfl ?_ (fits_of_scanBound d2.sm))))
    exact wpAny_pure (hR _ (b1.trans (Heap.SameBut.update _ a _)) ⟨_, es2, _, t2, store_at (es' := es2) (t' := t2) o1 rfl, hex, rfl, d2⟩)
  · exact wpAny_pure (hR _ b1 ⟨_, es1, _, t1, o1, hex, rfl, d⟩)
theorem ks_add {Q : Bool → Shared → Prop} (hk : keyIs k x = true) (R : KSt w s.heap a L) (room : L.length + 1 < scanBound) (hQ : ∀ h' b, Heap.SameBut a s.heap h' → KSt w h' a (insK L k) → Q b { s with heap := h' }) :
    wpAny (model P w) A (setAddHashed a x ((mixKind P w).hash k)) Q E s := by
  obtain ⟨o, es, ep, t, ho, hex, hd, d⟩ := R
  have hL : es.size = L.length := by rw [← d.pm.length_eq, List.length_map, Array.length_toList]
  have els : ElemsOf (mixKind P w) es.toList := d.elems
  have hmem : ∀ e ∈ es.toList, ((mixKind P w).is k e.2 = true ↔ kyV e.2 = k) := fun e he => by
    constructor
    · intro z; exact kyV_of z
    · intro z; rw [← z]; exact (d.el e he).1
  unfold setAddHashed setAddHashedIn
  refine wpAny_holding (wpAny_bind (wpAny_setState_of ho hd d.ft ?_))
  dsimp only
  rw [byScan_of (keyScan hk) d.sm els]
  simp only [↓reduceIte]
  unfold setAddByScan
  refine wpAny_bind (wpAny_bind (wpAny_rule (wpAny_bind (wpAny_setScan_of (show (mixKind P w).is k x = true from hk) ho hd d.ft els ?_))))
  cases hf : List.findIdx? (fun e => (mixKind P w).is k e.2) es.toList with
  | some j =>
    dsimp only
    obtain ⟨hj, pj, _⟩ := List.findIdx?_eq_some_iff_getElem.mp hf
    have hin : k ∈ L := d.pm.subset (List.mem_map.mpr ⟨es.toList[j], List.getElem_mem hj, (hmem _ (List.getElem_mem hj)).mp pj⟩)
    refine wpAny_pure (wpAny_pure (hQ s.heap false (Heap.SameBut.refl a s.heap) ⟨o, es, ep, t, ho, hex, hd, ?_⟩))
    rw [insK_in hin]
    exact d
  | none =>
    dsimp only
    have nk : k ∉ L := fun z => by
      obtain ⟨e, he, q⟩ := List.mem_map.mp (d.pm.symm.subset z)
      have c := List.findIdx?_eq_none_iff.mp hf e he
      rw [(hmem e he).mpr q] at c
      cases c
    have gv : ∀ (b : Bool) {s₁ : Shared} {Q' : Unit → Shared → Prop}, Q' () s₁ → wpAny (model P w) A (match b with | true => rule "set.scan.the-table-gave-way" | false => pure ()) Q' E s₁ := fun b s₁ Q' q => by
      cases b
      · exact wpAny_pure q
      · exact wpAny_rule q
    have q1 := layNew_perm t es ((mixKind P w).hash k) x
    have q2 := layNew_fits t es ((mixKind P w).hash k) x
    have q3 := layNew_ris t es ((mixKind P w).hash k) x d.ri
    have q4 := layNew_led t es ((mixKind P w).hash k) x
    generalize layNew t es ((mixKind P w).hash k) x = Y at q1 q2 q3 q4 ⊢
    obtain ⟨es1, t1, dm, gave⟩ := Y
    dsimp only at q1 q2 q3 q4 ⊢
    rw [Array.toList_push] at q1
    have sm1 : es1.size < scanBound := by
      have := q1.length_eq
      rw [List.length_append, Array.length_toList, Array.length_toList, List.length_singleton] at this
      omega
    rw [insK_ni nk] at hQ
    refine wpAny_bind (gv _ ?_)
    split
    · refine wpAny_bind ?_
      rw [hashByValue_scannable 8 (keyScan hk)]
      refine wpAny_pure ?_
      refine ks_tail (L := L ++ [k]) ?_ ho hex hd ?_ fun h' sb r => ?_
      · intro b s₁ Q' q
        cases b
        · first | exact wpAny_pure q | exact wpAny_rule q
        · first | exact wpAny_pure q | exact wpAny_rule q
      · refine d.push hk nk q1 sm1 ?_ ?_ ?_
        · split
          · exact q2
          · exact SetTable.fits_plain_off q2
        · split
          · exact q3
          · exact q3
        · split
          · exact q4
          · exact q4
      · dsimp only
        exact wpAny_pure (hQ h' true sb r)
    · refine wpAny_bind (wpAny_pure ?_)
      simp only [↓reduceIte]
      refine ks_tail (L := L ++ [k]) ?_ ho hex hd (d.push hk nk q1 sm1 q2 q3 q4) fun h' sb r => ?_
      · intro b s₁ Q' q
        cases b
        · first | exact wpAny_pure q | exact wpAny_rule q
        · first | exact wpAny_pure q | exact wpAny_rule q
      · dsimp only
        exact wpAny_pure (hQ h' true sb r)
theorem insK_len (L : List Key) (k : Key) : (insK L k).length ≤ L.length + 1 := by
  unfold insK
  split <;> simp
theorem dedK_len : ∀ (ks L : List Key), (ks.foldl insK L).length ≤ L.length + ks.length
  | [], L => Nat.le_refl _
  | k :: ks, L => by
    rw [List.foldl_cons, List.length_cons]
    have h1 := dedK_len ks (insK L k)
    have h2 := insK_len L k
    omega
/-- the loop of set(..) -/
theorem ks_loop {I : Addr} {fp wr : List Addr} {G : Array GenState → Array GenState → Prop} {n : Nat} {Pv : Nat → Value → Prop} {St : Nat → Shared → Prop} {R : Result → Shared → Prop}
    (W : WalksS P w A.in1 I fp wr G n Pv St) (S : Addr) (hS : S ∉ fp) (ks : List Key) (hn : n = ks.length) (hb : ks.length + 1 < scanBound) (hv : ∀ i v, Pv i v → ∃ k, ks[i]? = some k ∧ keyIs k v = true) :
    ∀ (m i : Nat) (s : Shared), n - i = m → i ≤ n → St i s → KSt w s.heap S (dedK (ks.take i)) → (∀ s', Moved (S :: wr) G s s' → KSt w s'.heap S (dedK ks) → R (.ok (.ret .none)) s') →
      codeAny (model P w) A (.builtin "set.update.loop" ⟨[.ref S, .ref I], []⟩) R s := by
  have hw : S ∉ wr := fun z => hS (W.sub _ z)
  have hs : ∀ b ∈ wr, b ∈ S :: wr := fun b hb => List.mem_cons_of_mem _ hb
  intro m
  induction m with
  | zero =>
    intro i s hm hi hst hK hR
    have e : i = n := by omega
    subst e
    refine codeAny_builtin F.entry_set_update_loop ?_
    rw [Around.under_plainId F.plain_set_update_loop _]
    show wpAny _ A.in1 (pyNext (.ref I) >>= fun _ => _) _ _ s
    refine wpAny_bind (W.done s _ _ hst fun s' mv => ?_)
    rw [List.take_of_length_le (by omega)] at hK
    exact wpAny_pure (hR s' (mv.mono hs) (hK.at fun o e => mv.heap S o hw e))
  | succ m ih =>
    intro i s hm hi hst hK hR
    have hlt : i < n := by omega
    refine codeAny_builtin F.entry_set_update_loop ?_
    rw [Around.under_plainId F.plain_set_update_loop _]
    show wpAny _ A.in1 (pyNext (.ref I) >>= fun _ => _) _ _ s
    refine wpAny_bind (W.item i s _ _ hlt hst fun v s' hP hst' mv => ?_)
    obtain ⟨k, hk, kv⟩ := hv i v hP
    have hK' : KSt w s'.heap S (dedK (ks.take i)) := hK.at fun o e => mv.heap S o hw e
    show wpAny _ A.in1 (holding [v] (setAdd S v) >>= fun _ => _) _ _ s'
    refine wpAny_bind (wpAny_holding ?_)
    unfold setAdd
    refine wpAny_holding (wpAny_bind ((mixKind P w).pyHash (k := k) kv ?_))
    have hl := dedK_len (ks.take i) []
    rw [List.length_take, List.length_nil] at hl
    refine ks_add (s := { s' with toks := s'.toks + 1 }) kv hK' (by unfold dedK; omega) fun h' b sb r => ?_
    have e2 : insK (dedK (ks.take i)) k = dedK (ks.take (i + 1)) := by
      unfold dedK
      rw [List.take_add_one, hk, List.foldl_append]
      rfl
    rw [e2] at r
    refine wpAny_pure ⟨plainId_quiet F.plain_set_update_loop _, ih (i + 1) _ (by omega) hlt (W.frame _ s' _ _ hst' (Nat.le_succ _) fun b hb o e => ?_) r fun s'' mv2 r2 => ?_⟩
    · rw [sb.2 b (fun z : b = S => hS (by rw [← z]; exact hb))]
      exact e
    · refine hR s'' (Moved.trans W.gtrans ((mv.mono hs).then_heap (Nat.le_succ _) fun b o hb e => ?_) mv2) r2
      rw [sb.2 b (fun z : b = S => hb (by rw [z]; exact List.mem_cons_self))]
      exact e
end
section
variable {P : Program} {w : World} {A : Around} {E : Value → Shared → Prop} {s : Shared}
/-- a set without keys -/
def ob0 (w : World) : Obj := { cls := .type "set", dict := none, data := .set #[] 0 (.fresh 0 0 (!w.params.followText "set-order")) }
theorem kst0 {w : World} {h : Heap} {a : Addr} (e : h.get? a = some (ob0 w)) : KSt w h a [] := by
  refine ⟨_, #[], 0, _, e, ⟨rfl, rfl, rfl⟩, rfl, fun e he => by simp at he, List.Perm.refl _, List.nodup_nil, by decide, by rfl, List.Pairwise.nil, ?_⟩
  show _ ∨ (!w.params.followText "set-order") = true
  cases w.params.followText "set-order"
  · exact .inr rfl
  · exact .inl rfl
theorem ks_of_list {l : Addr} {items : Array Value} (ks : List Key) {Q : Value → Shared → Prop} (hh : A.handled = none) (hl : s.heap.IsList l items) (hk : ∀ (i : Nat) (v : Value), items[i]? = some v → ∃ k, ks[i]? = some k ∧ keyIs k v = true) (hz : items.size = ks.length) (hb : ks.length + 1 < scanBound)
    (h : ∀ (h' : Heap) (tk : Nat), KSt w h' s.heap.objs.size (dedK ks) → (∀ b o, s.heap.get? b = some o → h'.get? b = some o) → Q (.ref s.heap.objs.size) { s with heap := h', toks := tk }) :
    wpAny (model P w) A (call (.type "set") [.ref l]) Q E s := by
  obtain ⟨c, tl, hmro⟩ := F.called_set.mro
  have made := F.called_set.made
  have sub := F.called_set.sub
  refine wpAny_call (codeAny_of_tree ?_)
  show wpAny _ _ (callAny (.type "set") ⟨[.ref l], []⟩) _ _ s
  refine wpAny_pure ⟨Code.quiet_builtin ⟨[.type "set", .ref l], []⟩ (by decide +kernel), codeAny_builtin F.entry_type_call ?_⟩
  rw [Around.under_plain (weight_type_call_type "set" [.ref l] []) rfl]
  have nt := F.called_set.notType
  have cc := F.called_set.canCreate
  have tc := F.typeCall_set_1 (.ref l)
  repeat any_goals first | wp_step | assumption
  refine codeAny_mono (code_set_led1 (.ref l) (E := E) (Q₁ := fun ob s₁ => ob = .ref s.heap.objs.size ∧ s₁ = { s with heap := s.heap.push (ob0 w) }) ⟨rfl, rfl⟩) fun r s₁ hr => ?_
  cases r with
  | error e => exact hr
  | ok fl =>
    cases fl with
    | ret ob =>
      obtain ⟨rfl, rfl⟩ := hr
      have hS : (s.heap.push (ob0 w)).get? s.heap.objs.size = some (ob0 w) := Heap.get?_push_size _ rfl
      have hT : Shared.TypeIs { s with heap := s.heap.push (ob0 w) } (.ref s.heap.objs.size) "set" := ⟨_, hS, rfl⟩
      have li := F.called_set.init.lookup
      have bi := F.called_set.init.bind (.ref s.heap.objs.size)
      repeat any_goals first | wp_step | assumption
      refine codeAny_mono (codeAny_call_builtin (R := wants (fun r s₂ => r = .none ∧ ∃ h' tk, s₂ = { s with heap := h', toks := tk } ∧ KSt w h' s.heap.objs.size (dedK ks) ∧ (∀ b o, s.heap.get? b = some o → h'.get? b = some o)) E)
        F.called_set.init.plain F.entry_set_init (check_set_init_1 hT ?_)) fun r₂ s₂ hr₂ => ?_
      · obtain ⟨ol, hol, hcl, nl, hdl⟩ := hl
        obtain ⟨ocls, odict, odata, oslots⟩ := ol
        simp only at hcl hdl
        subst hcl
        subst hdl
        have hol1 : (s.heap.push (ob0 w)).get? l = some { cls := .type "list", dict := odict, data := .seq items nl, slots := oslots } := Heap.get?_push_of_some _ hol
        have s1 := F.sub_list_set
        have s2 := F.sub_list_frozenset
        have s3 : (Value.type "list" == Value.type "dict") = false := by decide
        have hl1 : (s.heap.push (ob0 w)).IsList l items := ⟨_, hol1, rfl, nl, rfl⟩
        unfold Builtin.«set.__init__» noKeywords Builtin.Frozenset.updateFrom
        generalize hPI : pyIter = PI
        wp_walk
        subst hPI
        refine wpAny_pyIter_list hl1 ?_
        refine wpAny_bind (wpAny_runValue ?_)
        have hlS : l < s.heap.objs.size := Heap.lt_size hol
        have h3 : A.in1.in1.in1.handled = none := by simp [hh]
        have zI : (s.heap.push (ob0 w)).objs.size = s.heap.objs.size + 1 := Heap.size_push ..
        have nI : l ≠ (s.heap.push (ob0 w)).objs.size := by rw [zI]; exact Nat.ne_of_lt (Nat.lt_succ_of_lt hlS)
        have hSf : s.heap.objs.size ∉ [(s.heap.push (ob0 w)).objs.size, l] := by
          rw [zI]
          intro z
          rcases List.mem_cons.mp z with z | z
          · exact absurd z (Nat.ne_of_lt (Nat.lt_succ_self _))
          · exact absurd (List.mem_singleton.mp z) (Nat.ne_of_gt hlS)
        refine ks_loop ((Walks.list h3 _ l nI items).toS) s.heap.objs.size hSf ks hz hb hk (items.size - 0) 0 _ (by omega) (Nat.zero_le _) ⟨⟨_, Heap.get?_push_size _ rfl, rfl, rfl⟩, (hl1.push _)⟩ ?hS0 ?hR
        case hS0 => exact kst0 (Heap.get?_push_of_some _ hS)
        case hR =>
          intro s' mv hS'
          obtain ⟨h', g2, d', tk', os'⟩ := s'
          have eg : g2 = s.gens := mv.gens
          have ed : d' = s.drawn := mv.drawn
          have eo : os' = s.os := mv.os
          subst eg ed eo
          show wpAny _ _ _ _ _ _
          refine wpAny_pure ?_
          show wpAny _ _ (ret Value.none) _ _ _
          refine wpAny_pure ⟨rfl, h', tk', rfl, hS', fun b o e => ?_⟩
          have hb0 : b < s.heap.objs.size := Heap.lt_size e
          refine mv.heap b o (fun z => ?_) (Heap.get?_push_of_some _ (Heap.get?_push_of_some _ e))
          rcases List.mem_cons.mp z with z | z
          · exact absurd z (Nat.ne_of_lt hb0)
          · have := List.mem_singleton.mp z
            rw [zI] at this
            exact absurd this (Nat.ne_of_lt (Nat.lt_succ_of_lt hb0))
      · cases r₂ with
        | error e => exact hr₂
        | ok fl₂ =>
          cases fl₂ with
          | ret r =>
            obtain ⟨rfl, h', tk, rfl, hS', hk'⟩ := hr₂
            repeat any_goals first | wp_step | assumption
            exact h _ _ hS' hk'
          | _ => exact hr₂.elim
    | _ => exact hr.elim
end
/-! sorted(set) -/
def encK : Key → PyData
  | .inl i => .int i
  | .inr x => .str x
theorem encK_reads {h : Heap} {a : Addr} {k : Key} {v : Value} (hk : keyIs k v = true) : ∃ as, Reads h v (encK k) as ∧ a ∉ as := by
  rcases keyIs_shape hk with ⟨i, t, rfl, rfl⟩ | ⟨x, t, rfl, rfl⟩
  · exact ⟨[], .int _ _, by simp⟩
  · exact ⟨[], .str _ _, by simp⟩
theorem encK_depth (k : Key) : (encK k).depth = 0 := by
  cases k <;> simp [encK, PyData.depth]
theorem encK_sortable (L : List Key) : PySem.W.Sortable (L.map encK) := .others fun k => by
  cases k <;> simp [encK]
theorem alikeI (ns : List Int) : PySem.W.AllAlike ((ns.map Sum.inl : List Key).map encK) := by
  intro d hd d' hd'
  simp only [List.map_map, List.mem_map] at hd hd'
  obtain ⟨i, _, rfl⟩ := hd
  obtain ⟨j, _, rfl⟩ := hd'
  simp [encK, PySem.W.alike]
theorem alikeS (xs : List Row) : PySem.W.AllAlike ((xs.map fun r => (Sum.inr (S r) : Key)).map encK) := by
  intro d hd d' hd'
  simp only [List.map_map, List.mem_map] at hd hd'
  obtain ⟨i, _, rfl⟩ := hd
  obtain ⟨j, _, rfl⟩ := hd'
  simp [encK, PySem.W.alike]
theorem alike_perm {L L' : List Key} (p : L'.Perm L) (h : PySem.W.AllAlike (L.map encK)) : PySem.W.AllAlike (L'.map encK) := fun d hd d' hd' => h d ((p.map encK).subset hd) d' ((p.map encK).subset hd')
theorem each_ky : ∀ {vs : List Value}, (∀ v ∈ vs, keyIs (kyV v) v = true) → PySem.W.EachIs (fun v k => keyIs k v = true) vs (vs.map kyV)
  | [], _ => .nil
  | v :: vs, h => .cons (h v List.mem_cons_self) (each_ky fun u hu => h u (List.mem_cons_of_mem _ hu))
section
variable {P : Program} {w : World} {A : Around} {E : Value → Shared → Prop} {s : Shared} {a : Addr} {L : List Key}
theorem ks_sorted {Q : Value → Shared → Prop} (R : KSt w s.heap a L) (hh : A.handled = none) (hal : PySem.W.AllAlike (L.map encK)) (hz : L.length ≤ 1000) (hu : A.units + 64 < cLine)
    (hQ : ∀ s' p (out : Array Value) (c : Nat) (L' : List Key), (∀ b o, s.heap.get? b = some o → s'.heap.get? b = some o) → s'.gens = s.gens → s'.os = s.os → s.heap.objs.size ≤ p → s'.heap.get? p = some (seqObj "list" out c) →
      PySem.W.EachIs (fun v k => keyIs k v = true) out.toList L' → L'.Perm L → L'.Pairwise (fun x y => PySem.W.dataLe false encK x y = true) → Q (.ref p) s') :
    wpAny (model P w) A (call (.builtin "sorted") [.ref a]) Q E s := by
  obtain ⟨o, es, ep, t, ho, hex, hd, d⟩ := R
  refine Calls.call_function_entry kind_sorted plain_sorted entry_sorted (args_sorted1 _) ?_
  unfold Builtin.«sorted»
  refine wpAny_bind (m := checkCount "sorted" 1 1 _) (wpAny_pure ?_)
  refine wpAny_bind (collect_set (A := A.in1) hh ⟨o, ho, hex.1, hd⟩ d.ft d.sm d.ri d.ld fun s1 vs k1 z1 g1 o1 pm => ?_)
  have hall : ∀ v ∈ vs, keyIs (kyV v) v = true := fun v hv => by
    obtain ⟨e, he, q⟩ := List.mem_map.mp (pm.subset hv)
    rw [← q]
    exact (d.el e he).1
  have pk : (vs.map kyV).Perm L := by
    have q := pm.map kyV
    rw [List.map_map] at q
    exact q.trans d.pm
  have hvl : vs.length = L.length := by rw [← pk.length_eq, List.length_map]
  have ev := each_ky hall
  refine wpAny_bind (wpAny_newList ?_ (by rw [hvl, sizeLine_eq]; omega))
  have hoL : (s1.heap.push (seqObj "list" vs.toArray 0)).get? s1.heap.objs.size = some (seqObj "list" vs.toArray 0) := Heap.get?_push_size _ rfl
  refine wpAny_bind (wpAny_holding (PySem.W.list_sort_data (s := { s1 with heap := s1.heap.push (seqObj "list" vs.toArray 0) }) (enc := encK) hoL ev (ev.mono fun v k hk => encK_reads hk) (alike_perm pk hal) (encK_sortable _) ?_ (fun k _ => ?_) fun out ol ee => ?_))
  · rw [List.length_map, hvl, sizeLine_eq]
    omega
  · rw [encK_depth]
    show A.units + 1 + 1 + 0 < cLine
    omega
  · obtain ⟨c, hc⟩ := sortedHeap_at (vs := vs) (out := out.toArray) hoL
    refine wpAny_pure ⟨_, rfl, hQ _ s1.heap.objs.size out.toArray c ((vs.map kyV).mergeSort (PySem.W.dataLe false encK)) (fun b u e => ?_) g1 o1 z1 hc ee ((List.mergeSort_perm _ _).trans pk) (PySem.W.sort_pairwise (le := PySem.W.dataLe false encK) (PySem.W.sortLe_total _ _ _) _)⟩
    have q := k1 b u e
    have hlt := Heap.lt_size q
    show (sortedHeap (s1.heap.push (seqObj "list" vs.toArray 0)) s1.heap.objs.size vs out.toArray).get? b = some u
    rw [sortedHeap_old (Nat.ne_of_lt hlt) (by rw [size_push']; exact Nat.lt_succ_of_lt hlt)]
    exact Heap.get?_push_of_some _ q
end
/-! the same over the walk -/
def KSO (w : World) (a : Addr) (L : List Key) : HO := .ext fun h => KSt w h a L
theorem kso_new {w : World} {P : Program} {H : Hp} {h : Heap} {a : Addr} {L : List Key} (R : KSt w h a L) : ObjOk P w H h a (KSO w a L) := by
  have ⟨o, _, _, _, ho, _⟩ := R
  exact ⟨R, ⟨o, ho⟩, fun h1 h2 p k => KSt.at p k⟩
section
variable {X : Cx} {K : PySem.W.Frag}
def rSetQ (K : PySem.W.Frag) (w : World) : List V → Hp → VK → Prop := fun vs H Q => ∃ (l : Addr) (ks : List Key), vs = [.ref l] ∧ SqL K H l (ks.map kV) ∧ ks.length ≤ 1000 ∧ ∀ p, H p = none → Q (.ref p) (upd H p (KSO w p (dedK ks)))
def rSortKI (w : World) : List V → Hp → VK → Prop := fun vs H Q => ∃ (a : Addr) (L : List Int), vs = [.ref a] ∧ H a = some (KSO w a (L.map Sum.inl)) ∧ L.length ≤ 1000 ∧ ∀ (ns : List Int) p, ns.Perm L → ns.Pairwise (· ≤ ·) → H p = none → Q (.ref p) (upd H p (.lst (ns.map V.int)))
def rSortKS (w : World) : List V → Hp → VK → Prop := fun vs H Q => ∃ (a : Addr) (L : List Row), vs = [.ref a] ∧ H a = some (KSO w a (L.map fun r => Sum.inr (S r))) ∧ L.length ≤ 1000 ∧ ∀ (ns : List Row) p, ns.Perm L → rising ns → H p = none → Q (.ref p) (upd H p (.lst (ns.map VS)))
def rLenK (w : World) : List V → Hp → VK → Prop := fun vs H Q => ∃ (a : Addr) (L : List Key), vs = [.ref a] ∧ H a = some (KSO w a L) ∧ Q (.int (L.length : Nat)) H
theorem key_relV {k : Key} {u : Value} (h : keyIs k u = true) : RelV (kV k) u := by
  rcases keyIs_shape h with ⟨i, t, rfl, rfl⟩ | ⟨x, t, rfl, rfl⟩
  · exact ⟨t, rfl⟩
  · exact ⟨t, rfl⟩
theorem vals_keys : ∀ {us : List Value} {L : List Key}, PySem.W.EachIs (fun v k => keyIs k v = true) us L → Vals (L.map kV) us
  | _, _, .nil => .nil
  | _, _, .cons h t => .cons (key_relV h) (vals_keys t)
theorem keys_vals : ∀ {us : List Value} {L : List Key}, Vals (L.map kV) us → ∀ (i : Nat) (v : Value), us[i]? = some v → ∃ k, L[i]? = some k ∧ keyIs k v = true
  | _, [], .nil, i, v, e => by simp at e
  | _, k :: L, .cons r t, 0, v, e => by
    simp at e
    subst e
    refine ⟨k, rfl, ?_⟩
    cases k with
    | inl i => obtain ⟨tk, rfl⟩ := r; exact keyIs_int i tk
    | inr x => obtain ⟨tk, rfl⟩ := r; exact keyIs_str x tk
  | _, k :: L, .cons r t, i + 1, v, e => by simpa using keys_vals t i v (by simpa using e)
theorem cr_setL {w : World} (hc : X.calm = true) (hK : X.K = K := by rfl) (hw : X.w = w := by rfl) : CallR X (.type "set") (rSetQ K w) := by
  subst hK hw
  intro pins s σ H xs us Q I r h
  obtain ⟨l, ks, rfl, hs, hz, q⟩ := h
  obtain ⟨its, rv, hl, _⟩ := I.list hs
  rw [Vals.ref1 r]
  have e := rv.length
  rw [List.length_map] at e
  refine ks_of_list ks (I.ok.hd hc) hl.isList (fun i v hv => keys_vals rv i v (by simpa using hv)) (by simp [e]) (by unfold scanBound; omega) fun h' tk R hk => ?_
  have fr : H s.heap.objs.size = none := I.hok.fresh (Nat.le_refl _)
  exact ⟨.ref s.heap.objs.size, _, I.laid hk (Nat.le_refl _) (kso_new R), rfl, q _ fr⟩
theorem kso_get {pins : List (Addr × Obj)} {σ : L2.St} {H : Hp} {s : Shared} {a : Addr} {L : List Key} (I : Inv X pins σ H s) (ha : H a = some (KSO X.w a L)) : KSt X.w s.heap a L := (I.hok a _ ha).1
end
theorem perm_map_ex {α β : Type} {f : α → β} {M' L' : List β} (p : M'.Perm L') : ∀ {L : List α}, M' = L.map f → ∃ m : List α, L' = m.map f ∧ m.Perm L := by
  induction p with
  | nil => intro L e; exact ⟨[], rfl, by rw [List.map_eq_nil_iff.mp e.symm]⟩
  | cons x _ ih =>
    intro L e
    cases L with
    | nil => cases e
    | cons a L =>
      rw [List.map_cons] at e
      obtain ⟨rfl, e2⟩ := List.cons.inj e
      obtain ⟨m, rfl, q⟩ := ih e2
      exact ⟨a :: m, rfl, q.cons a⟩
  | swap x y l =>
    intro L e
    cases L with
    | nil => cases e
    | cons a L =>
      cases L with
      | nil => cases e
      | cons b L =>
        rw [List.map_cons, List.map_cons] at e
        obtain ⟨rfl, e2⟩ := List.cons.inj e
        obtain ⟨rfl, rfl⟩ := List.cons.inj e2
        exact ⟨b :: a :: L, rfl, List.Perm.swap a b L⟩
  | trans _ _ ih1 ih2 =>
    intro L e
    obtain ⟨m, rfl, q⟩ := ih1 e
    obtain ⟨m2, rfl, q2⟩ := ih2 rfl
    exact ⟨m2, rfl, q2.trans q⟩
theorem le_keyI (x y : Int) : PySem.W.dataLe false encK (.inl x) (.inl y) = decide (x ≤ y) := congrFun (congrFun (PySem.W.dataLe_int (fun b : Int => b)) x) y
theorem le_keyS (x y : Row) : PySem.W.dataLe false encK (.inr (S x)) (.inr (S y)) = decide (x ≤ y) := congrFun (congrFun (PySem.W.dataLe_str (fun b : Row => S b)) x) y
theorem rising_of : ∀ {l : List Row}, l.Pairwise (· ≤ ·) → rising l
  | [], _ => trivial
  | a :: l, h => ⟨fun b hb => List.not_lt.mpr ((List.pairwise_cons.mp h).1 b hb), rising_of (List.pairwise_cons.mp h).2⟩
section
variable {X : Cx}
theorem sorted_put {pins : List (Addr × Obj)} {σ : L2.St} {H : Hp} {s s' : Shared} {p : Addr} {out : Array Value} {c : Nat} {L' : List Key} {Q : VK} (I : Inv X pins σ H s) (k : ∀ b o, s.heap.get? b = some o → s'.heap.get? b = some o) (g : s'.gens = s.gens) (o : s'.os = s.os) (hp : s.heap.objs.size ≤ p)
    (hg : s'.heap.get? p = some (seqObj "list" out c)) (he : PySem.W.EachIs (fun v k => keyIs k v = true) out.toList L') (hz : L'.length ≤ 1000) (q : H p = none → Q (.ref p) (upd H p (.lst (L'.map kV)))) : EP X pins σ Q (.ref p) s' := by
  have hn : H p = none := I.hok.fresh hp
  have hlen : (L'.map kV).length ≤ sizeLine := by rw [List.length_map, sizeLine_eq]; omega
  have J : Inv X pins σ (upd H p (.lst (L'.map kV))) { s with heap := s'.heap, gens := s'.gens, drawn := s'.drawn, toks := s'.toks } :=
    I.call (ch := []) (Un.laid k hp hn) (I.hok.laid k hp ⟨hlen, out.toList, c, vals_keys he, hg⟩) (by rw [g]; exact I.bare) (fun _ z => nomatch z)
  have e : s' = { s with heap := s'.heap, gens := s'.gens, drawn := s'.drawn, toks := s'.toks } := by
    cases s'
    cases s
    cases o
    rfl
  rw [e]
  exact ⟨.ref p, _, J, rfl, q hn⟩
theorem cr_sortKI {w : World} (hc : X.calm = true) (hu : X.A.units + 64 < cLine) (hw : X.w = w := by rfl) : CallR X (.builtin "sorted") (rSortKI w) := by
  subst hw
  intro pins s σ H vs us Q I r h
  obtain ⟨a, L, rfl, ha, hz, q⟩ := h
  rw [Vals.ref1 r]
  refine ks_sorted (kso_get I ha) (I.ok.hd hc) (alikeI L) (by rw [List.length_map]; exact hz) hu fun s' p out c L' k g o hp hg he pm pw => ?_
  obtain ⟨ns, rfl, pn⟩ := perm_map_ex pm.symm (L := L) rfl
  refine sorted_put I k g o hp hg he (by rw [List.length_map, pn.length_eq]; exact hz) fun hn => ?_
  rw [List.map_map]
  refine q ns p pn ?_ hn
  rw [List.pairwise_map] at pw
  exact pw.imp fun {x y} h => by
    rw [le_keyI] at h
    exact of_decide_eq_true h
theorem cr_sortKS {w : World} (hc : X.calm = true) (hu : X.A.units + 64 < cLine) (hw : X.w = w := by rfl) : CallR X (.builtin "sorted") (rSortKS w) := by
  subst hw
  intro pins s σ H vs us Q I r h
  obtain ⟨a, L, rfl, ha, hz, q⟩ := h
  rw [Vals.ref1 r]
  refine ks_sorted (kso_get I ha) (I.ok.hd hc) (alikeS L) (by rw [List.length_map]; exact hz) hu fun s' p out c L' k g o hp hg he pm pw => ?_
  obtain ⟨ns, rfl, pn⟩ := perm_map_ex pm.symm (L := L) rfl
  refine sorted_put I k g o hp hg he (by rw [List.length_map, pn.length_eq]; exact hz) fun hn => ?_
  rw [List.map_map]
  refine q ns p pn (rising_of ?_) hn
  rw [List.pairwise_map] at pw
  exact pw.imp fun {x y} h => by
    rw [le_keyS] at h
    exact of_decide_eq_true h
end
section
variable {X : Cx}
theorem cr_lenK {w : World} (hw : X.w = w := by rfl) : CallR X (.builtin "len") (rLenK w) := by
  subst hw
  intro pins s σ H vs us Q I r h
  obtain ⟨a, L, rfl, ha, q⟩ := h
  rw [Vals.ref1 r]
  obtain ⟨o, es, ep, t, ho, hex, hd, d⟩ := kso_get I ha
  have e : es.size = L.length := by rw [← d.pm.length_eq, List.length_map, Array.length_toList]
  have sm := d.sm
  unfold scanBound at sm
  refine call_len_set ho hex hd d.ft (by omega) ⟨.int (L.length : Nat), H, I.tok _, ⟨_, by rw [e]⟩, q⟩
end
/-! each once, in order of coming -/
def insG {α : Type} [DecidableEq α] (L : List α) (k : α) : List α := if k ∈ L then L else L ++ [k]
def ded {α : Type} [DecidableEq α] (ks : List α) : List α := ks.foldl insG []
section
variable {α : Type} [DecidableEq α]
theorem ded_fold : ∀ (ks L : List α), (∀ x, x ∈ ks.foldl insG L ↔ x ∈ L ∨ x ∈ ks) ∧ (L.Nodup → (ks.foldl insG L).Nodup) ∧ (ks.foldl insG L).length ≤ L.length + ks.length
  | [], L => ⟨fun x => by simp, id, by simp⟩
  | k :: ks, L => by
    obtain ⟨h1, h2, h3⟩ := ded_fold ks (insG L k)
    rw [List.foldl_cons]
    have hm : ∀ x, x ∈ insG L k ↔ x ∈ L ∨ x = k := fun x => by
      unfold insG
      split
      · rename_i h
        constructor
        · exact .inl
        · rintro (z | rfl)
          · exact z
          · exact h
      · simp
    refine ⟨fun x => ?_, fun nd => h2 ?_, ?_⟩
    · rw [h1, hm, List.mem_cons, or_assoc]
    · unfold insG
      split
      · exact nd
      · rename_i h
        rw [List.nodup_append]
        exact ⟨nd, by simp, fun u hu v hv z => h (by rw [← List.mem_singleton.mp hv, ← z]; exact hu)⟩
    · have : (insG L k).length ≤ L.length + 1 := by
        unfold insG
        split <;> simp
      rw [List.length_cons]
      omega
theorem mem_ded {ks : List α} {x : α} : x ∈ ded ks ↔ x ∈ ks := by
  rw [ded, (ded_fold ks []).1]
  simp
theorem nd_ded (ks : List α) : (ded ks).Nodup := (ded_fold ks []).2.1 List.nodup_nil
theorem ded_len (ks : List α) : (ded ks).length ≤ ks.length := by
  have := (ded_fold ks []).2.2
  rw [List.length_nil, Nat.zero_add] at this
  exact this
theorem dedK_map {κ : α → Key} (hk : ∀ a b, κ a = κ b → a = b) (ks : List α) : dedK (ks.map κ) = (ded ks).map κ := by
  have key : ∀ (ks L : List α), (ks.map κ).foldl insK (L.map κ) = (ks.foldl insG L).map κ := by
    intro ks
    induction ks with
    | nil => intro L; rfl
    | cons k ks ih =>
      intro L
      rw [List.map_cons, List.foldl_cons, List.foldl_cons, ← ih]
      congr 1
      unfold insG
      by_cases h : k ∈ L
      · rw [if_pos h, insK_in (List.mem_map_of_mem h)]
      · rw [if_neg h, insK_ni (fun z => by
          obtain ⟨y, hy, e⟩ := List.mem_map.mp z
          exact h (hk _ _ e ▸ hy)), List.map_append]
        rfl
  exact key ks []
end
def srtI (ns : List Int) : List Int := (ded ns).mergeSort fun a b => decide (a ≤ b)
def srtS (xs : List Row) : List Row := (ded xs).mergeSort fun a b => decide (a ≤ b)
theorem srtI_pm (ns : List Int) : (srtI ns).Perm (ded ns) := List.mergeSort_perm _ _
theorem srtS_pm (xs : List Row) : (srtS xs).Perm (ded xs) := List.mergeSort_perm _ _
theorem srtI_mem {ns : List Int} {x : Int} : x ∈ srtI ns ↔ x ∈ ns := by rw [(srtI_pm ns).mem_iff, mem_ded]
theorem srtS_mem {ns : List Row} {x : Row} : x ∈ srtS ns ↔ x ∈ ns := by rw [(srtS_pm ns).mem_iff, mem_ded]
theorem srtI_le (ns : List Int) : (srtI ns).Pairwise (· ≤ ·) := (List.pairwise_mergeSort (le := fun a b : Int => decide (a ≤ b)) (fun a b c h1 h2 => by simp at h1 h2 ⊢; omega) (fun a b => by simp; omega) (ded ns)).imp fun h => of_decide_eq_true h
theorem srtS_le (ns : List Row) : (srtS ns).Pairwise (· ≤ ·) := (List.pairwise_mergeSort (le := fun a b : Row => decide (a ≤ b)) (fun a b c h1 h2 => by simp at h1 h2 ⊢; exact List.le_trans h1 h2) (fun a b => by simp; exact List.le_total a b) (ded ns)).imp fun h => of_decide_eq_true h
theorem srtI_nd (ns : List Int) : (srtI ns).Nodup := (srtI_pm ns).nodup_iff.mpr (nd_ded ns)
theorem srtS_nd (ns : List Row) : (srtS ns).Nodup := (srtS_pm ns).nodup_iff.mpr (nd_ded ns)
theorem srtI_lt (ns : List Int) : (srtI ns).Pairwise (· < ·) := ((srtI_le ns).and (srtI_nd ns)).imp fun h => by have := h.1; have := h.2; omega
theorem srtS_rising (ns : List Row) : rising (srtS ns) := rising_of (srtS_le ns)
theorem srtI_self {ns : List Int} (h : ns.Pairwise (· < ·)) : srtI ns = ns := by
  refine sorted_perm ((srtI_pm ns).trans ?_) (srtI_le ns) (h.imp fun h => Int.le_of_lt h)
  rw [List.perm_ext_iff_of_nodup (nd_ded ns) (h.imp fun h => by omega)]
  exact fun x => mem_ded
theorem srtI_iff {ns : List Int} : ns = srtI ns ↔ ns.Pairwise (· < ·) := ⟨fun h => by rw [h]; exact srtI_lt ns, fun h => (srtI_self h).symm⟩
section
variable {w : World} {K : PySem.W.Frag} {σ : L2.St} {H : Hp} {te : TE} {M : Addr → Prop} {ns : List Int} {xs : List Row}
/-- a set on the way -/
def isKS (w : World) (L : List Key) : V → Hp → Prop := fun v H => ∃ a, v = .ref a ∧ H a = some (KSO w a L)
theorem g_setL {ks : List Key} (h : EvQ K te σ H (ks.map kV)) (hz : ks.length ≤ 1000) : EvG (tCB (rSetQ K w) (tCons te tNil)) σ H (isKS w (dedK ks)) := fun H1 e Q q =>
  h H1 e _ fun a H2 e2 hs => ⟨a, ks, rfl, hs.q, hz, fun p hp => q _ _ (e2.trans (Ex.new hp)) ⟨p, rfl, upd_same⟩⟩
theorem g_setI (h : EvQ K te σ H (ns.map V.int)) (hz : ns.length ≤ 1000) : EvG (tCB (rSetQ K w) (tCons te tNil)) σ H (isKS w ((ded ns).map Sum.inl)) := by
  have := g_setL (w := w) (K := K) (ks := ns.map Sum.inl) (te := te) (σ := σ) (H := H) (by rw [List.map_map]; exact h) (by rw [List.length_map]; exact hz)
  rwa [dedK_map fun a b e => Sum.inl.inj e] at this
theorem g_setS (h : EvQ K te σ H (xs.map VS)) (hz : xs.length ≤ 1000) : EvG (tCB (rSetQ K w) (tCons te tNil)) σ H (isKS w ((ded xs).map fun r => Sum.inr (S r))) := by
  have := g_setL (w := w) (K := K) (ks := xs.map fun r => Sum.inr (S r)) (te := te) (σ := σ) (H := H) (by rw [List.map_map]; exact h) (by rw [List.length_map]; exact hz)
  rwa [dedK_map fun a b e => inS_inj a b e] at this
theorem p_sortSetI (h : EvQ K te σ H (ns.map V.int)) (hz : ns.length ≤ 1000) : EvP M (tCB (rSortKI w) (tCons (tCB (rSetQ K w) (tCons te tNil)) tNil)) σ H (uL uI (srtI ns)) (.ow .sh) := fun H1 e Q q =>
  g_setI (w := w) h hz H1 e _ fun v H2 e2 ⟨a, ev, ha⟩ => ⟨a, _, by rw [ev], ha, Nat.le_trans (ded_len ns) hz, fun m p pm pw hp => by
    have e3 : m = srtI ns := sorted_perm (pm.trans (srtI_pm ns).symm) pw (srtI_le ns)
    subst e3
    exact q _ [p] _ (e2.trans (Ex.new hp)) (by simp) (by simpa using fresh_back e2 hp) (ow_mu.mpr ⟨p, _, rfl, upd_same, rfl, rpL_sc.mpr rfl⟩)⟩
theorem p_sortSetS (h : EvQ K te σ H (xs.map VS)) (hz : xs.length ≤ 1000) : EvP M (tCB (rSortKS w) (tCons (tCB (rSetQ K w) (tCons te tNil)) tNil)) σ H (uL uS (srtS xs)) (.ow .sh) := fun H1 e Q q =>
  g_setS (w := w) h hz H1 e _ fun v H2 e2 ⟨a, ev, ha⟩ => ⟨a, _, by rw [ev], ha, Nat.le_trans (ded_len xs) hz, fun m p pm pw hp => by
    have e3 : m = srtS xs := rising_perm pw (srtS_rising xs) (pm.trans (srtS_pm xs).symm)
    subst e3
    exact q _ [p] _ (e2.trans (Ex.new hp)) (by simp) (by simpa using fresh_back e2 hp) (ow_mu.mpr ⟨p, _, rfl, upd_same, rfl, rpL_sc.mpr rfl⟩)⟩
theorem ev_lenSetS (h : EvQ K te σ H (xs.map VS)) (hz : xs.length ≤ 1000) : Ev (tCB (rLenK w) (tCons (tCB (rSetQ K w) (tCons te tNil)) tNil)) σ H (.int ((ded xs).length : Nat)) := fun H1 e Q q =>
  g_setS (w := w) h hz H1 e _ fun v H2 e2 ⟨a, ev, ha⟩ => ⟨a, _, by rw [ev], ha, by rw [List.length_map]; exact q H2 e2⟩
end
end Ho

/-! loops whose variable is a part of an owned thing; parts of numbers; clear() -/
namespace Ho
open PySem PySem.Spec PyProof.Rows L2 Evl
/-- a slot of which nothing is told -/
theorem OkL.any {M : Addr → Prop} {H : Hp} : ∀ {j : Nat} {ρ : List Sl} {σ : List (Option V)} {as : List Addr}, OkL M H ρ σ as → ∃ b0 cs, (b0 ++ cs).Perm as ∧ OkL M H (ρ.set j .any) σ cs
  | j, [], σ, as, h => ⟨[], as, List.Perm.refl _, h⟩
  | 0, .una :: ρ, σ, as, ⟨r, es, t⟩ => ⟨[], as, List.Perm.refl _, none, r, es, t⟩
  | 0, .any :: ρ, σ, as, ⟨x, r, es, t⟩ => ⟨[], as, List.Perm.refl _, x, r, es, t⟩
  | 0, .own d p :: ρ, σ, as, ⟨v, r, bs, cs, es, ea, o, t⟩ => ⟨bs, cs, by rw [ea], some v, r, es, t⟩
  | j + 1, .una :: ρ, σ, as, ⟨r, es, t⟩ => by
    obtain ⟨b0, cs, h1, h2⟩ := OkL.any (j := j) t
    exact ⟨b0, cs, h1, r, es, h2⟩
  | j + 1, .any :: ρ, σ, as, ⟨x, r, es, t⟩ => by
    obtain ⟨b0, cs, h1, h2⟩ := OkL.any (j := j) t
    exact ⟨b0, cs, h1, x, r, es, h2⟩
  | j + 1, .own d p :: ρ, σ, as, ⟨v, r, bs, cs, es, ea, o, t⟩ => by
    obtain ⟨b0, c2, h1, h2⟩ := OkL.any (j := j) t
    subst ea
    refine ⟨b0, bs ++ c2, ?_, v, r, bs, c2, es, rfl, o, h2⟩
    rw [← List.append_assoc]
    exact ((List.perm_append_comm (l₁ := b0) (l₂ := bs)).append_right c2).trans (by rw [List.append_assoc]; exact h1.append_left bs)
theorem OkL.anyv {M : Addr → Prop} {H : Hp} {x : Option V} : ∀ {j : Nat} {ρ : List Sl} {σ : List (Option V)} {as : List Addr}, OkL M H ρ σ as → ρ[j]? = some .any → OkL M H ρ (σ.set j x) as
  | j, [], σ, as, h, e => by simp at e
  | 0, s :: ρ, σ, as, h, e => by
    simp at e
    subst e
    obtain ⟨y, r, rfl, t⟩ := h
    exact ⟨x, r, rfl, t⟩
  | j + 1, .una :: ρ, σ, as, ⟨r, es, t⟩, e => by
    subst es
    exact ⟨r.set j x, rfl, OkL.anyv t (by simpa using e)⟩
  | j + 1, .any :: ρ, σ, as, ⟨y, r, es, t⟩, e => by
    subst es
    exact ⟨y, r.set j x, rfl, OkL.anyv t (by simpa using e)⟩
  | j + 1, .own d p :: ρ, σ, as, ⟨v, r, bs, cs, es, ea, o, t⟩, e => by
    subst es
    exact ⟨v, r.set j x, bs, cs, rfl, ea, o, OkL.anyv t (by simpa using e)⟩
section
variable {K : PySem.W.Frag} {F : Addr → Prop} {Z : Hp → (Addr → Prop) → Prop} {ρ : List Sl} {σ : L2.St} {H : Hp} {M : Addr → Prop} {d d0 : Dt} {p p0 : Pat} {i j n : Nat} {to tb te : TE} {s : Sh} {ds : List Dt} {α : Type} {D : Ends} {tz : TS} {W : Dt → Dt}
theorem Ok.toAny (ok : Ok F Z ρ σ H M) (j : Nat) : Ok F Z (ρ.set j .any) σ H M := by
  obtain ⟨as, nd, own, sl⟩ := ok.sl
  obtain ⟨b0, cs, h1, h2⟩ := OkL.any (j := j) sl
  exact ⟨⟨cs, (List.nodup_append.mp (h1.nodup_iff.mpr nd)).2.1, fun a ha => own a (h1.subset (List.mem_append_right _ ha)), h2⟩, ok.al, ok.fr, ok.z, ok.mz⟩
theorem Ok.anyv (ok : Ok F Z ρ σ H M) (hj : ρ[j]? = some .any) (x : Option V) : Ok F Z ρ (σ.set j x) H M := by
  obtain ⟨as, nd, own, sl⟩ := ok.sl
  exact ⟨⟨as, nd, own, sl.anyv hj⟩, ok.al, ok.fr, ok.z, ok.mz⟩
/-- what a slot owns may change at will -/
theorem Ok.swap (ok : Ok F Z ρ σ H M) (h : ρ[i]? = some (.own d p)) : ∃ v bs, σ[i]? = some (some v) ∧ Ow M H d p v bs ∧ bs.Nodup ∧ (∀ a ∈ bs, M a) ∧
    ∀ H' d' p' bs', (∀ a o, a ∉ bs → H a = some o → H' a = some o) → (∀ a ∈ bs, H' a ≠ none) → Ow M H' d' p' v bs' → bs'.Nodup → (∀ a ∈ bs', a ∈ bs) → Ok F Z (ρ.set i (.own d' p')) σ H' M := by
  obtain ⟨as, nd, own, sl⟩ := ok.sl
  obtain ⟨v, bs, cs, h1, h2, h3, h4⟩ := sl.out h
  have nd2 := List.nodup_append.mp (h4.nodup_iff.mpr nd)
  have hb : ∀ a ∈ bs, M a ∧ ¬ F a := fun a ha => own a (h4.subset (List.mem_append_left _ ha))
  refine ⟨v, bs, h1, h2, nd2.1, fun a ha => (hb a ha).1, fun H' d' p' bs' k1 k2 w nb sub => ?_⟩
  have g0 : Go M H M H' := fun b u n e => ⟨k1 b u (fun z => n (hb b z).1) e, n⟩
  have sl' := h3.go g0 fun b hbc u e => k1 b u (fun z => nd2.2.2 b z b hbc rfl) e
  have hi : i < ρ.length := (List.getElem?_eq_some_iff.mp h).1
  obtain ⟨as', q1, q2⟩ := OkL.back (bs := bs') w hi sl' h1
  refine ⟨⟨as', ?_, fun b hbb => ?_, q1⟩, fun b hbb hn => ?_, ok.fr, ?_, ok.mz⟩
  · rw [q2.nodup_iff, List.nodup_append]
    exact ⟨nb, nd2.2.1, fun u hu y hy z => nd2.2.2 u (sub u hu) y hy z⟩
  · rcases List.mem_append.mp (q2.subset hbb) with z | z
    · exact hb b (sub b z)
    · exact own b (h4.subset (List.mem_append_right _ z))
  · by_cases z : b ∈ bs
    · exact k2 b z hn
    · cases e : H b with
      | none => exact ok.al b hbb e
      | some o => rw [k1 b o z e] at hn; cases hn
  · exact ok.mz _ _ _ _ ok.z ⟨fun b u n e => k1 b u (fun z => n (hb b z)) e, fun b hbb => .inl hbb⟩
/-- for row in given: row.append(e) -/
theorem c_forApp {f : α → Dt} {xss : List (List α)} {x : α} (ok : Ok F Z ρ σ H M) (hi : ρ[i]? = some (.own (uL (uL f) xss) (.ow (.ow .sh)))) (hij : i ≠ j) (hj : (ρ[j]?).isSome = true) (hz : ∀ l ∈ xss, l.length < 1000)
    (ht : ∀ yss M' σ' H', Ok F Z ((ρ.set j .any).set i (.own (uL (uL f) yss) (.ow (.ow .sh)))) σ' H' M' → EvR M' te σ' H' (f x))
    (k : ∀ M' σ' H', Ok F Z ((ρ.set j .any).set i (.own (uL (uL f) (xss.map (· ++ [x]))) (.ow (.ow .sh)))) σ' H' M' → D.nx σ' H') : tFor (iList K (tVar i)) (gName j) (tDrop (tBM K "list" rAppend (tVar j) (tCons te tNil))) D σ H := by
  have hj : j < ρ.length := by
    cases e : ρ[j]? with
    | none => rw [e] at hj; cases hj
    | some s => exact (List.getElem?_eq_some_iff.mp e).1
  have ok1 := ok.toAny j
  have hi1 : (ρ.set j .any)[i]? = some (.own (uL (uL f) xss) (.ow (.ow .sh))) := by rw [List.getElem?_set_ne hij.symm]; exact hi
  have hj1 : ∀ d' p', ((ρ.set j .any).set i (.own d' p'))[j]? = some .any := fun d' p' => by rw [List.getElem?_set_ne hij, List.getElem?_set_self hj]
  obtain ⟨v, bs, hv, w, nb, hM, sw⟩ := ok1.swap hi1
  unfold Ow at w
  obtain ⟨a, vs, cs, rfl, o, rfl, f0⟩ := w
  have o : H a = some (.lst vs) := o
  have nc := List.nodup_cons.mp nb
  let it : Nat → List (List α) := fun n => (xss.take n).map (· ++ [x]) ++ xss.drop n
  have itl : ∀ n, (it n).length = xss.length := fun n => by
    show ((xss.take n).map (· ++ [x]) ++ xss.drop n).length = _
    rw [List.length_append, List.length_map, List.length_take, List.length_drop]
    omega
  have itn : ∀ n, (h : n < xss.length) → (it n)[n]? = some xss[n] := fun n h => by
    show ((xss.take n).map (· ++ [x]) ++ xss.drop n)[n]? = _
    rw [List.getElem?_append_right (by rw [List.length_map, List.length_take]; omega), List.length_map, List.length_take, List.getElem?_drop, show n + (n - min n xss.length) = n by omega, List.getElem?_eq_getElem h]
  have its : ∀ n, (h : n < xss.length) → (it n).set n (xss[n] ++ [x]) = it (n + 1) := fun n h => by
    show ((xss.take n).map (· ++ [x]) ++ xss.drop n).set n _ = (xss.take (n + 1)).map (· ++ [x]) ++ xss.drop (n + 1)
    rw [List.set_append_right _ _ (by rw [List.length_map, List.length_take]; omega), List.length_map, List.length_take, show n - min n xss.length = 0 by omega, List.drop_eq_getElem_cons h, List.set_cons_zero, List.take_succ, List.getElem?_eq_getElem h, Option.toList_some, List.map_append, List.append_assoc]
    rfl
  have sv : ∀ y : Option V, ((σ.set j y)[i]?) = some (some (.ref a)) := fun y => by rw [List.getElem?_set_ne hij.symm]; exact hv
  have start : it 0 = xss := by show (xss.take 0).map _ ++ xss.drop 0 = _; simp
  have hvl : vs.length = xss.length := by
    have := (OwF.fr (M' := Mo) (fun _ _ z => z) (fun _ _ z => z) f0).len
    rwa [List.length_map] at this
  refine ⟨.ref a, hv, a, rfl, ⟨vs, SL.q (slof o)⟩, fun n m σ' H' => m = xss.length - n ∧ n ≤ xss.length ∧ (∃ y, σ' = σ.set j y) ∧ (∀ b o, b ∉ a :: cs → H b = some o → H' b = some o) ∧ H' a = some (.lst vs) ∧ OwF M H' ((it n).map (uL f)) (List.replicate ((it n).map (uL f)).length (.ow .sh)) vs cs,
    ⟨xss.length, by simp, Nat.zero_le _, ⟨(σ[j]?).getD none, ?_⟩, fun _ _ _ h => h, o, by rw [start]; exact f0⟩, ?_⟩
  · have hjl : j < σ.length := by
      obtain ⟨as, _, _, sl⟩ := ok.sl
      have : ∀ {ρ : List Sl} {σ : List (Option V)} {as : List Addr}, OkL M H ρ σ as → σ.length = ρ.length := by
        intro ρ
        induction ρ with
        | nil => intro σ as h; rw [h.1]; rfl
        | cons s ρ ih =>
          intro σ as h
          cases s with
          | una => obtain ⟨r, rfl, t⟩ := h; simp [ih t]
          | any => obtain ⟨y, r, rfl, t⟩ := h; simp [ih t]
          | own d p => obtain ⟨v, r, bs, cs, rfl, _, _, t⟩ := h; simp [ih t]
      rw [this sl]; exact hj
    rw [List.getElem?_eq_getElem hjl]
    simp
  rintro n m σ' H' ⟨rfl, hn, ⟨y, rfl⟩, hk, ha, fo⟩
  have okn : ∀ y, Ok F Z ((ρ.set j .any).set i (.own (uL (uL f) (it n)) (.ow (.ow .sh)))) (σ.set j y) H' M := fun y => by
    refine Ok.anyv (sw H' (uL (uL f) (it n)) (.ow (.ow .sh)) (a :: cs) hk (fun b hb => ?_) ?_ nb fun b hb => hb) (hj1 _ _) y
    · rcases List.mem_cons.mp hb with rfl | hb
      · rw [ha]; simp
      · exact fo.al b hb
    · unfold Ow
      exact ⟨a, vs, cs, rfl, ha, rfl, fo⟩
  by_cases hlt : n < xss.length
  · refine .inr ⟨⟨vs, vs[n]'(by omega), SL.q (slof ha), by simp⟩, fun σ' H' => n + 1 ≤ xss.length ∧ (∃ y, σ' = σ.set j y) ∧ (∀ b o, b ∉ a :: cs → H b = some o → H' b = some o) ∧ H' a = some (.lst vs) ∧ OwF M H' ((it (n + 1)).map (uL f)) (List.replicate ((it (n + 1)).map (uL f)).length (.ow .sh)) vs cs,
      fun σ'' H'' c => ⟨xss.length - (n + 1), by omega, rfl, c⟩, fun u H2 yy => ?_⟩
    obtain ⟨rfl, yy⟩ := yy
    have hu := yy vs (SL.q (slof ha))
    obtain ⟨vj, bj, k1, k2, k3, k4, k5⟩ := fo.at n (uL f xss[n]) (.ow .sh) (by rw [List.getElem?_map, itn n hlt]; rfl) (by rw [List.getElem?_replicate, if_pos (by rw [List.length_map, itl]; exact hlt)])
    rw [hu] at k1
    obtain rfl := Option.some.inj k1
    obtain ⟨aj, ws, rfl, oj, rfl, rj⟩ := ow_mu.mp k2
    have oj : H2 aj = some (.lst ws) := oj
    have hjl : ((σ.set j y).set j (some (.ref aj)))[j]? = some (some (.ref aj)) := by
      rw [List.getElem?_set_self]
      by_cases q : j < (σ.set j y).length
      · exact q
      · exfalso
        have : σ.length ≤ j := by rw [List.length_set] at q; omega
        obtain ⟨as, _, _, sl⟩ := ok.sl
        have : ∀ {ρ : List Sl} {σ : List (Option V)} {as : List Addr}, OkL M H ρ σ as → σ.length = ρ.length := by
          intro ρ
          induction ρ with
          | nil => intro σ as h; rw [h.1]; rfl
          | cons s ρ ih =>
            intro σ as h
            cases s with
            | una => obtain ⟨r, rfl, t⟩ := h; simp [ih t]
            | any => obtain ⟨y, r, rfl, t⟩ := h; simp [ih t]
            | own d p => obtain ⟨v, r, bs, cs, rfl, _, _, t⟩ := h; simp [ih t]
        have := this sl
        omega
    have okj := okn (some (.ref aj))
    show tDrop (tBM K "list" rAppend (tVar j) (tCons te tNil)) _ ((σ.set j y).set j (some (.ref aj))) H2
    rw [show (σ.set j y).set j (some (.ref aj)) = σ.set j (some (.ref aj)) from by simp] at hjl ⊢
    refine ⟨.ref aj, hjl, .inl ⟨rfl, ws, SL.q (slof oj)⟩, ?_⟩
    refine ht _ _ _ _ okj H2 (Ex.refl _) _ fun u H3 e3 r => ⟨aj, ws, u, rfl, rfl, e3 _ _ oj, sz_lt (by rw [rj.len, List.length_map]; have := hz xss[n] (List.getElem_mem hlt); omega), ?_⟩
    have haj : aj ∈ cs := k3 aj (List.mem_singleton.mpr rfl)
    have hne : ∀ b, b ≠ aj → (upd H3 aj (.lst (ws ++ [u]))) b = H3 b := fun b hb => upd_ne hb
    have hMj : M aj := hM aj (List.mem_cons_of_mem _ haj)
    refine ⟨hlt, ⟨_, rfl⟩, fun b o' nbb e => ?_, ?_, ?_⟩
    · rw [hne b (fun z => nbb (by rw [z]; exact List.mem_cons_of_mem _ haj))]
      exact e3 _ _ (hk b o' nbb e)
    · rw [hne a (fun z => nc.1 (by rw [z]; exact haj))]
      exact e3 _ _ ha
    · have g : Go M H2 M (upd H3 aj (.lst (ws ++ [u]))) := fun b o' nm e => ⟨by rw [hne b (fun z => nm (by rw [z]; exact hMj))]; exact e3 _ _ e, nm⟩
      have g3 : Go M H3 M (upd H3 aj (.lst (ws ++ [u]))) := fun b o' nm e => ⟨by rw [hne b (fun z => nm (by rw [z]; exact hMj))]; exact e, nm⟩
      have := k5 (upd H3 aj (.lst (ws ++ [u]))) (uL f (xss[n] ++ [x])) nc.2 g (fun b hb hbb o' e => by
        rw [hne b (fun z => hbb (List.mem_singleton.mpr z))]
        exact e3 _ _ e) (ow_mu.mpr ⟨aj, ws ++ [u], rfl, upd_same, rfl, by
          rw [List.map_append]
          exact (RpL.go g rj).app (RpL.one (RpL.go g3 (RpL.one r) |> fun z => by
            unfold RpL at z
            obtain ⟨_, _, e1, q, _⟩ := z
            cases e1
            exact q))⟩)
      have e4 : ((it n).map (uL f)).set n (uL f (xss[n] ++ [x])) = (it (n + 1)).map (uL f) := by rw [← its n hlt, List.map_set]
      rw [e4] at this
      rw [List.length_map, itl] at this ⊢
      exact this
  · have e : n = xss.length := by omega
    subst e
    refine .inl ⟨⟨vs, SL.q (slof ha), by omega⟩, ?_⟩
    have := okn y
    rw [show it xss.length = xss.map (· ++ [x]) from by show (xss.take _).map _ ++ xss.drop _ = _; rw [List.take_length, List.drop_length, List.append_nil]] at this
    exact k _ _ _ this
theorem b_forApp {f : α → Dt} {xss : List (List α)} {x : α} (ok : Ok F Z ρ σ H M) (hi : ρ[i]? = some (.own (uL (uL f) xss) (.ow (.ow .sh)))) (hij : i ≠ j) (hj : (ρ[j]?).isSome = true) (hz : ∀ l ∈ xss, l.length < 1000)
    (ht : ∀ yss M' σ' H', Ok F Z ((ρ.set j .any).set i (.own (uL (uL f) yss) (.ow (.ow .sh)))) σ' H' M' → EvR M' te σ' H' (f x))
    (k : ∀ M' σ' H', Ok F Z ((ρ.set j .any).set i (.own (uL (uL f) (xss.map (· ++ [x]))) (.ow (.ow .sh)))) σ' H' M' → tz D σ' H') : tSeq (tFor (iList K (tVar i)) (gName j) (tDrop (tBM K "list" rAppend (tVar j) (tCons te tNil)))) tz D σ H := c_forApp (D := { D with nx := tz D }) ok hi hij hj hz ht k
/-- xs.clear() -/
theorem c_clr {ds : List Dt} (ok : Ok F Z ρ σ H M) (hi : ρ[i]? = some (mu (.node .l ds))) (k : ∀ M' σ' H', Ok F Z (ρ.set i (mu (.node .l []))) σ' H' M' → D.nx σ' H') : tDrop (tBM0 K "list" rClear (tVar i)) D σ H := by
  obtain ⟨a, vs, h1, h2, h3, h4⟩ := ok.mut hi
  have h2 : H a = some (.lst vs) := h2
  refine ⟨.ref a, h1, .inl ⟨rfl, vs, SL.q (slof h2)⟩, a, vs, rfl, rfl, h2, ?_⟩
  exact k _ _ _ (h4 H (Ex.refl _) _ .l _ [] upd_same (by unfold RpL; rfl))
theorem b_clr {ds : List Dt} (ok : Ok F Z ρ σ H M) (hi : ρ[i]? = some (mu (.node .l ds))) (k : ∀ M' σ' H', Ok F Z (ρ.set i (mu (.node .l []))) σ' H' M' → tz D σ' H') : tSeq (tDrop (tBM0 K "list" rClear (tVar i))) tz D σ H := c_clr (D := { D with nx := tz D }) ok hi k
def rGetL (K : PySem.W.Frag) : V → V → Hp → VK → Prop := fun x y H Q => ∃ p xs n v, x = .ref p ∧ y = .int (n : Nat) ∧ SqL K H p xs ∧ xs[n]? = some v ∧ Q v H
theorem pg_getL {X : Cx} (hK : X.K = K := by rfl) : PGet X (rGetL K) := by
  subst hK
  intro pins s σ H x y v u Q I rx ry h
  obtain ⟨p, xs, n, z, rfl, rfl, hq, he, q⟩ := h
  cases rx
  obtain ⟨t, rfl⟩ := ry
  obtain ⟨its, r, pl, hz⟩ := I.list hq
  obtain ⟨w, ew, rw'⟩ := r.get he
  have hl := r.length
  have hn := line63
  have hnl := (List.getElem?_eq_some_iff.mp he).1
  exact wpAny_getItem_list pl.isList (by omega) (by omega) (by simpa using ew) ⟨z, H, I, rw', q⟩
/-- (part)[n] += e -/
theorem c_augP {xs : List Int} {m : Int} {f : Int → Int → Int} (ok : Ok F Z ρ σ H M) (hi : ρ[i]? = some (.own d0 p0)) (R : Rch to σ H M i d0 p0 (uL uI xs) (.ow .sh) W) (hn : Ev tb σ H (.int (n : Int))) (h : Ev te σ H (.int m)) (hz : n < xs.length)
    (k : ∀ M' σ' H', Ok F Z (ρ.set i (.own (W (uL uI (xs.set n (f (xs.getD n 0) m)))) p0)) σ' H' M' → D.nx σ' H') : tAugS to tb te (rGetL K) (ipI f) rSetL D σ H := by
  obtain ⟨a, vs, h1, h2, h3, h4⟩ := ok.reach hi R
  have h2 : H a = some (.lst vs) := h2
  have hv : vs = xs.map V.int := rpL_sc.mp h3
  subst hv
  refine h1 H (Ex.refl _) _ fun H1 e1 => hn H1 e1 _ fun H2 e2 => ?_
  have e12 := e1.trans e2
  refine ⟨a, _, n, .int (xs.getD n 0), rfl, rfl, (slof (K := K) (e12 _ _ h2)).q, ?_, ?_⟩
  · rw [List.getElem?_map, List.getElem?_eq_getElem hz, List.getD_eq_getElem?_getD, List.getElem?_eq_getElem hz]
    rfl
  refine h H2 e12 _ fun H3 e3 => ⟨_, _, rfl, rfl, ?_⟩
  have e13 := e12.trans e3
  refine ⟨a, xs.map V.int, (n : Int), n, rfl, rfl, e13 _ _ h2, ixN_nat (by rw [List.length_map]; exact hz), ?_⟩
  refine k _ _ _ (h4 H3 e13 _ .l _ ((xs.map V.int).set n (.int (f (xs.getD n 0) m))) upd_same ?_)
  rw [← List.map_set]
  exact rpL_sc.mpr rfl
theorem b_augP {xs : List Int} {m : Int} {f : Int → Int → Int} (ok : Ok F Z ρ σ H M) (hi : ρ[i]? = some (.own d0 p0)) (R : Rch to σ H M i d0 p0 (uL uI xs) (.ow .sh) W) (hn : Ev tb σ H (.int (n : Int))) (h : Ev te σ H (.int m)) (hz : n < xs.length)
    (k : ∀ M' σ' H', Ok F Z (ρ.set i (.own (W (uL uI (xs.set n (f (xs.getD n 0) m)))) p0)) σ' H' M' → tz D σ' H') : tSeq (tAugS to tb te (rGetL K) (ipI f) rSetL) tz D σ H := c_augP (D := { D with nx := tz D }) ok hi R hn h hz k
end
/-! ### targets of any form -/
def Tgt (d : Dt) (g : TG) (js : List Nat) (u : List Sl → List Sl) : Prop := ∀ (v : V) (σ : L2.St) (H : Hp) (M : Addr → Prop) (K' : L2.St → Hp → Prop), Rp M H d v →
  (∀ σ'', σ''.length = σ.length → (∀ k, k ∉ js → σ''[k]? = σ[k]?) → (∀ F Z ρ, Ok F Z ρ σ H M → Ok F Z (u ρ) σ'' H M) → K' σ'' H) → g v σ H K'
theorem tg_name {d : Dt} {j : Nat} : Tgt d (gName j) [j] (fun ρ => ρ.set j (st d)) := fun v σ H M K' r k => k _ (by simp) (fun _ h => set_at h) fun F Z ρ ok => ok.setR (Ex.refl _) r
theorem tg_2 {K : PySem.W.Frag} {d1 d2 : Dt} {g1 g2 : TG} {js1 js2 : List Nat} {u1 u2 : List Sl → List Sl} (t1 : Tgt d1 g1 js1 u1) (t2 : Tgt d2 g2 js2 u2) : Tgt (.node .t [d1, d2]) (gTup K 2 (gCons g1 (gCons g2 gNil))) (js1 ++ js2) (fun ρ => u2 (u1 ρ)) := fun v σ H M K' r k => by
  unfold Rp at r
  obtain ⟨a, vs, rfl, n, o, r⟩ := r
  simp only [RpL] at r
  obtain ⟨v1, r1, rfl, h1, v2, r2, rfl, h2, rfl⟩ := r
  have o : H a = some (.tup [v1, v2]) := o
  refine ⟨a, [v1, v2], rfl, st_of o, rfl, v1, [v2], rfl, t1 v1 σ H M _ h1 fun σ1 l1 s1 k1 => ⟨v2, [], rfl, t2 v2 σ1 H M _ h2 fun σ2 l2 s2 k2 => ⟨rfl, k σ2 (l2.trans l1) (fun i hi => ?_) fun F Z ρ ok => k2 F Z _ (k1 F Z ρ ok)⟩⟩⟩
  rw [s2 i (fun z => hi (List.mem_append_right _ z)), s1 i (fun z => hi (List.mem_append_left _ z))]
theorem tg_3 {K : PySem.W.Frag} {d1 d2 d3 : Dt} {g1 g2 g3 : TG} {js1 js2 js3 : List Nat} {u1 u2 u3 : List Sl → List Sl} (t1 : Tgt d1 g1 js1 u1) (t2 : Tgt d2 g2 js2 u2) (t3 : Tgt d3 g3 js3 u3) :
    Tgt (.node .t [d1, d2, d3]) (gTup K 3 (gCons g1 (gCons g2 (gCons g3 gNil)))) (js1 ++ (js2 ++ js3)) (fun ρ => u3 (u2 (u1 ρ))) := fun v σ H M K' r k => by
  unfold Rp at r
  obtain ⟨a, vs, rfl, n, o, r⟩ := r
  simp only [RpL] at r
  obtain ⟨v1, r1, rfl, h1, v2, r2, rfl, h2, v3, r3, rfl, h3, rfl⟩ := r
  have o : H a = some (.tup [v1, v2, v3]) := o
  refine ⟨a, [v1, v2, v3], rfl, st_of o, rfl, v1, [v2, v3], rfl, t1 v1 σ H M _ h1 fun σ1 l1 s1 k1 => ⟨v2, [v3], rfl, t2 v2 σ1 H M _ h2 fun σ2 l2 s2 k2 => ⟨v3, [], rfl, t3 v3 σ2 H M _ h3 fun σ3 l3 s3 k3 => ⟨rfl, k σ3 (l3.trans (l2.trans l1)) (fun i hi => ?_) fun F Z ρ ok => k3 F Z _ (k2 F Z _ (k1 F Z ρ ok))⟩⟩⟩⟩
  rw [s3 i (fun z => hi (List.mem_append_right _ (List.mem_append_right _ z))), s2 i (fun z => hi (List.mem_append_right _ (List.mem_append_left _ z))), s1 i (fun z => hi (List.mem_append_left _ z))]
section
variable {K : PySem.W.Frag} {σ : L2.St} {H : Hp} {M : Addr → Prop} {tl : TE} {α : Type} {g : TG} {js : List Nat} {u : α → List Sl → List Sl}
theorem j_listT {l : List α} {f : α → Dt} (h : EvR M tl σ H (.node .l (l.map f))) (tg : ∀ x, Tgt (f x) g js (u x)) : EvJ GoM M (iList K tl) g js σ H l u := fun H1 e R q =>
  h H1 e _ fun v H2 e2 r => by
    unfold isR Rp at r
    obtain ⟨a, vs, rfl, n, o, r⟩ := r
    have o : H2 a = some (.lst vs) := o
    refine ⟨a, rfl, ⟨vs, SL.q (slof o)⟩, q (Itl K a) H2 (fun H M => ¬ M a ∧ H a = some (.lst vs) ∧ RpL M H (l.map f) vs) e2 ⟨n, o, r⟩ (fun Ha Ma Hb Mb g ⟨g1, g2, g3⟩ => ⟨(g a _ g1 g2).2, (g a _ g1 g2).1, RpL.go g g3⟩) ⟨?_, ?_, ?_⟩⟩
    · intro i H M hi ⟨g1, g2, g3⟩
      have hl := g3.len
      rw [List.length_map] at hl
      exact ⟨vs, vs[i]'(by omega), SL.q (slof g2), by simp [hl, hi]⟩
    · intro H M ⟨g1, g2, g3⟩
      have hl := g3.len
      rw [List.length_map] at hl
      exact ⟨vs, SL.q (slof g2), by omega⟩
    · intro i H M x H' σ K' hi ⟨g1, g2, g3⟩ y k
      obtain ⟨e1, y⟩ := y
      subst e1
      obtain ⟨w, hw, hp⟩ := g3.at i (f l[i]) (by simp [hi])
      have := y vs (SL.q (slof g2))
      rw [hw] at this
      obtain rfl := Option.some.inj this
      exact tg l[i] w σ H' M _ hp fun σ'' l1 s1 k1 => k σ'' H' (Ex.refl _) l1 s1 k1
theorem j_listTN {l : List α} {f : α → Dt} (h : EvN M tl σ H .l (l.map f)) (tg : ∀ x, Tgt (f x) g js (u x)) : EvJ GoE M (iList K tl) g js σ H l u := fun H1 e R q =>
  h H1 e _ fun v H2 e2 r => by
    obtain ⟨a, vs, rfl, o, r⟩ := r
    have o : H2 a = some (.lst vs) := o
    refine ⟨a, rfl, ⟨vs, SL.q (slof o)⟩, q (Itl K a) H2 (fun H M => H a = some (.lst vs) ∧ RpL M H (l.map f) vs) e2 ⟨o, r⟩ (fun Ha Ma Hb Mb g ⟨g2, g3⟩ => ⟨g.1 _ _ g2, RpL.go (fun b o n e => ⟨g.1 _ _ e, g.2 b n (by rw [e]; simp)⟩) g3⟩) ⟨?_, ?_, ?_⟩⟩
    · intro i H M hi ⟨g2, g3⟩
      have hl := g3.len
      rw [List.length_map] at hl
      exact ⟨vs, vs[i]'(by omega), SL.q (slof g2), by simp [hl, hi]⟩
    · intro H M ⟨g2, g3⟩
      have hl := g3.len
      rw [List.length_map] at hl
      exact ⟨vs, SL.q (slof g2), by omega⟩
    · intro i H M x H' σ K' hi ⟨g2, g3⟩ y k
      obtain ⟨e1, y⟩ := y
      subst e1
      obtain ⟨w, hw, hp⟩ := g3.at i (f l[i]) (by simp [hi])
      have := y vs (SL.q (slof g2))
      rw [hw] at this
      obtain rfl := Option.some.inj this
      exact tg l[i] w σ H' M _ hp fun σ'' l1 s1 k1 => k σ'' H' (Ex.refl _) l1 s1 k1
theorem j_tupT {l : List α} {f : α → Dt} (h : EvR M tl σ H (.node .t (l.map f))) (tg : ∀ x, Tgt (f x) g js (u x)) : EvJ GoM M (iTup K tl) g js σ H l u := fun H1 e R q =>
  h H1 e _ fun v H2 e2 r => by
    unfold isR Rp at r
    obtain ⟨a, vs, rfl, n, o, r⟩ := r
    have o : H2 a = some (.tup vs) := o
    refine ⟨a, rfl, ⟨vs, ST.q (stof o)⟩, q (Itt K a) H2 (fun H M => ¬ M a ∧ H a = some (.tup vs) ∧ RpL M H (l.map f) vs) e2 ⟨n, o, r⟩ (fun Ha Ma Hb Mb g ⟨g1, g2, g3⟩ => ⟨(g a _ g1 g2).2, (g a _ g1 g2).1, RpL.go g g3⟩) ⟨?_, ?_, ?_⟩⟩
    · intro i H M hi ⟨g1, g2, g3⟩
      have hl := g3.len
      rw [List.length_map] at hl
      exact ⟨vs, vs[i]'(by omega), ST.q (stof g2), by simp [hl, hi]⟩
    · intro H M ⟨g1, g2, g3⟩
      have hl := g3.len
      rw [List.length_map] at hl
      exact ⟨vs, ST.q (stof g2), by omega⟩
    · intro i H M x H' σ K' hi ⟨g1, g2, g3⟩ y k
      obtain ⟨e1, y⟩ := y
      subst e1
      obtain ⟨w, hw, hp⟩ := g3.at i (f l[i]) (by simp [hi])
      have := y vs (ST.q (stof g2))
      rw [hw] at this
      obtain rfl := Option.some.inj this
      exact tg l[i] w σ H' M _ hp fun σ'' l1 s1 k1 => k σ'' H' (Ex.refl _) l1 s1 k1
end
/-! list(range(..)) -/
def rgI (a b : Int) : List Int := (List.range (b - a).toNat).map fun i => a + (i : Nat)
theorem rgI_len (a b : Int) : (rgI a b).length = (b - a).toNat := by unfold rgI; rw [List.length_map, List.length_range]
theorem rgV_I (a b : Int) : rgV a b = (rgI a b).map V.int := by
  unfold rgV rgI
  rw [List.map_map]
  rfl
section
variable {σ : L2.St} {H : Hp} {M : Addr → Prop} {ta tb : TE} {m n : Int}
theorem p_lrg1 (h : Ev ta σ H (.int n)) (hn : -100000 ≤ n ∧ n ≤ 100000) : EvP M (tLstRg (tRg1 ta)) σ H (uL uI (rgI 0 n)) (.ow .sh) := fun H1 e Q q =>
  h H1 e _ fun H2 e2 => ⟨n, rfl, ⟨by omega, by omega, by omega, by omega, by omega⟩, fun p hp => q _ [p] _ (e2.trans (Ex.new hp)) (by simp) (by simpa using fresh_back e2 hp) (ow_mu.mpr ⟨p, _, rfl, upd_same, rfl, by rw [rgV_I]; exact rpL_sc.mpr rfl⟩)⟩
theorem p_lrg2 (ha : Ev ta σ H (.int m)) (hb : Ev tb σ H (.int n)) (hm : -100000 ≤ m ∧ m ≤ 100000) (hn : -100000 ≤ n ∧ n ≤ 100000) : EvP M (tLstRg (tRg2 ta tb)) σ H (uL uI (rgI m n)) (.ow .sh) := fun H1 e Q q =>
  ha H1 e _ fun H2 e2 => hb H2 (e.trans e2) _ fun H3 e3 => ⟨m, n, rfl, rfl, ⟨by omega, by omega, by omega, by omega, by omega⟩, fun p hp => q _ [p] _ ((e2.trans e3).trans (Ex.new hp)) (by simp) (by simpa using fresh_back (e2.trans e3) hp) (ow_mu.mpr ⟨p, _, rfl, upd_same, rfl, by rw [rgV_I]; exact rpL_sc.mpr rfl⟩)⟩
end
end Ho

/-! dicts that are walked: locked meanwhile -/
namespace Ho
open PySem PySem.Spec PyProof.Rows L2 Evl
/-- a dict of keys of one kind to data; of tuple keys -/
abbrev uDK {α β : Type} (κ : α → Key) (f : β → Dt) (r : List (α × β)) : Dt := .node (.d (r.map fun p => κ p.1)) (r.map fun p => f p.2)
abbrev uDT {α β : Type} (κ : α → List Key) (f : β → Dt) (r : List (α × β)) : Dt := .node (.e (r.map fun p => κ p.1)) (r.map fun p => f p.2)
theorem obAt_ne {H : Hp} {s : Sh} {a b : Addr} {vs : List V} {od : Obj} {u : HO} (h : ObAt H s b vs) (ha : H a = some (.frz od u)) : b ≠ a := by
  rintro rfl
  cases s with
  | l => have h : H b = some (.lst vs) := h; rw [h] at ha; cases ha
  | t => have h : H b = some (.tup vs) := h; rw [h] at ha; cases ha
  | d ks => have h := h.1; rw [h] at ha; cases ha
  | e ks => have h := h.1; rw [h] at ha; cases ha
  | i C ns => obtain ⟨dx, h, _⟩ := h; rw [h] at ha; cases ha
theorem obAt_un {H : Hp} {s : Sh} {a b : Addr} {vs : List V} {od : Obj} {u x : HO} (h : ObAt H s b vs) (ha : H a = some (.frz od u)) : ObAt (upd H a x) s b vs :=
  ObAt.go (fun o e => by rw [upd_ne (obAt_ne h ha)]; exact e) h
/-! what is told of a heap in which a is locked holds behind the unlocking -/
mutual
theorem Rp.un {M M' : Addr → Prop} {H : Hp} {a : Addr} {od : Obj} {u x : HO} (ha : H a = some (.frz od u)) (g : ∀ b, b ≠ a → ¬ M b → ¬ M' b) : ∀ {d : Dt} {v : V}, Rp M H d v → Rp M' (upd H a x) d v
  | .sc w, v, h => by
    unfold Rp at h ⊢
    exact h
  | .node s ds, v, h => by
    unfold Rp at h ⊢
    obtain ⟨b, vs, e, n, o, r⟩ := h
    exact ⟨b, vs, e, g b (obAt_ne o ha) n, obAt_un o ha, RpL.un ha g r⟩
theorem RpL.un {M M' : Addr → Prop} {H : Hp} {a : Addr} {od : Obj} {u x : HO} (ha : H a = some (.frz od u)) (g : ∀ b, b ≠ a → ¬ M b → ¬ M' b) : ∀ {ds : List Dt} {vs : List V}, RpL M H ds vs → RpL M' (upd H a x) ds vs
  | [], vs, h => by
    unfold RpL at h ⊢
    exact h
  | d :: ds, vs, h => by
    unfold RpL at h ⊢
    obtain ⟨v, r, e, p, t⟩ := h
    exact ⟨v, r, e, Rp.un ha g p, RpL.un ha g t⟩
end
mutual
theorem Ow.un {M M' : Addr → Prop} {H : Hp} {a : Addr} {od : Obj} {u x : HO} (ha : H a = some (.frz od u)) (g : ∀ b, b ≠ a → ¬ M b → ¬ M' b) : ∀ {d : Dt} {p : Pat} {v : V} {bs : List Addr}, Ow M H d p v bs → Ow M' (upd H a x) d p v bs
  | .sc w, p, v, bs, h => by
    unfold Ow at h ⊢
    exact h
  | .node s ds, .sh, v, bs, h => by
    rw [ow_sh] at h ⊢
    exact ⟨h.1, h.2.un ha g⟩
  | .node s ds, .ow p, v, bs, h => by
    unfold Ow at h ⊢
    obtain ⟨b, vs, cs, e, o, rfl, f⟩ := h
    exact ⟨b, vs, cs, e, obAt_un o ha, rfl, OwF.un ha g f⟩
  | .node s ds, .fs ps, v, bs, h => by
    unfold Ow at h ⊢
    obtain ⟨b, vs, cs, e, o, rfl, f⟩ := h
    exact ⟨b, vs, cs, e, obAt_un o ha, rfl, OwF.un ha g f⟩
theorem OwF.un {M M' : Addr → Prop} {H : Hp} {a : Addr} {od : Obj} {u x : HO} (ha : H a = some (.frz od u)) (g : ∀ b, b ≠ a → ¬ M b → ¬ M' b) : ∀ {ds : List Dt} {ps : List Pat} {vs : List V} {bs : List Addr}, OwF M H ds ps vs bs → OwF M' (upd H a x) ds ps vs bs
  | [], ps, vs, bs, h => by
    unfold OwF at h ⊢
    exact h
  | d :: ds, ps, vs, bs, h => by
    unfold OwF at h ⊢
    obtain ⟨p, pr, v, r, b, c, e1, e2, rfl, h1, h2⟩ := h
    exact ⟨p, pr, v, r, b, c, e1, e2, rfl, Ow.un ha g h1, OwF.un ha g h2⟩
end
theorem OkL.un {M M' : Addr → Prop} {H : Hp} {a : Addr} {od : Obj} {u x : HO} (ha : H a = some (.frz od u)) (g : ∀ b, b ≠ a → ¬ M b → ¬ M' b) : ∀ {ρ : List Sl} {σ : List (Option V)} {as : List Addr}, OkL M H ρ σ as → OkL M' (upd H a x) ρ σ as
  | [], σ, as, h => h
  | .una :: ρ, σ, as, ⟨r, e, t⟩ => ⟨r, e, OkL.un ha g t⟩
  | .any :: ρ, σ, as, ⟨y, r, e, t⟩ => ⟨y, r, e, OkL.un ha g t⟩
  | .own d p :: ρ, σ, as, ⟨v, r, bs, cs, e, ea, o, t⟩ => ⟨v, r, bs, cs, e, ea, o.un ha g, OkL.un ha g t⟩
/-! ### the lock -/
/-- what is known while a is locked: H1, O1 as it was when the lock was laid -/
def ZL (Z : Hp → (Addr → Prop) → Prop) (a : Addr) (od : Obj) (u : HO) (H1 : Hp) (O1 : Addr → Prop) : Hp → (Addr → Prop) → Prop := fun H O => (¬ O a ∧ H a = some (.frz od u) ∧ Z (upd H a u) (fun b => O b ∨ b = a)) ∧ Lt H1 O1 H O
theorem ZL.mz {Z : Hp → (Addr → Prop) → Prop} {a : Addr} {od : Obj} {u : HO} {H1 : Hp} {O1 : Addr → Prop} (mz : ∀ H O H' O', Z H O → Lt H O H' O' → Z H' O') : ∀ H O H' O', ZL Z a od u H1 O1 H O → Lt H O H' O' → ZL Z a od u H1 O1 H' O' := by
  rintro H O H' O' ⟨⟨n, e, z⟩, l0⟩ l
  refine ⟨⟨fun q => ?_, l.1 a _ n e, mz _ _ _ _ z ⟨fun b o nb hb => ?_, fun b hb => ?_⟩⟩, l0.trans l⟩
  · rcases l.2 a q with q | q
    · exact n q
    · rw [q] at e; cases e
  · have hne : b ≠ a := fun q => nb (.inr q)
    rw [upd_ne hne] at hb ⊢
    exact l.1 b o (fun q => nb (.inl q)) hb
  · rcases hb with hb | hb
    · by_cases q : b = a
      · exact .inl (.inr q)
      · rcases l.2 b hb with q2 | q2
        · exact .inl (.inl q2)
        · exact .inr (by rw [upd_ne q]; exact q2)
    · exact .inl (.inr hb)
def ObU : Sh → List V → HO → Prop
  | .d ks, vs, u => u = .dK (ks.zip vs) ∧ ks.length = vs.length
  | .e ks, vs, u => u = .dT (ks.zip vs) ∧ ks.length = vs.length
  | _, _, _ => False
def Sh.isD : Sh → Bool
  | .d _ => true
  | .e _ => true
  | _ => false
theorem obU_at {H : Hp} {s : Sh} {a : Addr} {vs : List V} (hs : s.isD = true) (h : ObAt H s a vs) : ∃ u, H a = some u ∧ Mut (some u) ∧ ObU s vs u := by
  cases s with
  | l => cases hs
  | t => cases hs
  | i C ns => cases hs
  | d ks => exact ⟨_, h.1, trivial, rfl, h.2⟩
  | e ks => exact ⟨_, h.1, trivial, rfl, h.2⟩
theorem obU_to {H : Hp} {s : Sh} {a : Addr} {vs : List V} {u : HO} (h : ObU s vs u) (e : H a = some u) : ObAt H s a vs := by
  cases s with
  | l => exact h.elim
  | t => exact h.elim
  | i C ns => exact h.elim
  | d ks => obtain ⟨rfl, hl⟩ := h; exact ⟨e, hl⟩
  | e ks => obtain ⟨rfl, hl⟩ := h; exact ⟨e, hl⟩
section
variable {K : PySem.W.Frag} {F : Addr → Prop} {Z : Hp → (Addr → Prop) → Prop} {ρ : List Sl} {σ : L2.St} {H Hb : Hp} {M : Addr → Prop} {d : Dt} {p : Pat} {i j n : Nat} {te : TE} {s : Sh} {ds : List Dt} {α β : Type} {D : Ends} {tu tz : TS} {f : β → Dt}
/-- an owned dict is locked, and unlocked -/
theorem Ok.lock (ok : Ok F Z ρ σ H M) (hi : ρ[i]? = some (mu (.node s ds))) (hs : s.isD = true) : ∃ (a : Addr) (vs : List V) (u : HO), σ[i]? = some (some (.ref a)) ∧ H a = some u ∧ Mut (some u) ∧ ObU s vs u ∧ (M a ∧ ¬ F a) ∧
    ∀ od, Ok F (ZL Z a od u (upd H a (.frz od u)) (ownM (fun b => M b ∧ b ≠ a) F)) (ρ.set i (st (.sc (.ref a)))) σ (upd H a (.frz od u)) (fun b => M b ∧ b ≠ a) ∧ RpL (fun b => M b ∧ b ≠ a) (upd H a (.frz od u)) ds vs ∧
      ∀ ρ' σ' H' M', Ok F (ZL Z a od u (upd H a (.frz od u)) (ownM (fun b => M b ∧ b ≠ a) F)) ρ' σ' H' M' → ρ'[i]? = some (st (.sc (.ref a))) → H' a = some (.frz od u) ∧ ¬ M' a ∧ RpL M' H' ds vs ∧ Ok F Z (ρ'.set i (mu (.node s ds))) σ' (upd H' a u) (Mb M' [a]) := by
  obtain ⟨as, nd, own, sl⟩ := ok.sl
  obtain ⟨v, bs, cs, h1, h2, h3, h4⟩ := sl.out hi
  obtain ⟨a, vs, rfl, ob, rfl, r⟩ := ow_mu.mp h2
  obtain ⟨u, hu, mt, hob⟩ := obU_at hs ob
  have nd2 := List.nodup_append.mp (h4.nodup_iff.mpr nd)
  have ha := own a (h4.subset (List.mem_append_left _ (List.mem_singleton.mpr rfl)))
  refine ⟨a, vs, u, h1, hu, mt, hob, ha, fun od => ?_⟩
  have g : Go M H (fun b => M b ∧ b ≠ a) (upd H a (.frz od u)) := fun b o n e => by
    have hne : b ≠ a := fun z => n (by rw [z]; exact ha.1)
    exact ⟨by rw [upd_ne hne]; exact e, fun z => n z.1⟩
  have hi' : i < ρ.length := (List.getElem?_eq_some_iff.mp hi).1
  have sl' := h3.go g fun b hb o e => by
    rw [upd_ne (fun z => nd2.2.2 a (List.mem_singleton.mpr rfl) b hb z.symm)]
    exact e
  obtain ⟨as', k1, k2⟩ := OkL.back (d := .sc (.ref a)) (p := .sh) (bs := []) (by unfold Ow; exact ⟨rfl, rfl, rfl⟩) hi' sl' h1
  refine ⟨⟨⟨as', k2.nodup_iff.mpr nd2.2.1, fun b hb => ?_, k1⟩, fun b hb hn => ?_, fun b hb => ⟨ok.fr b hb, fun z => ha.2 (by rw [← z]; exact hb)⟩, ⟨⟨fun z => z.1.2 rfl, upd_same, ok.mz _ _ _ _ ok.z ⟨fun b o nb e => ?_, fun b hb => .inl ?_⟩⟩, Lt.refl _ _⟩, ZL.mz ok.mz⟩, r.go g, ?_⟩
  · have hc : b ∈ cs := k2.subset hb
    have := own b (h4.subset (List.mem_append_right _ hc))
    exact ⟨⟨this.1, fun z => nd2.2.2 a (List.mem_singleton.mpr rfl) b hc z.symm⟩, this.2⟩
  · rw [upd_ne hb.2] at hn
    exact ok.al b hb.1 hn
  · by_cases z : b = a
    · rw [z, upd_same]
      rw [z, hu] at e
      exact e
    · rw [upd_ne z, upd_ne z]
      exact e
  · rcases hb with hb | hb
    · exact ⟨hb.1.1, hb.2⟩
    · rw [hb]; exact ha
  · intro ρ' σ' H' M' ok' hi2
    obtain ⟨⟨z1, z2, z3⟩, z4⟩ := ok'.z
    have hM' : ¬ M' a := fun q => z1 ⟨q, ha.2⟩
    have g2 : Go M H M' H' := fun b o nb e => by
      have hne : b ≠ a := fun z => nb (by rw [z]; exact ha.1)
      have e1 : (upd H a (.frz od u)) b = some o := by rw [upd_ne hne]; exact e
      have nO : ¬ ownM (fun b => M b ∧ b ≠ a) F b := fun q => nb q.1.1
      refine ⟨z4.1 b o nO e1, fun q => ?_⟩
      by_cases hf : F b
      · exact nb (ok.fr b hf)
      · rcases z4.2 b ⟨q, hf⟩ with w | w
        · exact nO w
        · rw [e1] at w; cases w
    have hr := r.go g2
    refine ⟨z2, hM', hr, ?_⟩
    obtain ⟨as2, nd3, own2, sl2⟩ := ok'.sl
    have gg : ∀ b, b ≠ a → ¬ M' b → ¬ Mb M' [a] b := fun b hne nb q => by
      rcases q with q | q
      · exact nb q
      · exact hne (List.mem_singleton.mp q)
    obtain ⟨v2, b2, c2, q1, q2, q3, q4⟩ := sl2.out hi2
    unfold Ow at q2
    obtain ⟨_, rfl, rfl⟩ := q2
    have hi3 : i < ρ'.length := (List.getElem?_eq_some_iff.mp hi2).1
    have sl3 := q3.un (x := u) z2 gg
    obtain ⟨as3, w1, w2⟩ := OkL.back (d := .node s ds) (p := .ow .sh) (bs := [a]) (ow_mu.mpr ⟨a, vs, rfl, obU_to hob upd_same, rfl, hr.un z2 gg⟩) hi3 sl3 q1
    have hac : ∀ b ∈ c2, b ∈ as2 := fun b hb => q4.subset (by simpa using hb)
    refine ⟨⟨as3, ?_, fun b hb => ?_, w1⟩, fun b hb hn => ?_, fun b hb => .inl (ok'.fr b hb), ?_, ok.mz⟩
    · rw [w2.nodup_iff, List.nodup_append]
      have := q4.nodup_iff.mpr nd3
      refine ⟨by simp, by simpa using this, fun x hx y hy e => ?_⟩
      rw [List.mem_singleton.mp hx] at e
      exact hM' (by rw [e]; exact (own2 y (hac y hy)).1)
    · rcases List.mem_append.mp (w2.subset hb) with z | z
      · rw [List.mem_singleton.mp z]
        exact ⟨.inr (by simp), ha.2⟩
      · have := own2 b (hac b z)
        exact ⟨.inl this.1, this.2⟩
    · by_cases z : b = a
      · rw [z, upd_same] at hn; cases hn
      · rw [upd_ne z] at hn
        rcases hb with hb | hb
        · exact ok'.al b hb hn
        · exact z (List.mem_singleton.mp hb)
    · refine ok.mz _ _ _ _ z3 ⟨fun _ _ _ h => h, fun b hb => .inl ?_⟩
      rcases hb.1 with q | q
      · exact .inl ⟨q, hb.2⟩
      · exact .inr (List.mem_singleton.mp q)
/-- a return while a is locked -/
theorem RetP.lock {a : Addr} {od : Obj} {u : HO} {Q : VK} (h : RetP F Hb d p Q) (hn : Hb a = none) : RetP F (upd Hb a (.frz od u)) d p (fun v H' => H' a = some (.frz od u) ∧ Q v (upd H' a u)) := fun v bs H' e nd n w => by
  have ha : H' a = some (.frz od u) := e a _ upd_same
  refine ⟨ha, h v bs _ (fun b o hb => ?_) nd (fun b hb => ?_) (w.un ha fun b _ nb => nb)⟩
  · have hne : b ≠ a := fun z => by rw [z, hn] at hb; cases hb
    rw [upd_ne hne]
    exact e b o (by rw [upd_ne hne]; exact hb)
  · have := n b hb
    by_cases z : b = a
    · rw [z]; exact hn
    · rw [upd_ne z] at this; exact this
theorem ZL.zz {a : Addr} {od : Obj} {u : HO} {H1 : Hp} {O1 : Addr → Prop} (zz : ∀ H O, Z H O → Lt Hb Mo H O) (hn : Hb a = none) : ∀ H O, ZL Z a od u H1 O1 H O → Lt (upd Hb a (.frz od u)) Mo H O := by
  rintro H O ⟨⟨n, e, z⟩, _⟩
  have l := zz _ _ z
  refine ⟨fun b o nb hb => ?_, fun b hb => .inr ?_⟩
  · by_cases q : b = a
    · rw [q, upd_same] at hb
      rw [q, e]
      exact hb
    · rw [upd_ne q] at hb
      have := l.1 b o (fun z => z) hb
      rwa [upd_ne q] at this
  · have q : b ≠ a := fun q => n (by rw [← q]; exact hb)
    rw [upd_ne q]
    rcases l.2 b (.inl hb) with w | w
    · exact w.elim
    · exact w
/-- a locked dict's keys; its items -/
theorem j_keysL {κ : α → Key} {r : List (α × β)} {vs : List V} {a : Addr} {od : Obj} (hv : σ[i]? = some (some (.ref a))) (ha : H a = some (.frz od (.dK ((r.map fun p => κ p.1).zip vs)))) (hl : r.length = vs.length) (nM : ¬ M a) :
    EvJ GoM M (iKeys (tVar i)) (gName j) [j] σ H r (fun x ρ => ρ.set j (st (.sc (kV (κ x.1))))) := fun H1 e R q => by
  have hz : ((r.map fun p => κ p.1).zip vs).length = r.length := by rw [List.length_zip, List.length_map]; omega
  refine ⟨.ref a, hv, a, od, rfl, .inl ⟨_, e _ _ ha, q (Itk a od _) H1 (fun H M => ¬ M a ∧ H a = some (.frz od (.dK ((r.map fun p => κ p.1).zip vs)))) (Ex.refl _) ⟨nM, e _ _ ha⟩ (fun Ha Ma Hb Mb g ⟨g1, g2⟩ => ⟨(g a _ g1 g2).2, (g a _ g1 g2).1⟩) ⟨?_, ?_, ?_⟩⟩⟩
  · intro n H M hn ⟨g1, g2⟩
    exact ⟨g2, by rw [hz]; exact hn⟩
  · intro H M ⟨g1, g2⟩
    exact ⟨g2, by rw [hz]; exact Nat.le_refl _⟩
  · intro n H M x H' σ K' hn ⟨g1, g2⟩ y k
    obtain ⟨e1, k0, v, hk, rfl⟩ := y
    subst e1
    rw [List.getElem?_zip_eq_some, List.getElem?_map, List.getElem?_eq_getElem hn] at hk
    obtain rfl := Option.some.inj hk.1
    exact k _ H' (Ex.refl _) (by simp) (fun _ h => set_at h) fun F Z ρ ok => ok.setR (Ex.refl _) (by unfold Rp; rfl)
theorem j_itemsL {κ : α → Key} {r : List (α × β)} {vs : List V} {a : Addr} {od : Obj} {g1 g2 : TG} {js1 js2 : List Nat} {u1 : α → List Sl → List Sl} {u2 : β → List Sl → List Sl} (hv : σ[i]? = some (some (.ref a))) (ha : H a = some (.frz od (.dK ((r.map fun p => κ p.1).zip vs)))) (hr : RpL M H (r.map fun (y : α × β) => f y.2) vs) (nM : ¬ M a)
    (t1 : ∀ x, Tgt (.sc (kV (κ x))) g1 js1 (u1 x)) (t2 : ∀ x, Tgt (f x) g2 js2 (u2 x)) :
    EvJ GoM M (iItems (tVar i)) (gTup K 2 (gCons g1 (gCons g2 gNil))) (js1 ++ js2) σ H r (fun x ρ => u2 x.2 (u1 x.1 ρ)) := fun H1 e R q => by
  have hl := hr.len
  rw [List.length_map] at hl
  have hz : ((r.map fun p => κ p.1).zip vs).length = r.length := by rw [List.length_zip, List.length_map]; omega
  refine ⟨.ref a, hv, a, od, _, rfl, e _ _ ha, q (Iti a od _) H1 (fun H M => ¬ M a ∧ H a = some (.frz od (.dK ((r.map fun p => κ p.1).zip vs))) ∧ RpL M H (r.map fun (y : α × β) => f y.2) vs) (Ex.refl _) ⟨nM, e _ _ ha, hr.go (Go.ex e)⟩ (fun Ha Ma Hb Mb g ⟨g1, g2, g3⟩ => ⟨(g a _ g1 g2).2, (g a _ g1 g2).1, g3.go g⟩) ⟨?_, ?_, ?_⟩⟩
  · intro n H M hn ⟨g1, g2, g3⟩
    exact ⟨g2, by rw [hz]; exact hn⟩
  · intro H M ⟨g1, g2, g3⟩
    exact ⟨g2, by rw [hz]; exact Nat.le_refl _⟩
  · intro n H M x H' σ K' hn ⟨g1, g2, g3⟩ y k
    obtain ⟨T, k0, v, hk, rfl, hT, rfl⟩ := y
    rw [List.getElem?_zip_eq_some, List.getElem?_map, List.getElem?_eq_getElem hn] at hk
    obtain ⟨hk1, hk2⟩ := hk
    obtain rfl := Option.some.inj hk1
    have ex : Ex H (upd H T (.tup [kV (κ r[n].1), v])) := Ex.new hT
    obtain ⟨w, hw, hp⟩ := (g3.go (Go.ex (M := M) ex)).at n (f r[n].2) (by simp [hn])
    rw [hk2] at hw
    obtain rfl := Option.some.inj hw
    refine ⟨T, _, rfl, st_of upd_same, rfl, _, _, rfl, t1 r[n].1 _ σ _ M _ (by unfold Rp; rfl) fun σ1 l1 s1 k1 => ⟨v, [], rfl, t2 r[n].2 v σ1 _ M _ hp fun σ2 l2 s2 k2 => ⟨rfl, k σ2 _ ex (l2.trans l1) (fun i hi => ?_) fun F Z ρ ok => k2 F Z _ (k1 F Z _ (ok.ex ex))⟩⟩⟩
    rw [s2 i (fun z => hi (List.mem_append_right _ z)), s1 i (fun z => hi (List.mem_append_left _ z))]
/-- for x in d: an owned dict -/
theorem c_keys {κ : α → Key} {r : List (α × β)} (P : Addr → Nat → List Sl → Prop) (ok : Ok F Z ρ σ H M) (hi : ρ[i]? = some (mu (uDK κ f r))) (zz : ∀ H O, Z H O → Lt Hb Mo H O)
    (h0 : ∀ a, P a 0 (ρ.set i (st (.sc (.ref a))))) (hP : ∀ a n ρ', P a n ρ' → ρ'[i]? = some (st (.sc (.ref a))))
    (turn : ∀ a Z' Hb' R' B', (∀ H O, Z' H O → Lt Hb' Mo H O) → (∀ d p, RetP F Hb d p D.rt → RetP F Hb' d p R') → ∀ n x ρ' M' σ' H', r[n]? = some x → P a n ρ' → Ok F Z' (ρ'.set j (st (.sc (kV (κ x.1))))) σ' H' M' → tu { nx := Nx F Z' (P a (n + 1)), rt := R', bk := B', ct := Nx F Z' (P a (n + 1)) } σ' H')
    (done : ∀ a ρ' M' σ' H', P a r.length ρ' → Ok F Z (ρ'.set i (mu (uDK κ f r))) σ' H' M' → D.nx σ' H') : tLock (tFor (iKeys (tVar i)) (gName j) tu) D σ H := by
  obtain ⟨a, vs, u, hv, hu, mt, hob, ha, L⟩ := ok.lock hi rfl
  refine ⟨a, u, hu, mt, fun od => ?_⟩
  obtain ⟨ok1, r1, un⟩ := L od
  obtain ⟨rfl, hl⟩ := hob
  rw [List.length_map] at hl
  have hn : Hb a = none := (zz _ _ ok.z).own_new ha
  refine c_for (P a) ok1 (j_keysL hv upd_same hl (fun z => z.2 rfl)) (h0 a) ?_ ?_
  · intro Z' zz' n x ρ' M' σ' H' hx hp ok'
    exact turn a Z' _ _ _ (fun H O z => ZL.zz zz hn _ _ (zz' _ _ z)) (fun d p k => k.lock hn) n x ρ' M' σ' H' hx hp ok'
  · intro ρ' M' σ' H' hp ok'
    obtain ⟨e1, _, _, ok2⟩ := un _ _ _ _ ok' (hP _ _ _ hp)
    exact ⟨e1, done a _ _ _ _ hp ok2⟩
theorem b_keys {κ : α → Key} {r : List (α × β)} (P : Addr → Nat → List Sl → Prop) (ok : Ok F Z ρ σ H M) (hi : ρ[i]? = some (mu (uDK κ f r))) (zz : ∀ H O, Z H O → Lt Hb Mo H O)
    (h0 : ∀ a, P a 0 (ρ.set i (st (.sc (.ref a))))) (hP : ∀ a n ρ', P a n ρ' → ρ'[i]? = some (st (.sc (.ref a))))
    (turn : ∀ a Z' Hb' R' B', (∀ H O, Z' H O → Lt Hb' Mo H O) → (∀ d p, RetP F Hb d p D.rt → RetP F Hb' d p R') → ∀ n x ρ' M' σ' H', r[n]? = some x → P a n ρ' → Ok F Z' (ρ'.set j (st (.sc (kV (κ x.1))))) σ' H' M' → tu { nx := Nx F Z' (P a (n + 1)), rt := R', bk := B', ct := Nx F Z' (P a (n + 1)) } σ' H')
    (done : ∀ a ρ' M' σ' H', P a r.length ρ' → Ok F Z (ρ'.set i (mu (uDK κ f r))) σ' H' M' → tz D σ' H') : tSeq (tLock (tFor (iKeys (tVar i)) (gName j) tu)) tz D σ H := c_keys (D := { D with nx := tz D }) P ok hi zz h0 hP turn done
/-- an expression while an owned dict is locked -/
theorem p_lockO (ok : Ok F Z ρ σ H M) (hi : ρ[i]? = some (mu (.node s ds))) (hs : s.isD = true)
    (h : ∀ a vs u od Z' M' H', σ[i]? = some (some (.ref a)) → H' a = some (.frz od u) → ObU s vs u → ¬ M' a → RpL M' H' ds vs → Ok F Z' (ρ.set i (st (.sc (.ref a)))) σ H' M' → EvP M' te σ H' d p) : EvP M (tLockE te) σ H d p := fun H0 e Q q => by
  have ok0 := ok.ex e
  obtain ⟨a, vs, u, hv, hu, mt, hob, ha, L⟩ := ok0.lock hi hs
  refine ⟨a, u, hu, mt, fun od => ?_⟩
  obtain ⟨ok1, r1, un⟩ := L od
  refine h a vs u od _ _ _ hv upd_same hob (fun z => z.2 rfl) r1 ok1 _ (Ex.refl _) _ fun v bs H2 e2 nd nn w => ?_
  have h2 : H2 a = some (.frz od u) := e2 _ _ upd_same
  refine ⟨h2, q v bs _ (fun b o hb => ?_) nd (fun b hb => ?_) (w.un h2 fun b hne nb z => nb ?_)⟩
  · by_cases z : b = a
    · rw [z, upd_same]
      rw [z, hu] at hb
      exact hb
    · rw [upd_ne z]
      exact e2 b o (by rw [upd_ne z]; exact hb)
  · have := nn b hb
    by_cases z : b = a
    · rw [z, upd_same] at this; cases this
    · rw [upd_ne z] at this; exact this
  · rcases z with z | z
    · exact .inl ⟨z, hne⟩
    · exact .inr z
end
end Ho

/-! list(d.values()); dicts of tuple keys: items, in, [], put; parts that stand in dicts -/
namespace Ho
open PySem PySem.Spec PyProof.Rows L2 Evl
/-! ### list(e.values()) -/
def rValsL : V → Hp → VK → Prop := fun x H Q => ∃ (d : Addr) (kvs : List (Key × V)), x = .ref d ∧ H d = some (.dK kvs) ∧ ∀ p, H p = none → Q (.ref p) (upd H p (.lst (kvs.map (·.2))))
def tListVals (te : TE) : TE := fun σ H Q => te σ H fun x H1 => rValsL x H1 Q
theorem vals_snd {ι : Type} {l : List (ι × V)} {m : List (ι × Value)} (h : KV l m) : Vals (l.map (·.2)) (m.map (·.2)) := by
  unfold KV at h
  induction h with
  | nil => exact .nil
  | cons r t ih => exact .cons r.2 ih
section
variable {X : Cx} {e : Expr} {te : TE} {p ap cp po : Pos}
theorem pe_listVals (hc : X.calm = true) (he : PE X e te) (hg : Gl X "list") (hm : X.mg "list" = none) (hv : bootBuiltins "list" = some (.type "list")) (h1 : attributeBase e "values" X.env (eval e X.env) = eval e X.env := by rfl) (h2 : (ap.endLine == cp.line) = true := by rfl)
    (h3 : starEach [.Call (.Attribute e "values" ap) [] [] cp] X.env = (false, eval (.Call (.Attribute e "values" ap) [] [] cp) X.env) :: starEach [] X.env := by rfl) :
    PE X (.Call (.Name "list" p) [.Call (.Attribute e "values" ap) [] [] cp] [] po) (tListVals te) := .mk fun ps s0 σ0 H0 Q0 J0 w0 => wpAny_Call_Name_kw (ld_blt J0 hg hm hv (PyProof.Rows.callWith_type1 (by
  rw [h3]
  show wpAny _ _ (spliced ((false, eval (.Call (.Attribute e "values" ap) [] [] cp) X.env) :: backTo po (starEach [] X.env))) _ _ s0
  refine Calls.spliced_cons (wpAny_Call_method (T := "dict") (id := "dict.values") h1 rfl h2 F.plainAttrs_dict F.slot_dict_values F.type_dict_values (thn (he.run ps s0 σ0 H0 _ J0 w0) fun u s1 ⟨x, G, J1, rx, d, kvs, ex, hd, q⟩ => ?_))
  subst ex
  cases rx
  obtain ⟨hz, lo, vs, kv, hdo⟩ := J1.hok d _ hd
  obtain ⟨ep, hat⟩ := hdo.dictAt
  have lk := KV.length kv
  refine ⟨hdo.typeIs, hdo.mapOf.noDict, method_meetsIn F.slot_dict_values F.entry_dict_values rfl (PySem.evalArgs_none ⟨rfl, hdo.typeIs, F.args_dict_values_1 _, _, meets_dict_values (mixKind X.prog X.w) d lo, ⟨vs, hdo⟩, Calls.spliced_nil ?_⟩)⟩
  refine PySem.W.kdl_call (PySem.W.kdl_values (knd := mixKind X.prog X.w) (kvs := vs) (ep := ep)) (J1.ok.hd hc) ⟨⟨_, Heap.get?_push_size _ rfl, rfl, rfl⟩, hat.push _⟩ (by omega) fun h' tk acc c kk hS hA => ?_
  have ea := PySem.W.kdl_vals_eq acc.toList (by rw [Array.length_toList]; exact hA.1) fun j v ej => hA.2 j v (by rw [← Array.getElem?_toList]; exact ej)
  have hnew : s1.heap.objs.size < (s1.heap.push { cls := .type "dict_values", data := .fields #[.ref d] }).objs.size := Heap.lt_size (Heap.get?_push_size _ rfl)
  have J2 : Inv X ps σ0 G { s1 with heap := s1.heap.push { cls := .type "dict_values", data := .fields #[.ref d] } } := J1.kept (t' := s1.toks) fun b ob y => Heap.get?_push_of_some _ y
  have nobj : ObjOk X.prog X.w (upd G (s1.heap.push { cls := .type "dict_values", data := .fields #[.ref d] }).objs.size (.lst (kvs.map (·.2)))) h' (s1.heap.push { cls := .type "dict_values", data := .fields #[.ref d] }).objs.size (.lst (kvs.map (·.2))) :=
    ⟨by rw [List.length_map]; omega, acc.toList, c, by rw [ea]; exact vals_snd kv, by rw [Array.toArray_toList]; exact hS⟩
  exact ⟨.ref _, _, J2.laid (t' := tk) kk (Nat.le_refl _) nobj, rfl, q _ (J2.hok.fresh (Nat.le_refl _))⟩) h3 rfl))
end
section
variable {K : PySem.W.Frag} {F : Addr → Prop} {Z : Hp → (Addr → Prop) → Prop} {ρ : List Sl} {σ : L2.St} {H Hb : Hp} {M : Addr → Prop} {d d0 : Dt} {p p0 : Pat} {i j n : Nat} {to ta tb te td : TE} {s : Sh} {ds : List Dt} {α β : Type} {D : Ends} {tu tz : TS} {f : β → Dt} {W : Dt → Dt}
theorem p_listVals {κ : α → Key} {r : List (α × β)} (h : EvN M te σ H (.d (r.map fun p => κ p.1)) (r.map fun p => f p.2)) : EvP M (tListVals te) σ H (uL f (r.map (·.2))) (.ow .sh) := fun H1 e Q q =>
  h H1 e _ fun v H2 e2 ⟨a, vs, ev, ⟨ho, hl⟩, hr⟩ => ⟨a, _, ev, ho, fun p hp => q _ [p] _ (e2.trans (Ex.new hp)) (by simp) (by simpa using fresh_back e2 hp) (ow_mu.mpr ⟨p, vs, rfl, by
    show upd _ _ _ _ = _
    rw [upd_same]
    have : ((r.map fun p => κ p.1).zip vs).map (·.2) = vs := List.map_snd_zip (by omega)
    rw [this], rfl, by
    rw [List.map_map]
    exact hr.go (fun b o n eb => ⟨Ex.new hp _ _ eb, fun z => by
      rcases z with z | z
      · exact n z
      · rw [List.mem_singleton.mp z, hp] at eb; cases eb⟩)⟩)⟩
end
/-! ### for (..), x in d.items(): tuple keys -/
def ItiT (d : Addr) (o : Obj) (kvs : List (List Key × V)) : It :=
  ⟨fun i H => H d = some (.frz o (.dT kvs)) ∧ i < kvs.length, fun i H x H' => ∃ (T q : Addr) (k : List Key) (v : V), kvs[i]? = some (k, v) ∧ x = .ref T ∧ H q = some (.tup (k.map kV)) ∧ H T = none ∧ H' = upd H T (.tup [.ref q, v]), fun i H => H d = some (.frz o (.dT kvs)) ∧ kvs.length ≤ i⟩
def iItemsT (td : TE) : TI := fun σ H R => td σ H fun x H1 => ∃ d o kvs, x = .ref d ∧ H1 d = some (.frz o (.dT kvs)) ∧ R (ItiT d o kvs) H1
theorem frzV {X : Cx} {ps : List (Addr × Obj)} {σ : L2.St} {H : Hp} {s : Shared} {d : Addr} {o : Obj} {kvs : List (List Key × V)} (J : Inv X ps σ H s) (h : H d = some (.frz o (.dT kvs))) :
    ∃ (es : Array DictEntry) (ep : Nat), o.data = .dict es ep ∧ es.size = kvs.length ∧ s.heap.DictRaw d es ep ∧ ∀ (i : Nat) (k : List Key) (v : V), kvs[i]? = some (k, v) → ∃ (hi : i < es.size) (q : Addr), es[i].key = .ref q ∧ H q = some (.tup (k.map kV)) ∧ RelV v es[i].val := by
  obtain ⟨e0, z, lo, xs, pr, o2, es, ep, e1, hx, hdt, he, _⟩ := J.hok d _ h
  rw [e0] at e1
  cases e1
  have l1 : es.size = xs.length := size_of_entries he
  have l2 : kvs.length = xs.length := Paired.length pr
  refine ⟨es, ep, hdt, by omega, ⟨o, e0, hx, hdt⟩, fun i k v e => ?_⟩
  obtain ⟨b, hb, w1, w2, w3⟩ := paired_get pr e
  have q := entry_at he i
  rw [hb] at q
  obtain ⟨hi, q⟩ := Array.getElem?_eq_some_iff.mp q
  refine ⟨hi, b.2.1, by rw [q]; rfl, w2, by rw [q]; exact w3⟩
section
variable {P : Program} {w : World} {K : PySem.W.Frag} {d : Addr} {o : Obj} {es : Array DictEntry} {ep : Nat}
theorem turn_itemsT {kvs : List (List Key × V)} {xs : List Expr} {m : Nat} {tp : Pos} (it : Addr) (hod : o.data = .dict es ep) :
    Turn P w K (.Tuple xs m tp) (ItiT d o kvs) [it] it (fun i h => ∃ ok ov, IsItemIter h it d i kvs.length ep ok ov) where
  mem := List.mem_cons_self
  obj := fun i h st b hb => by
    obtain ⟨ok, ov, e⟩ := st
    rw [List.mem_singleton.mp hb]
    exact ⟨_, e, fun v z => nomatch z⟩
  keep := fun i h h' ⟨_, _, e⟩ k => ⟨_, _, k it List.mem_cons_self _ e⟩
  item := by
    rintro X rfl rfl rfl hc i ps s σ H E J hf ⟨ok, ov, he⟩ ⟨hd, hi⟩
    obtain ⟨es2, ep2, h1, hsz, raw, ent⟩ := frzV J hd
    obtain ⟨rfl, rfl⟩ := dict_ep hod h1
    obtain ⟨⟨k, v⟩, hkv⟩ : ∃ y, kvs[i]? = some y := ⟨_, List.getElem?_eq_getElem hi⟩
    obtain ⟨hie, q, ek, hq, rv⟩ := ent i k v hkv
    rw [← hsz] at he
    have hlt : it < s.heap.objs.size := Heap.lt_size he
    refine wpAny_pyNext_items_item_raw he raw hie fun g1 ho hT hz hk => ⟨_, rfl, wpAny_letOwnedTupleGo_items (s := { s with heap := g1 }) ho fun g2 he2 sb => ?_⟩
    have hT2 : g2.get? s.heap.objs.size = some { cls := .type "tuple", data := .seq #[es2[i].key, es2[i].val] } := (sb.2 _ (Nat.ne_of_gt hlt)).trans hT
    have nobj : ObjOk X.prog X.w (upd H s.heap.objs.size (.tup [.ref q, v])) g2 s.heap.objs.size (.tup [.ref q, v]) :=
      ⟨by show 2 ≤ sizeLine; decide, [es2[i].key, es2[i].val], .cons (show RelV (.ref q) _ from by rw [ek]; rfl) (.cons rv .nil), ⟨_, hT2, rfl, _, rfl⟩⟩
    have J1 := J.turnedNew (t' := s.toks) (ch := [it]) (h' := g2) (T := s.heap.objs.size) (fun b ob hb e => (sb.2 b (by simpa using hb)).trans (hk b ob (by simpa using hb) e)) hf (Nat.le_refl _) nobj
    refine ⟨.ref s.heap.objs.size, _, J1, rfl, ⟨_, q, k, v, hkv, rfl, hq, J.hok.fresh (Nat.le_refl _), rfl⟩, ⟨_, _, by rw [← hsz]; exact he2⟩, fun b hb => ?_⟩
    rw [List.mem_singleton.mp hb, upd_ne (Nat.ne_of_lt hlt)]
    exact (hf it List.mem_cons_self).1
  done := by
    rintro X rfl rfl rfl hc i ps s σ H E J hf ⟨ok, ov, he⟩ ⟨hd, hi⟩
    obtain ⟨f0, f1, f2, f3, f4, f5⟩ := hf it List.mem_cons_self
    obtain ⟨es2, ep2, h1, hsz, raw, ent⟩ := frzV J hd
    obtain ⟨rfl, rfl⟩ := dict_ep hod h1
    rw [← hsz] at he hi
    exact wpAny_pyNext_items_end_raw (J.ok.hd hc) he raw hi fun g eb => ⟨rfl, J.turned (t' := s.toks) (fun b ob hb e => eb b ob hb e) f0 f1 f3 f4 f5⟩
  self := fun A i s Q E ⟨_, _, e⟩ h => PySem.W.kcp_self e h
end
theorem pi_itemsT {X : Cx} {e : Expr} {td : TE} {ap cp tp : Pos} {xs : List Expr} {m : Nat} (he : PE X e td) (h1 : attributeBase e "items" X.env (eval e X.env) = eval e X.env := by rfl) (h2 : (ap.endLine == cp.line) = true := by rfl) :
    PI X (.Tuple xs m tp) (.Call (.Attribute e "items" ap) [] [] cp) (iItemsT td) := .mk fun ps s0 σ0 H0 R0 J0 w0 => by
  refine wpAny_Call_method (T := "dict") (id := "dict.items") h1 rfl h2 F.plainAttrs_dict F.slot_dict_items F.type_dict_items (thn (he.run ps s0 σ0 H0 _ J0 w0) fun u s1 ⟨x, G, J1, rx, d, o, kvs, ex, hd, q⟩ => ?_)
  subst ex
  cases rx
  obtain ⟨es, ep, hdt, hsz, raw, ent⟩ := frzV J1 hd
  obtain ⟨_, _, lo, _⟩ := J1.hok d _ hd
  have nd : PySem.Heap.DictRaw s1.heap d es ep := raw
  obtain ⟨o1, e1, x1, _⟩ := id raw
  refine ⟨raw.typeIs, fun a ea => by cases ea; exact ⟨o1, e1, x1.2.1⟩, ?_⟩
  have J2 : Inv X ps σ0 G { s1 with heap := s1.heap.push { cls := .type "dict_items", data := .fields #[.ref d] } } := J1.kept (t' := s1.toks) fun b ob y => Heap.get?_push_of_some _ y
  refine method_meetsIn F.slot_dict_items F.entry_dict_items rfl (PySem.evalArgs_none ⟨rfl, raw.typeIs, F.args_dict_items_1 _, _, meets_dict_items_raw d lo, ⟨es, ep, raw⟩, ?_⟩)
  refine wpAny_pyIter_items_raw (d := d) ⟨_, Heap.get?_push_size _ rfl, rfl, rfl⟩ (raw.at fun o e => Heap.get?_push_of_some _ e) (pi_one (tk := s1.toks) J2 _ (turn_itemsT _ hdt) ⟨.none, .none, ?_⟩ q)
  rw [← hsz]
  exact Heap.get?_push_size _ rfl
/-! targets of tuples that are not known to be shared -/
def TgtN (s : Sh) (ds : List Dt) (g : TG) (js : List Nat) (u : List Sl → List Sl) : Prop := ∀ (v : V) (σ : L2.St) (H : Hp) (M : Addr → Prop) (K' : L2.St → Hp → Prop), isN M s ds v H →
  (∀ σ'', σ''.length = σ.length → (∀ k, k ∉ js → σ''[k]? = σ[k]?) → (∀ F Z ρ, Ok F Z ρ σ H M → Ok F Z (u ρ) σ'' H M) → K' σ'' H) → g v σ H K'
theorem tgN_2 {K : PySem.W.Frag} {d1 d2 : Dt} {g1 g2 : TG} {js1 js2 : List Nat} {u1 u2 : List Sl → List Sl} (t1 : Tgt d1 g1 js1 u1) (t2 : Tgt d2 g2 js2 u2) : TgtN .t [d1, d2] (gTup K 2 (gCons g1 (gCons g2 gNil))) (js1 ++ js2) (fun ρ => u2 (u1 ρ)) := fun v σ H M K' r k => by
  obtain ⟨a, vs, rfl, o, r⟩ := r
  simp only [RpL] at r
  obtain ⟨v1, r1, rfl, h1, v2, r2, rfl, h2, rfl⟩ := r
  have o : H a = some (.tup [v1, v2]) := o
  refine ⟨a, [v1, v2], rfl, st_of o, rfl, v1, [v2], rfl, t1 v1 σ H M _ h1 fun σ1 l1 s1 k1 => ⟨v2, [], rfl, t2 v2 σ1 H M _ h2 fun σ2 l2 s2 k2 => ⟨rfl, k σ2 (l2.trans l1) (fun i hi => ?_) fun F Z ρ ok => k2 F Z _ (k1 F Z ρ ok)⟩⟩⟩
  rw [s2 i (fun z => hi (List.mem_append_right _ z)), s1 i (fun z => hi (List.mem_append_left _ z))]
section
variable {K : PySem.W.Frag} {F : Addr → Prop} {Z : Hp → (Addr → Prop) → Prop} {ρ : List Sl} {σ : L2.St} {H Hb : Hp} {M : Addr → Prop} {d d0 : Dt} {p p0 : Pat} {i j n : Nat} {to ta tb te td : TE} {s : Sh} {ds : List Dt} {α β : Type} {D : Ends} {tu tz : TS} {f : β → Dt} {W : Dt → Dt}
abbrev kD (k : List Key) : List Dt := k.map fun x => .sc (kV x)
theorem j_itemsTL {κ : α → List Key} {r : List (α × β)} {vs : List V} {a : Addr} {od : Obj} {g1 g2 : TG} {js1 js2 : List Nat} {u1 : α → List Sl → List Sl} {u2 : β → List Sl → List Sl} (hv : σ[i]? = some (some (.ref a))) (ha : H a = some (.frz od (.dT ((r.map fun p => κ p.1).zip vs)))) (hr : RpL M H (r.map fun (y : α × β) => f y.2) vs) (nM : ¬ M a)
    (t1 : ∀ x, TgtN .t (kD (κ x)) g1 js1 (u1 x)) (t2 : ∀ x, Tgt (f x) g2 js2 (u2 x)) :
    EvJ GoM M (iItemsT (tVar i)) (gTup K 2 (gCons g1 (gCons g2 gNil))) (js1 ++ js2) σ H r (fun x ρ => u2 x.2 (u1 x.1 ρ)) := fun H1 e R q => by
  have hl := hr.len
  rw [List.length_map] at hl
  have hz : ((r.map fun p => κ p.1).zip vs).length = r.length := by rw [List.length_zip, List.length_map]; omega
  refine ⟨.ref a, hv, a, od, _, rfl, e _ _ ha, q (ItiT a od _) H1 (fun H M => ¬ M a ∧ H a = some (.frz od (.dT ((r.map fun p => κ p.1).zip vs))) ∧ RpL M H (r.map fun (y : α × β) => f y.2) vs) (Ex.refl _) ⟨nM, e _ _ ha, hr.go (Go.ex e)⟩ (fun Ha Ma Hb Mb g ⟨g1, g2, g3⟩ => ⟨(g a _ g1 g2).2, (g a _ g1 g2).1, g3.go g⟩) ⟨?_, ?_, ?_⟩⟩
  · intro n H M hn ⟨g1, g2, g3⟩
    exact ⟨g2, by rw [hz]; exact hn⟩
  · intro H M ⟨g1, g2, g3⟩
    exact ⟨g2, by rw [hz]; exact Nat.le_refl _⟩
  · intro n H M x H' σ K' hn ⟨g1, g2, g3⟩ y k
    obtain ⟨T, qa, k0, v, hk, rfl, hqa, hT, rfl⟩ := y
    rw [List.getElem?_zip_eq_some, List.getElem?_map, List.getElem?_eq_getElem hn] at hk
    obtain ⟨hk1, hk2⟩ := hk
    obtain rfl := Option.some.inj hk1
    have ex : Ex H (upd H T (.tup [.ref qa, v])) := Ex.new hT
    obtain ⟨w, hw, hp⟩ := (g3.go (Go.ex (M := M) ex)).at n (f r[n].2) (by simp [hn])
    rw [hk2] at hw
    obtain rfl := Option.some.inj hw
    refine ⟨T, _, rfl, st_of upd_same, rfl, _, _, rfl, t1 r[n].1 _ σ _ M _ ⟨qa, _, rfl, ex _ _ hqa, rpL_sc.mpr rfl⟩ fun σ1 l1 s1 k1 => ⟨v, [], rfl, t2 r[n].2 v σ1 _ M _ hp fun σ2 l2 s2 k2 => ⟨rfl, k σ2 _ ex (l2.trans l1) (fun i hi => ?_) fun F Z ρ ok => k2 F Z _ (k1 F Z _ (ok.ex ex))⟩⟩⟩
    rw [s2 i (fun z => hi (List.mem_append_right _ z)), s1 i (fun z => hi (List.mem_append_left _ z))]
/-! ### dicts whose keys are tuples: the key given as a tuple that stands -/
end
section
variable {α β : Type} [DecidableEq α] {κ : α → List Key} {f : β → Dt} {M : Addr → Prop} {H : Hp}
theorem valT (hκ : ∀ a b, κ a = κ b → a = b) {k : α} : ∀ {r : List (α × β)} {vs : List V}, RpL M H (r.map fun p => f p.2) vs → match lookG r k with
    | none => valV ((r.map fun p => κ p.1).zip vs) (κ k) = none
    | some b => ∃ v, valV ((r.map fun p => κ p.1).zip vs) (κ k) = some v ∧ Rp M H (f b) v
  | [], vs, h => rfl
  | p :: r, vs, h => by
    rw [List.map_cons] at h
    unfold RpL at h
    obtain ⟨v, w, rfl, h1, h2⟩ := h
    rw [List.map_cons, List.zip_cons_cons, lookG_cons]
    by_cases e : p.1 = k
    · rw [if_pos e]
      exact ⟨v, valV_pos (by rw [e]), h1⟩
    · rw [if_neg e, valV_neg (fun z => e (hκ _ _ z))]
      exact valT hκ h2
theorem valT_none (hκ : ∀ a b, κ a = κ b → a = b) {k : α} {r : List (α × β)} {vs : List V} (h : RpL M H (r.map fun p => f p.2) vs) (hn : lookG r k = none) : valV ((r.map fun p => κ p.1).zip vs) (κ k) = none := by
  have := valT hκ (k := k) h
  rw [hn] at this
  exact this
theorem valT_some (hκ : ∀ a b, κ a = κ b → a = b) {k : α} {b : β} {r : List (α × β)} {vs : List V} (h : RpL M H (r.map fun p => f p.2) vs) (hn : lookG r k = some b) : ∃ v, valV ((r.map fun p => κ p.1).zip vs) (κ k) = some v ∧ Rp M H (f b) v := by
  have := valT hκ (k := k) h
  rw [hn] at this
  exact this
theorem valT_is (hκ : ∀ a b, κ a = κ b → a = b) {k : α} {r : List (α × β)} {vs : List V} (h : RpL M H (r.map fun p => f p.2) vs) : (valV ((r.map fun p => κ p.1).zip vs) (κ k)).isSome = (lookG r k).isSome := by
  cases hn : lookG r k with
  | none => rw [valT_none hκ h hn]; rfl
  | some b =>
    obtain ⟨v, e, _⟩ := valT_some hκ h hn
    rw [e]; rfl
theorem putT_is (hκ : ∀ a b, κ a = κ b → a = b) {k : α} {b : β} {v : V} (hv : Rp M H (f b) v) {r : List (α × β)} {vs : List V} (h : RpL M H (r.map fun p => f p.2) vs) :
    ∃ vs', putK ((r.map fun p => κ p.1).zip vs) (κ k) v = ((putG r k b).map fun p => κ p.1).zip vs' ∧ RpL M H ((putG r k b).map fun p => f p.2) vs' := by
  have hany : (((r.map fun p => κ p.1).zip vs).any fun kv => decide (kv.1 = κ k)) = (r.any fun p => decide (p.1 = k)) := by
    rw [valV_any, valT_is hκ h, lookG_any]
  unfold putK putG
  rw [hany]
  by_cases c : (r.any fun p => decide (p.1 = k)) = true
  · rw [if_pos c, if_pos c]
    clear c hany
    induction r generalizing vs with
    | nil =>
      unfold RpL at h
      subst h
      exact ⟨[], rfl, by unfold RpL; rfl⟩
    | cons p r ih =>
      rw [List.map_cons] at h
      unfold RpL at h
      obtain ⟨v0, w, rfl, h1, h2⟩ := h
      obtain ⟨vs', e1, e2⟩ := ih h2
      rw [List.map_cons, List.zip_cons_cons, List.map_cons, e1]
      by_cases e : p.1 = k
      · refine ⟨v :: vs', ?_, ?_⟩
        · simp [e]
        · rw [List.map_cons, List.map_cons]
          unfold RpL
          exact ⟨v, vs', rfl, by simp [e]; exact hv, e2⟩
      · have e' : ¬ κ p.1 = κ k := fun z => e (hκ _ _ z)
        refine ⟨v0 :: vs', ?_, ?_⟩
        · simp [e, e']
        · rw [List.map_cons, List.map_cons]
          unfold RpL
          exact ⟨v0, vs', rfl, by simp [e]; exact h1, e2⟩
  · rw [if_neg c, if_neg c]
    refine ⟨vs ++ [v], ?_, ?_⟩
    · rw [List.map_append, List.zip_append (by rw [List.length_map, h.len, List.length_map])]
      rfl
    · rw [List.map_append]
      exact h.app (RpL.one hv)
end
section
variable {K : PySem.W.Frag} {F : Addr → Prop} {Z : Hp → (Addr → Prop) → Prop} {ρ : List Sl} {σ : L2.St} {H Hb : Hp} {M Mk : Addr → Prop} {d d0 : Dt} {p p0 : Pat} {i j n : Nat} {to ta tb te td : TE} {s : Sh} {ds : List Dt} {α β : Type} [DecidableEq α] {D : Ends} {tu tz : TS} {f : β → Dt} {W : Dt → Dt} {κ : α → List Key} {r : List (α × β)} {a : α} {b : β}
theorem isN_key {k : List Key} {v : V} (h : isN Mk .t (kD k) v H) : ∃ q, v = .ref q ∧ H q = some (.tup (k.map kV)) := by
  obtain ⟨q, vs, e, o, r⟩ := h
  have o : H q = some (.tup vs) := o
  rw [rpL_sc.mp r] at o
  exact ⟨q, e, o⟩
theorem ev_dinT (hκ : ∀ a b, κ a = κ b → a = b) (hb : EvN Mk tb σ H .t (kD (κ a))) (h : EvN M ta σ H (.e (r.map fun p => κ p.1)) (r.map fun p => f p.2)) : Ev (tDIn tb ta) σ H (.bl (lookG r a).isSome) := fun H1 e Q q =>
  hb H1 e _ fun w H2 e2 hw => h H2 (e.trans e2) _ fun v H3 e3 ⟨x, vs, ev, ho, hr⟩ => by
    obtain ⟨qk, rfl, hq⟩ := isN_key hw
    exact ⟨x, _, ev, DGet.t ho.1 (e3 _ _ hq), by
      rw [valT_is hκ hr]
      exact q H3 (e2.trans e3)⟩
theorem ev_dninT (hκ : ∀ a b, κ a = κ b → a = b) (hb : EvN Mk tb σ H .t (kD (κ a))) (h : EvN M ta σ H (.e (r.map fun p => κ p.1)) (r.map fun p => f p.2)) : Ev (tDNotIn tb ta) σ H (.bl (!(lookG r a).isSome)) := fun H1 e Q q =>
  hb H1 e _ fun w H2 e2 hw => h H2 (e.trans e2) _ fun v H3 e3 ⟨x, vs, ev, ho, hr⟩ => by
    obtain ⟨qk, rfl, hq⟩ := isN_key hw
    exact ⟨x, _, ev, DGet.t ho.1 (e3 _ _ hq), by
      rw [valT_is hκ hr]
      exact q H3 (e2.trans e3)⟩
theorem r_dgetT (hκ : ∀ a b, κ a = κ b → a = b) (h : EvN M ta σ H (.e (r.map fun p => κ p.1)) (r.map fun p => f p.2)) (hb : EvN Mk tb σ H .t (kD (κ a))) (hl : lookG r a = some b) : EvR M (tDGet ta tb) σ H (f b) := fun H1 e Q q =>
  h H1 e _ fun v H2 e2 ⟨x, vs, ev, ho, hr⟩ => hb H2 (e.trans e2) _ fun w H3 e3 hw => by
    obtain ⟨qk, rfl, hq⟩ := isN_key hw
    obtain ⟨w, e1, e4⟩ := valT_some hκ hr hl
    exact ⟨x, w, ev, by rw [← e1]; exact DGet.t (e3 _ _ ho.1) hq, q w H3 (e2.trans e3) (Rp.go (Go.ex e3) e4)⟩
theorem c_putT (hκ : ∀ a b, κ a = κ b → a = b) (ok : Ok F Z ρ σ H M) (hi : ρ[i]? = some (mu (uDT κ f r))) (h : EvR M te σ H (f b)) (hk : EvN Mk tb σ H .t (kD (κ a))) (hz : r.length < 100000)
    (k : ∀ M' σ' H', Ok F Z (ρ.set i (mu (uDT κ f (putG r a b)))) σ' H' M' → D.nx σ' H') : sDPut (tVar i) tb te D σ H := by
  obtain ⟨x, vs, h1, h2, h3, h4⟩ := ok.mut hi
  refine h H (Ex.refl _) _ fun v H1 e1 r1 => ⟨.ref x, h1, ?_⟩
  refine hk H1 e1 _ fun w H2 e2 hw => ?_
  obtain ⟨qk, rfl, hq⟩ := isN_key hw
  refine ⟨x, _, rfl, DPut.t ((e1.trans e2) _ _ h2.1) hq (by rw [List.length_zip, h3.len]; simp; exact sz_lt hz), ?_⟩
  have h3' := RpL.go (Go.ex (M := M) (e1.trans e2)) h3
  obtain ⟨vs', e3, e4⟩ := putT_is hκ (k := a) (mon_R _ _ _ _ _ e2 r1) h3'
  rw [e3]
  exact k _ _ _ (h4 H2 (e1.trans e2) _ (.e ((putG r a b).map fun p => κ p.1)) _ vs' ⟨upd_same, by rw [e4.len]; simp⟩ e4)
/-! {} -/
theorem p_nilDT : EvP M tDNewT σ H (uDT κ f []) (.ow .sh) := fun H1 e Q q => fun p hp => q _ [p] _ (Ex.new hp) (by simp) (by simpa using hp) (ow_mu.mpr ⟨p, [], rfl, ⟨upd_same, rfl⟩, rfl, by simp [RpL]⟩)
theorem b_putT (hκ : ∀ a b, κ a = κ b → a = b) (ok : Ok F Z ρ σ H M) (hi : ρ[i]? = some (mu (uDT κ f r))) (h : EvR M te σ H (f b)) (hk : EvN Mk tb σ H .t (kD (κ a))) (hz : r.length < 100000)
    (k : ∀ M' σ' H', Ok F Z (ρ.set i (mu (uDT κ f (putG r a b)))) σ' H' M' → tz D σ' H') : tSeq (sDPut (tVar i) tb te) tz D σ H := c_putT (D := { D with nx := tz D }) hκ ok hi h hk hz k
end
end Ho

/-! tuples of numbers; {k: v} with one tuple key; dicts whose items are owned -/
namespace Ho
open PySem PySem.Spec PyProof.Rows L2 Evl
abbrev uU {α : Type} (f : α → Dt) (xs : List α) : Dt := .node .t (xs.map f)
def kI : List Int → List Key := fun l => l.map Sum.inl
def kSS : Row × Row → List Key := fun p => [.inr (S p.1), .inr (S p.2)]
theorem kI_inj (a b : List Int) (h : kI a = kI b) : a = b := by
  unfold kI at h
  induction a generalizing b with
  | nil => cases b with
    | nil => rfl
    | cons y b => cases h
  | cons x a ih => cases b with
    | nil => cases h
    | cons y b =>
      rw [List.map_cons, List.map_cons] at h
      obtain ⟨h1, h2⟩ := List.cons.inj h
      rw [Sum.inl.inj h1, ih b h2]
theorem kSS_inj (a b : Row × Row) (h : kSS a = kSS b) : a = b := by
  unfold kSS at h
  obtain ⟨h1, h2⟩ := List.cons.inj h
  exact Prod.ext (inS_inj _ _ h1) (inS_inj _ _ (List.cons.inj h2).1)
def rTupL (K : PySem.W.Frag) : List V → Hp → VK → Prop := fun xs H Q => ∃ p ys, xs = [.ref p] ∧ SqL K H p ys ∧ ∀ l, H l = none → Q (.ref l) (upd H l (.tup ys))
theorem ct_tupL {X : Cx} {K : PySem.W.Frag} (hK : X.K = K := by rfl) : CallR X (.type "tuple") (rTupL K) := by
  subst hK
  rintro ps s σ H xs us Q J r ⟨p, ys, e, h1, h2⟩
  exact call_tuple_of ps s σ H xs us Q J r ⟨p, ys, e, .inl ⟨h1, h2⟩⟩
/-- {k: v}, the key a tuple -/
def tDisp1T (tk tv : TE) : TE := fun σ H Q => ∀ p, H p = none → tk σ (upd H p (.dT [])) fun x H1 => tv σ H1 fun y H2 => ∃ (k : List Key) (b : Addr), x = .ref b ∧ H2 b = some (.tup (k.map kV)) ∧ H2 p = some (.dT []) ∧ Q (.ref p) (upd H2 p (.dT [(k, y)]))
theorem pe_disp1T {X : Cx} {po : Pos} {ke ve : Expr} {tk tv : TE} (hu : X.A.units + 1 < cLine) (h : PPs X po [some ke] [ve] [(tk, tv)]) : PE X (.Dict [some ke] [ve] po) (tDisp1T tk tv) := .mk fun ps s0 σ0 H0 Q0 J0 w0 => by
  have fr := J0.hok.fresh (Nat.le_refl s0.heap.objs.size)
  have J1 := J0.laid (a := s0.heap.objs.size) (o := .dT []) (h' := s0.heap.push { cls := .type "dict", data := .dict #[] }) (t' := s0.toks) (fun _ _ y => Heap.get?_push_of_some _ y) (Nat.le_refl _) (dt_empty s0.heap J0.big)
  rw [arm_eval_Dict, zip_pairTrees [some ke] [ve] X.env po rfl rfl, dictDisplay_pairs _ (fun z => by cases z) (by show 1 < 17; decide)]
  refine wpAny_bind (wpAny_standAt (wpAny_bind (wpAny_subDictH (knd := tupleKind (mixKind X.prog X.w)) (show X.A.units < cLine from by omega) (by show 1 ≤ 15; decide) (thn (h.run ps _ σ0 _ (fun ws G => match ws with
    | [(x, y)] => ∃ (k : List Key) (b : Addr), x = .ref b ∧ G b = some (.tup (k.map kV)) ∧ G s0.heap.objs.size = some (.dT []) ∧ Q0 (.ref s0.heap.objs.size) (upd G s0.heap.objs.size (.dT [(k, y)]))
    | _ => False) J1 (w0 _ fr)) fun ws s2 ⟨vs, G, J2, rel, hh⟩ => ?_))))
  match vs, hh with
  | [(x, y)], ⟨k, b, e2, e3, e4, q⟩ =>
    subst e2
    cases rel with
    | @cons p1 q1 l1 l2 r1 r2 =>
    cases r2
    obtain ⟨u1, u2⟩ := q1
    obtain ⟨ra, rb⟩ := r1
    cases (show u1 = Value.ref b from ra)
    obtain ⟨z, hd, xs, kt, dd⟩ := dt_of J2.hok e4
    cases kt
    refine ⟨[(k, b, u2)], ⟨rfl, rfl, key_of J2.hok e3, trivial⟩, dd, fun h' tk dd' hs => wpAny_pure ⟨.ref s0.heap.objs.size, _, ?_, rfl, q⟩⟩
    obtain ⟨o, es, ep, ho, g2, g3, g4, _, g5⟩ := dd'
    refine d_write J2 (by rw [e4]; exact True.intro) hs ⟨o, ho⟩ ⟨by show 1 ≤ sizeLine; decide, hd, _, .cons ⟨rfl, ?_, rb⟩ .nil, o, es, ep, ho, g2, g3, g4, g5⟩
    show upd _ _ _ b = _
    rw [upd_ne (ne_of e3 e4 (fun z => nomatch z))]
    exact e3
section
variable {K : PySem.W.Frag} {F : Addr → Prop} {Z : Hp → (Addr → Prop) → Prop} {ρ : List Sl} {σ : L2.St} {H Hb : Hp} {M Mk : Addr → Prop} {d d0 : Dt} {p p0 : Pat} {i j n : Nat} {to ta tb te td tk : TE} {s : Sh} {ds : List Dt} {α β : Type} {D : Ends} {tu tz : TS} {f : β → Dt} {W : Dt → Dt}
theorem n_kI {l : List Int} (h : EvN M te σ H .t (l.map uI)) : EvN M te σ H .t (kD (kI l)) := by
  unfold kI
  show EvN M te σ H .t ((l.map Sum.inl).map _)
  rw [List.map_map]
  exact h
theorem n_kS {a b : Row} (h : EvN M te σ H .t [uS a, uS b]) : EvN M te σ H .t (kD (kSS (a, b))) := h
theorem p_tupI {ns : List Int} (h : EvQ K te σ H (ns.map V.int)) : EvP M (tCB (rTupL K) (tCons te tNil)) σ H (uU uI ns) (.ow .sh) := fun H1 e Q q =>
  h H1 e _ fun a H2 e2 hs => ⟨a, _, rfl, hs.q, fun p hp => q _ [p] _ (e2.trans (Ex.new hp)) (by simp) (by simpa using fresh_back e2 hp) (ow_mu.mpr ⟨p, _, rfl, upd_same, rfl, rpL_sc.mpr rfl⟩)⟩
theorem p_disp1T {κ : α → List Key} {a : α} {b : β} {v : V} (hk : EvN Mk tk σ H .t (kD (κ a))) (hv : Ev te σ H v) (hf : f b = .sc v) : EvP M (tDisp1T tk te) σ H (uDT κ f [(a, b)]) (.ow .sh) := fun H1 e Q q => fun p hp => by
  have e1 : Ex H1 (upd H1 p (.dT [])) := Ex.new hp
  refine hk _ (e.trans e1) _ fun x H2 e2 hx => hv H2 ((e.trans e1).trans e2) _ fun H3 e3 => ?_
  obtain ⟨qk, rfl, hq⟩ := isN_key hx
  refine ⟨κ a, qk, rfl, e3 _ _ hq, e3 _ _ (e2 _ _ upd_same), ?_⟩
  exact q _ [p] _ (Ex.mut ((e1.trans e2).trans e3) hp) (by simp) (by simpa using hp) (ow_mu.mpr ⟨p, [v], rfl, ⟨upd_same, rfl⟩, rfl, RpL.one (by show Rp _ _ (f b) v; rw [hf]; unfold Rp; rfl)⟩)
/-! ### dicts that own their items -/
/-- what a slot owns is changed, new ones come to it -/
theorem Ok.swapN (ok : Ok F Z ρ σ H M) (h : ρ[i]? = some (.own d p)) : ∃ v bs, σ[i]? = some (some v) ∧ Ow M H d p v bs ∧ bs.Nodup ∧ (∀ a ∈ bs, M a) ∧
    ∀ (ns : List Addr) H' d' p' bs', ns.Nodup → (∀ b ∈ ns, H b = none) → (∀ a o, a ∉ bs → H a = some o → H' a = some o) → (∀ a, a ∈ bs ∨ a ∈ ns → H' a ≠ none) → Ow (Mb M ns) H' d' p' v bs' → bs'.Nodup → (∀ a ∈ bs', a ∈ bs ∨ a ∈ ns) → Ok F Z (ρ.set i (.own d' p')) σ H' (Mb M ns) := by
  obtain ⟨as, nd, own, sl⟩ := ok.sl
  obtain ⟨v, bs, cs, h1, h2, h3, h4⟩ := sl.out h
  have nd2 := List.nodup_append.mp (h4.nodup_iff.mpr nd)
  have hb : ∀ a ∈ bs, M a ∧ ¬ F a := fun a ha => own a (h4.subset (List.mem_append_left _ ha))
  refine ⟨v, bs, h1, h2, nd2.1, fun a ha => (hb a ha).1, fun ns H' d' p' bs' nn nf k1 k2 w nb sub => ?_⟩
  have g0 : Go M H (Mb M ns) H' := fun b u n e => ⟨k1 b u (fun z => n (hb b z).1) e, fun z => by
    rcases z with z | z
    · exact n z
    · rw [nf b z] at e; cases e⟩
  have sl' := h3.go g0 fun b hbc u e => k1 b u (fun z => nd2.2.2 b z b hbc rfl) e
  have hi : i < ρ.length := (List.getElem?_eq_some_iff.mp h).1
  obtain ⟨as', q1, q2⟩ := OkL.back (bs := bs') w hi sl' h1
  have hcs : ∀ b ∈ cs, H b ≠ none := h3.al
  refine ⟨⟨as', ?_, fun b hbb => ?_, q1⟩, fun b hbb hn => ?_, fun b hbb => .inl (ok.fr b hbb), ?_, ok.mz⟩
  · rw [q2.nodup_iff, List.nodup_append]
    refine ⟨nb, nd2.2.1, fun u hu y hy z => ?_⟩
    rcases sub u hu with w | w
    · exact nd2.2.2 u w y hy z
    · exact hcs y hy (by rw [← z]; exact nf u w)
  · rcases List.mem_append.mp (q2.subset hbb) with z | z
    · rcases sub b z with w | w
      · exact ⟨.inl (hb b w).1, (hb b w).2⟩
      · exact ⟨.inr w, fun q => ok.al b (ok.fr b q) (nf b w)⟩
    · have := own b (h4.subset (List.mem_append_right _ z))
      exact ⟨.inl this.1, this.2⟩
  · rcases hbb with hbb | hbb
    · by_cases z : b ∈ bs
      · exact k2 b (.inl z) hn
      · cases e : H b with
        | none => exact ok.al b hbb e
        | some o => rw [k1 b o z e] at hn; cases hn
    · exact k2 b (.inr hbb) hn
  · refine ok.mz _ _ _ _ ok.z ⟨fun b u n e => k1 b u (fun z => n (hb b z)) e, fun b hbb => ?_⟩
    rcases hbb.1 with z | z
    · exact .inl ⟨z, hbb.2⟩
    · exact .inr (nf b z)
theorem p_nilDo {κ : α → List Key} : EvP M tDNewT σ H (uDT κ f []) (.ow p) := fun H1 e Q q => fun a ha => q _ [a] _ (Ex.new ha) (by simp) (by simpa using ha) (by
  unfold Ow
  exact ⟨a, [], [], rfl, ⟨upd_same, rfl⟩, rfl, by
    simp only [List.map_nil, List.length_nil, List.replicate_zero]
    unfold OwF
    exact ⟨rfl, rfl, rfl⟩⟩)
theorem putK_off {κ : α → List Key} [DecidableEq α] (hκ : ∀ a b, κ a = κ b → a = b) {k : α} {v : V} : ∀ {r : List (α × β)} {vs : List V}, lookG r k = none → r.length = vs.length → putK ((r.map fun p => κ p.1).zip vs) (κ k) v = ((r.map fun p => κ p.1) ++ [κ k]).zip (vs ++ [v]) := fun {r vs} hn hl => by
  have : (((r.map fun p => κ p.1).zip vs).any fun kv => decide (kv.1 = κ k)) = false := by
    rw [List.any_eq_false]
    rintro ⟨k2, v2⟩ hm
    have := (List.of_mem_zip hm).1
    obtain ⟨q, hq, e⟩ := List.mem_map.mp this
    simp only [decide_eq_true_eq]
    rintro rfl
    have e2 := hκ _ _ e
    have : (r.any fun p => decide (p.1 = k)) = true := List.any_eq_true.mpr ⟨q, hq, by simp [e2]⟩
    rw [lookG_any, hn] at this
    cases this
  unfold putK
  rw [this, if_neg (by decide), List.zip_append (by rw [List.length_map]; exact hl)]
  rfl
/-- d[k] = e: a new key, the item owned -/
theorem c_putTn [DecidableEq α] {κ : α → List Key} {r : List (α × β)} {a : α} {b : β} (hκ : ∀ a b, κ a = κ b → a = b) (ok : Ok F Z ρ σ H M) (hi : ρ[i]? = some (.own (uDT κ f r) (.ow p))) (h : EvP M te σ H (f b) p) (hk : EvN Mk tb σ H .t (kD (κ a))) (hz : r.length < 100000) (hl : lookG r a = none)
    (k : ∀ M' σ' H', Ok F Z (ρ.set i (.own (uDT κ f (r ++ [(a, b)])) (.ow p))) σ' H' M' → D.nx σ' H') : sDPut (tVar i) tb te D σ H := by
  obtain ⟨v0, bs, h1, h2, h3, h4, h5⟩ := ok.swapN hi
  unfold Ow at h2
  obtain ⟨x, vs, cs, rfl, ob, rfl, fo⟩ := h2
  have nc := List.nodup_cons.mp h3
  have hlen : r.length = vs.length := by
    have := (OwF.fr (M' := Mo) (fun _ _ z => z) (fun _ _ z => z) fo).len
    rw [List.length_map] at this
    exact this.symm
  refine h H (Ex.refl _) _ fun v ns H1 e1 nn nf w => ⟨.ref x, h1, ?_⟩
  refine hk H1 e1 _ fun y H2 e2 hy => ?_
  obtain ⟨qk, rfl, hq⟩ := isN_key hy
  have e12 := e1.trans e2
  have hns : ∀ c ∈ ns, c ∉ x :: cs := fun c hc z => by
    have hz0 : H c ≠ none := by
      rcases List.mem_cons.mp z with rfl | z
      · rw [ob.1]; simp
      · exact fo.al c z
    exact hz0 (nf c hc)
  refine ⟨x, _, rfl, DPut.t (e12 _ _ ob.1) hq (by rw [List.length_zip, List.length_map]; refine sz_lt ?_; omega), ?_⟩
  rw [putK_off hκ hl hlen]
  have off : ∀ c u, c ≠ x → H2 c = some u → (upd H2 x (.dT (((r.map fun p => κ p.1) ++ [κ a]).zip (vs ++ [v])))) c = some u := fun c u hc e => by rw [upd_ne hc]; exact e
  have key := h5 ns (upd H2 x (.dT (((r.map fun p => κ p.1) ++ [κ a]).zip (vs ++ [v])))) (uDT κ f (r ++ [(a, b)])) (.ow p) (x :: (cs ++ ns)) nn nf (fun c u hc e => off c u (fun z => hc (by rw [z]; exact List.mem_cons_self)) (e12 _ _ e)) (fun c hc => ?_) ?_ ?_ (fun c hc => ?_)
  · exact k _ _ _ key
  · by_cases z : c = x
    · rw [z, upd_same]; simp
    · rw [upd_ne z]
      have : H1 c ≠ none := by
        rcases hc with hc | hc
        · rcases List.mem_cons.mp hc with hc | hc
          · exact absurd hc z
          · cases e : H c with
            | none => exact absurd e (fo.al c hc)
            | some o => rw [e1 _ _ e]; simp
        · exact w.al c hc
      cases e : H1 c with
      | none => exact absurd e this
      | some o => rw [e2 _ _ e]; simp
  · unfold Ow
    refine ⟨x, vs ++ [v], cs ++ ns, rfl, ⟨by rw [upd_same, List.map_append]; rfl, by simp [hlen]⟩, rfl, ?_⟩
    rw [List.map_append]
    have hM : ∀ c, c ≠ x → ¬ M c → ¬ Mb M ns c ∨ H c = none := fun c hc n => by
      by_cases q : c ∈ ns
      · exact .inr (nf c q)
      · exact .inl (fun z => by rcases z with z | z; exact n z; exact q z)
    refine owF_snoc (d := f b) (w.go (fun c u n e => ⟨off c u (fun z => n (.inl (h4 c (by rw [z]; exact List.mem_cons_self)))) (e2 _ _ e), n⟩) fun c hc u e => off c u (fun z => hns c hc (by rw [z]; exact List.mem_cons_self)) (e2 _ _ e)) ?_
    exact fo.go (fun c u n e => ⟨off c u (fun z => n (h4 c (by rw [z]; exact List.mem_cons_self))) (e12 _ _ e), fun z => by
      rcases z with z | z
      · exact n z
      · rw [nf c z] at e; cases e⟩) fun c hc u e => off c u (fun z => nc.1 (by rw [← z]; exact hc)) (e12 _ _ e)
  · rw [List.nodup_cons, List.nodup_append]
    refine ⟨fun z => ?_, nc.2, nn, fun u hu y hy z => hns y hy (by rw [← z]; exact List.mem_cons_of_mem _ hu)⟩
    rcases List.mem_append.mp z with z | z
    · exact nc.1 z
    · exact hns x z List.mem_cons_self
  · rcases List.mem_cons.mp hc with hc | hc
    · exact .inl (by rw [hc]; exact List.mem_cons_self)
    · rcases List.mem_append.mp hc with hc | hc
      · exact .inl (List.mem_cons_of_mem _ hc)
      · exact .inr hc
theorem b_putTn [DecidableEq α] {κ : α → List Key} {r : List (α × β)} {a : α} {b : β} (hκ : ∀ a b, κ a = κ b → a = b) (ok : Ok F Z ρ σ H M) (hi : ρ[i]? = some (.own (uDT κ f r) (.ow p))) (h : EvP M te σ H (f b) p) (hk : EvN Mk tb σ H .t (kD (κ a))) (hz : r.length < 100000) (hl : lookG r a = none)
    (k : ∀ M' σ' H', Ok F Z (ρ.set i (.own (uDT κ f (r ++ [(a, b)])) (.ow p))) σ' H' M' → tz D σ' H') : tSeq (sDPut (tVar i) tb te) tz D σ H := c_putTn (D := { D with nx := tz D }) hκ ok hi h hk hz hl k
/-- where a key stands -/
theorem valT_at [DecidableEq α] {κ : α → List Key} (hκ : ∀ a b, κ a = κ b → a = b) {a : α} {b : β} : ∀ {r : List (α × β)} {vs : List V} {m : Nat}, (r.map (·.1)).Nodup → r.length = vs.length → r[m]? = some (a, b) → valV ((r.map fun p => κ p.1).zip vs) (κ a) = vs[m]?
  | [], _, m, _, _, h => by simp at h
  | p :: r, [], m, _, h, _ => by cases h
  | p :: r, v :: vs, m, nd, hl, h => by
    rw [List.map_cons, List.nodup_cons] at nd
    rw [List.map_cons, List.zip_cons_cons]
    cases m with
    | zero =>
      simp at h
      subst h
      rw [valV_pos rfl]
      rfl
    | succ m =>
      simp at h
      rw [valV_neg (fun z => nd.1 (by rw [hκ _ _ z]; exact List.mem_map.mpr ⟨_, List.mem_of_getElem? h, rfl⟩))]
      simpa using valT_at hκ (vs := vs) nd.2 (by simpa using hl) h
/-- the item of a key, to be changed -/
theorem Rch.dgetT [DecidableEq α] {κ : α → List Key} {r : List (α × β)} {a : α} {b : β} {m : Nat} (hκ : ∀ a b, κ a = κ b → a = b) (h : Rch to σ H M i d0 p0 (uDT κ f r) (.ow p) W) (hb : EvN Mk tb σ H .t (kD (κ a))) (nd : (r.map (·.1)).Nodup) (hd : r[m]? = some (a, b)) :
    Rch (tDGet to tb) σ H M i d0 p0 (f b) p (fun x => W (.node (.e (r.map fun p => κ p.1)) ((r.map fun p => f p.2).set m x))) := fun v0 bs0 e0 w0 nd0 => by
  obtain ⟨v, bl, ev, w, nb, sub, put⟩ := h v0 bs0 e0 w0 nd0
  unfold Ow at w
  obtain ⟨x, vs, cs, rfl, ho, rfl, f2⟩ := w
  have hlen : r.length = vs.length := by
    have := (OwF.fr (M' := Mo) (fun _ _ z => z) (fun _ _ z => z) f2).len
    rw [List.length_map] at this
    exact this.symm
  have hm := (List.getElem?_eq_some_iff.mp hd).1
  obtain ⟨vj, bj, k1, k2, k3, k4, k5⟩ := f2.at m (f b) p (by rw [List.getElem?_map, hd]; rfl) (by rw [List.getElem?_replicate, if_pos (by rw [List.length_map]; exact hm)])
  have nc := List.nodup_cons.mp nb
  refine ⟨vj, bj, fun H1 e Q q => ev H1 e _ fun H2 e2 => hb H2 (e.trans e2) _ fun y H3 e3 hy => ?_, k2, k4 nc.2, fun y hy => sub y (List.mem_cons_of_mem _ (k3 y hy)), fun H1 d' g k w' =>
    put H1 _ g (fun y hy hyb => k y hy (fun z => hyb (List.mem_cons_of_mem _ (k3 y z)))) ?_⟩
  · obtain ⟨qk, rfl, hq⟩ := isN_key hy
    exact ⟨x, vj, rfl, by
      rw [← k1, ← valT_at hκ nd hlen hd]
      exact DGet.t (((e.trans e2).trans e3) _ _ ho.1) hq, q H3 (e2.trans e3)⟩
  · unfold Ow
    exact ⟨x, vs, cs, rfl, ⟨k x (sub x List.mem_cons_self) (fun z => nc.1 (k3 x z)) _ ho.1, ho.2⟩, rfl, by rw [List.length_set]; exact k5 H1 d' nc.2 g (fun y hy hyb => k y (sub y (List.mem_cons_of_mem _ hy)) hyb) w'⟩
theorem set_map_put {r : List (α × β)} {a : α} {b b' : β} {m : Nat} (hd : r[m]? = some (a, b)) : ((r.map fun p => f p.2).set m (f b')) = (r.set m (a, b')).map fun p => f p.2 := by
  rw [List.map_set]
theorem keys_set {κ : α → List Key} {r : List (α × β)} {a : α} {b b' : β} {m : Nat} (hd : r[m]? = some (a, b)) : (r.map fun p => κ p.1) = (r.set m (a, b')).map fun p => κ p.1 := by
  rw [List.map_set]
  refine (List.ext_getElem? fun k => ?_)
  rw [List.getElem?_set]
  split
  · rename_i e
    subst e
    rw [List.getElem?_map, hd]
    have hm := (List.getElem?_eq_some_iff.mp hd).1
    simp [hm]
  · rfl
end
end Ho
namespace Ho
open PySem PySem.Spec PyProof.Rows L2 Evl
/-- == of tuples of any length -/
theorem eqd_U {α : Type} [DecidableEq α] {f : α → Dt} {sm : α → Prop} {n : Nat} {g : α → PyData} (E : Eqd f sm n g) : Eqd (uU f) (fun xs => ∀ x ∈ xs, sm x) (n + 1) (fun xs => .tuple (xs.map g)) := by
  have all : ∀ (K : PySem.W.Frag) (H : Hp) (xs : List α) (vs : List V), RpL Mo H (xs.map f) vs → DpAll K H vs (xs.map g) := by
    intro K H xs
    induction xs with
    | nil =>
      intro vs h
      rw [List.map_nil] at h
      unfold RpL at h
      rw [h]
      exact .nil
    | cons x xs ih =>
      intro vs h
      rw [List.map_cons] at h
      unfold RpL at h
      obtain ⟨v, r, rfl, h1, h2⟩ := h
      exact .cons (E.dp K H x v h1) (ih r h2)
  refine ⟨fun K H xs v h => ?_, fun xs ys => ?_, fun xs h => ?_, fun xs => ?_⟩
  · unfold Rp at h
    obtain ⟨a, vs, rfl, _, o, r⟩ := h
    exact .tup (ST.q (stof o)) (all K H xs vs r)
  · show PyData.eqv (.tuple (xs.map g)) (.tuple (ys.map g)) = _
    rw [PyData.eqv]
    induction xs generalizing ys with
    | nil => cases ys <;> simp [PyData.eqvAll]
    | cons x xs ih =>
      cases ys with
      | nil => simp [PyData.eqvAll]
      | cons y ys =>
        rw [List.map_cons, List.map_cons, PyData.eqvAll, ih ys, E.eq]
        by_cases h : x = y
        · subst h; simp
        · simp [h]
  · show PyData.canLay0 (.tuple (xs.map g)) = true
    rw [PyData.canLay0]
    induction xs with
    | nil => rw [List.map_nil, PyData.canLayAll0]
    | cons x xs ih => rw [List.map_cons, PyData.canLayAll0, E.lay x (h x List.mem_cons_self), ih fun y hy => h y (List.mem_cons_of_mem _ hy)]; rfl
  · show PyData.depth (.tuple (xs.map g)) ≤ n + 1
    rw [PyData.depth]
    refine Nat.succ_le_succ ?_
    induction xs with
    | nil => rw [List.map_nil, PyData.depthAll]; exact Nat.zero_le _
    | cons x xs ih =>
      rw [List.map_cons, PyData.depthAll]
      exact Nat.max_le.mpr ⟨E.dep x, ih⟩
end Ho
namespace Ho
open PySem PySem.Spec PyProof.Rows L2 Evl
section
variable {K : PySem.W.Frag} {F : Addr → Prop} {Z : Hp → (Addr → Prop) → Prop} {ρ : List Sl} {σ : L2.St} {H : Hp} {M : Addr → Prop} {d1 d2 d3 d4 : Dt} {p1 p2 p3 p4 : Pat} {i j l m : Nat} {ta tb tc td : TE} {D : Ends} {tz : TS}
theorem c_tup4 (ok : Ok F Z ρ σ H M) (h1 : EvP M ta σ H d1 p1) (h2 : ∀ M' σ' H', Ok F Z ρ σ' H' M' → EvP M' tb σ' H' d2 p2) (h3 : ∀ M' σ' H', Ok F Z ρ σ' H' M' → EvP M' tc σ' H' d3 p3) (h4 : ∀ M' σ' H', Ok F Z ρ σ' H' M' → EvP M' td σ' H' d4 p4)
    (k : ∀ M' σ' H', Ok F Z ((((ρ.set i (.own d1 p1)).set j (.own d2 p2)).set l (.own d3 p3)).set m (.own d4 p4)) σ' H' M' → D.nx σ' H') : tAsg (tTup (tCons ta (tCons tb (tCons tc (tCons td tNil))))) (gTup K 4 (gCons (gName i) (gCons (gName j) (gCons (gName l) (gCons (gName m) gNil))))) D σ H :=
  h1 H (Ex.refl H) _ fun v bs H1 e nd n w => by
    have ok1 : Ok F Z ρ σ H1 (Mb M bs) := ok.more e n w.al
    refine h2 _ _ _ ok1 H1 (Ex.refl _) _ fun v2 bs2 H2 e2 nd2 n2 w2 => ?_
    have ok2 : Ok F Z ρ σ H2 (Mb (Mb M bs) bs2) := ok1.more e2 n2 w2.al
    refine h3 _ _ _ ok2 H2 (Ex.refl _) _ fun v3 bs3 H3 e3 nd3 n3 w3 => ?_
    have ok3 : Ok F Z ρ σ H3 (Mb (Mb (Mb M bs) bs2) bs3) := ok2.more e3 n3 w3.al
    refine h4 _ _ _ ok3 H3 (Ex.refl _) _ fun v4 bs4 H4 e4 nd4 n4 w4 => ⟨sz_of (by simp), fun T hT => ?_⟩
    exact ⟨T, _, rfl, st_of upd_same, rfl, v, _, rfl, v2, _, rfl, v3, _, rfl, v4, _, rfl, rfl, k _ _ _ (((((ok.set (i := i) e nd n w).set (i := j) e2 nd2 n2 w2).set (i := l) e3 nd3 n3 w3).set (i := m) e4 nd4 n4 w4).ex (Ex.new hT))⟩
theorem b_tup4 (ok : Ok F Z ρ σ H M) (h1 : EvP M ta σ H d1 p1) (h2 : ∀ M' σ' H', Ok F Z ρ σ' H' M' → EvP M' tb σ' H' d2 p2) (h3 : ∀ M' σ' H', Ok F Z ρ σ' H' M' → EvP M' tc σ' H' d3 p3) (h4 : ∀ M' σ' H', Ok F Z ρ σ' H' M' → EvP M' td σ' H' d4 p4)
    (k : ∀ M' σ' H', Ok F Z ((((ρ.set i (.own d1 p1)).set j (.own d2 p2)).set l (.own d3 p3)).set m (.own d4 p4)) σ' H' M' → tz D σ' H') : tSeq (tAsg (tTup (tCons ta (tCons tb (tCons tc (tCons td tNil))))) (gTup K 4 (gCons (gName i) (gCons (gName j) (gCons (gName l) (gCons (gName m) gNil)))))) tz D σ H := c_tup4 (D := { D with nx := tz D }) ok h1 h2 h3 h4 k
end
end Ho

/-! a shared dict walked: locked meanwhile; what else is told must not hold it -/
namespace Ho
open PySem PySem.Spec PyProof.Rows L2 Evl
mutual
/-- no dict in it -/
def NoD : Dt → Prop
  | .sc _ => True
  | .node s ds => s.isD = false ∧ NoDL ds
def NoDL : List Dt → Prop
  | [] => True
  | d :: ds => NoD d ∧ NoDL ds
end
mutual
/-- no shared dict in it -/
def Thin : Dt → Pat → Prop
  | .sc _, _ => True
  | .node s ds, .sh => NoD (.node s ds)
  | .node _ ds, .ow p => ThinF ds (List.replicate ds.length p)
  | .node _ ds, .fs ps => ThinF ds ps
def ThinF : List Dt → List Pat → Prop
  | [], _ => True
  | _ :: _, [] => False
  | d :: ds, p :: ps => Thin d p ∧ ThinF ds ps
end
def ThinL : List Sl → Prop
  | [] => True
  | .una :: ρ => ThinL ρ
  | .any :: ρ => ThinL ρ
  | .own d p :: ρ => Thin d p ∧ ThinL ρ
theorem noD_sc {v : V} : NoD (.sc v) := by unfold NoD; trivial
theorem noDL_map {α : Type} {f : α → Dt} (h : ∀ x, NoD (f x)) : ∀ xs : List α, NoDL (xs.map f)
  | [] => by rw [List.map_nil]; unfold NoDL; trivial
  | x :: xs => by
    rw [List.map_cons]
    unfold NoDL
    exact ⟨h x, noDL_map h xs⟩
theorem noD_uL {α : Type} {f : α → Dt} (h : ∀ x, NoD (f x)) (xs : List α) : NoD (uL f xs) := by
  unfold NoD
  exact ⟨rfl, noDL_map h xs⟩
theorem thin_sc {v : V} {p : Pat} : Thin (.sc v) p := by unfold Thin; trivial
theorem thin_sh {d : Dt} (h : NoD d) : Thin d .sh := by
  cases d with
  | sc v => exact thin_sc
  | node s ds => unfold Thin; exact h
theorem thinF_sh : ∀ {ds : List Dt}, NoDL ds → ThinF ds (List.replicate ds.length .sh)
  | [], _ => by unfold ThinF; trivial
  | d :: ds, h => by
    unfold NoDL at h
    rw [List.length_cons, List.replicate_succ]
    unfold ThinF
    exact ⟨thin_sh h.1, thinF_sh h.2⟩
/-- a flat owned one -/
theorem thin_mu {s : Sh} {ds : List Dt} (h : NoDL ds) : Thin (.node s ds) (.ow .sh) := by
  unfold Thin
  exact thinF_sh h
theorem thin_D {r : Dic} : Thin (uD r) (.ow .sh) := thin_mu (noDL_map (fun _ => noD_sc) _)
theorem obAt_lk {H : Hp} {s : Sh} {a b : Addr} {vs : List V} {u x : HO} {ks : Sh} {ws : List V} (hs : s.isD = false) (h : ObAt H s b vs) (hu : ObU ks ws u) (ha : H a = some u) : ObAt (upd H a x) s b vs := by
  have hne : b ≠ a := by
    rintro rfl
    cases ks with
    | l => exact hu
    | t => exact hu
    | i C ns => exact hu
    | d k2 =>
      obtain ⟨rfl, _⟩ := hu
      cases s with
      | l => have h : H b = some (.lst vs) := h; rw [ha] at h; cases h
      | t => have h : H b = some (.tup vs) := h; rw [ha] at h; cases h
      | d ks => cases hs
      | e ks => cases hs
      | i C ns => obtain ⟨dx, h, _⟩ := h; rw [ha] at h; cases h
    | e k2 =>
      obtain ⟨rfl, _⟩ := hu
      cases s with
      | l => have h : H b = some (.lst vs) := h; rw [ha] at h; cases h
      | t => have h : H b = some (.tup vs) := h; rw [ha] at h; cases h
      | d ks => cases hs
      | e ks => cases hs
      | i C ns => obtain ⟨dx, h, _⟩ := h; rw [ha] at h; cases h
  exact ObAt.go (fun o e => by rw [upd_ne hne]; exact e) h
mutual
theorem Rp.lk {M : Addr → Prop} {H : Hp} {a : Addr} {u x : HO} {ks : Sh} {ws : List V} (hu : ObU ks ws u) (ha : H a = some u) : ∀ {d : Dt} {v : V}, NoD d → Rp M H d v → Rp M (upd H a x) d v
  | .sc w, v, _, h => by
    unfold Rp at h ⊢
    exact h
  | .node s ds, v, n, h => by
    unfold Rp at h ⊢
    unfold NoD at n
    obtain ⟨b, vs, e, nm, o, r⟩ := h
    exact ⟨b, vs, e, nm, obAt_lk n.1 o hu ha, RpL.lk hu ha n.2 r⟩
theorem RpL.lk {M : Addr → Prop} {H : Hp} {a : Addr} {u x : HO} {ks : Sh} {ws : List V} (hu : ObU ks ws u) (ha : H a = some u) : ∀ {ds : List Dt} {vs : List V}, NoDL ds → RpL M H ds vs → RpL M (upd H a x) ds vs
  | [], vs, _, h => by
    unfold RpL at h ⊢
    exact h
  | d :: ds, vs, n, h => by
    unfold RpL at h ⊢
    unfold NoDL at n
    obtain ⟨v, r, e, p, t⟩ := h
    exact ⟨v, r, e, Rp.lk hu ha n.1 p, RpL.lk hu ha n.2 t⟩
end
mutual
theorem Ow.lk {M : Addr → Prop} {H : Hp} {a : Addr} {u x : HO} {ks : Sh} {ws : List V} (hu : ObU ks ws u) (ha : H a = some u) : ∀ {d : Dt} {p : Pat} {v : V} {bs : List Addr}, Thin d p → (∀ b ∈ bs, b ≠ a) → Ow M H d p v bs → Ow M (upd H a x) d p v bs
  | .sc w, p, v, bs, _, _, h => by
    unfold Ow at h ⊢
    exact h
  | .node s ds, .sh, v, bs, n, _, h => by
    rw [ow_sh] at h ⊢
    unfold Thin at n
    exact ⟨h.1, h.2.lk hu ha n⟩
  | .node s ds, .ow p, v, bs, n, k, h => by
    unfold Ow at h ⊢
    unfold Thin at n
    obtain ⟨b, vs, cs, e, o, rfl, f⟩ := h
    exact ⟨b, vs, cs, e, ObAt.go (fun o e => by rw [upd_ne (k b List.mem_cons_self)]; exact e) o, rfl, OwF.lk hu ha n (fun c hc => k c (List.mem_cons_of_mem _ hc)) f⟩
  | .node s ds, .fs ps, v, bs, n, k, h => by
    unfold Ow at h ⊢
    unfold Thin at n
    obtain ⟨b, vs, cs, e, o, rfl, f⟩ := h
    exact ⟨b, vs, cs, e, ObAt.go (fun o e => by rw [upd_ne (k b List.mem_cons_self)]; exact e) o, rfl, OwF.lk hu ha n (fun c hc => k c (List.mem_cons_of_mem _ hc)) f⟩
theorem OwF.lk {M : Addr → Prop} {H : Hp} {a : Addr} {u x : HO} {ks : Sh} {ws : List V} (hu : ObU ks ws u) (ha : H a = some u) : ∀ {ds : List Dt} {ps : List Pat} {vs : List V} {bs : List Addr}, ThinF ds ps → (∀ b ∈ bs, b ≠ a) → OwF M H ds ps vs bs → OwF M (upd H a x) ds ps vs bs
  | [], ps, vs, bs, _, _, h => by
    unfold OwF at h ⊢
    exact h
  | d :: ds, [], vs, bs, n, _, h => by
    unfold ThinF at n
    exact n.elim
  | d :: ds, q :: qs, vs, bs, n, k, h => by
    unfold ThinF at n
    unfold OwF at h ⊢
    obtain ⟨p, pr, v, r, b, c, e1, e2, rfl, h1, h2⟩ := h
    obtain ⟨rfl, rfl⟩ := List.cons.inj e1
    exact ⟨q, qs, v, r, b, c, rfl, e2, rfl, Ow.lk hu ha n.1 (fun y hy => k y (List.mem_append_left _ hy)) h1, OwF.lk hu ha n.2 (fun y hy => k y (List.mem_append_right _ hy)) h2⟩
end
theorem OkL.lk {M : Addr → Prop} {H : Hp} {a : Addr} {u x : HO} {ks : Sh} {ws : List V} (hu : ObU ks ws u) (ha : H a = some u) : ∀ {ρ : List Sl} {σ : List (Option V)} {as : List Addr}, ThinL ρ → (∀ b ∈ as, b ≠ a) → OkL M H ρ σ as → OkL M (upd H a x) ρ σ as
  | [], σ, as, _, _, h => h
  | .una :: ρ, σ, as, n, k, ⟨r, e, t⟩ => ⟨r, e, OkL.lk hu ha n k t⟩
  | .any :: ρ, σ, as, n, k, ⟨y, r, e, t⟩ => ⟨y, r, e, OkL.lk hu ha n k t⟩
  | .own d p :: ρ, σ, as, n, k, ⟨v, r, bs, cs, e, ea, o, t⟩ => ⟨v, r, bs, cs, e, ea, o.lk hu ha n.1 fun b hb => k b (by rw [ea]; exact List.mem_append_left _ hb), OkL.lk hu ha n.2 (fun b hb => k b (by rw [ea]; exact List.mem_append_right _ hb)) t⟩
/-- what is known while a shared dict is locked -/
def ZS (Z : Hp → (Addr → Prop) → Prop) (a : Addr) (od : Obj) (u : HO) (H1 : Hp) (O1 : Addr → Prop) : Hp → (Addr → Prop) → Prop := fun H O => (¬ O a ∧ H a = some (.frz od u) ∧ Z (upd H a u) O) ∧ Lt H1 O1 H O
theorem ZS.mz {Z : Hp → (Addr → Prop) → Prop} {a : Addr} {od : Obj} {u : HO} {H1 : Hp} {O1 : Addr → Prop} (mz : ∀ H O H' O', Z H O → Lt H O H' O' → Z H' O') : ∀ H O H' O', ZS Z a od u H1 O1 H O → Lt H O H' O' → ZS Z a od u H1 O1 H' O' := by
  rintro H O H' O' ⟨⟨n, e, z⟩, l0⟩ l
  have nO' : ¬ O' a := fun q => by
    rcases l.2 a q with q | q
    · exact n q
    · rw [q] at e; cases e
  refine ⟨⟨nO', l.1 a _ n e, mz _ _ _ _ z ⟨fun b o nb hb => ?_, fun b hb => ?_⟩⟩, l0.trans l⟩
  · by_cases q : b = a
    · rw [q, upd_same] at hb ⊢
      exact hb
    · rw [upd_ne q] at hb ⊢
      exact l.1 b o nb hb
  · have q : b ≠ a := fun q => nO' (by rw [← q]; exact hb)
    rcases l.2 b hb with q2 | q2
    · exact .inl q2
    · exact .inr (by rw [upd_ne q]; exact q2)
section
variable {K : PySem.W.Frag} {F : Addr → Prop} {Z : Hp → (Addr → Prop) → Prop} {ρ : List Sl} {σ : L2.St} {H Hb : Hp} {M : Addr → Prop} {d : Dt} {p : Pat} {i j n : Nat} {te : TE} {s : Sh} {ds : List Dt} {α β : Type} {D : Ends} {tu tz : TS} {f : β → Dt}
theorem Ok.lockS (ok : Ok F Z ρ σ H M) (hi : ρ[i]? = some (st (.node s ds))) (hs : s.isD = true) (thin : ThinL (ρ.set i .any)) (hd : NoDL ds) : ∃ (a : Addr) (vs : List V) (u : HO), σ[i]? = some (some (.ref a)) ∧ H a = some u ∧ Mut (some u) ∧ ObU s vs u ∧ ¬ M a ∧
    ∀ od, Ok F (ZS Z a od u (upd H a (.frz od u)) (ownM M F)) (ρ.set i (st (.sc (.ref a)))) σ (upd H a (.frz od u)) M ∧ RpL M (upd H a (.frz od u)) ds vs ∧
      ∀ ρ' σ' H' M', Ok F (ZS Z a od u (upd H a (.frz od u)) (ownM M F)) ρ' σ' H' M' → ρ'[i]? = some (st (.sc (.ref a))) → H' a = some (.frz od u) ∧ ¬ M' a ∧ Ok F Z (ρ'.set i (st (.node s ds))) σ' (upd H' a u) M' := by
  obtain ⟨as, nd, own, sl⟩ := ok.sl
  obtain ⟨v, bs, cs, h1, h2, h3, h4⟩ := sl.out hi
  obtain ⟨rfl, hrp⟩ := ow_sh.mp h2
  unfold Rp at hrp
  obtain ⟨a, vs, rfl, nM, ob, r⟩ := hrp
  obtain ⟨u, hu, mt, hob⟩ := obU_at hs ob
  have hca : ∀ b ∈ cs, M b ∧ ¬ F b := fun b hb => own b (h4.subset (by simpa using hb))
  refine ⟨a, vs, u, h1, hu, mt, hob, nM, fun od => ?_⟩
  have hi' : i < ρ.length := (List.getElem?_eq_some_iff.mp hi).1
  have sl' := h3.lk (x := .frz od u) hob hu thin fun b hb z => nM (by rw [← z]; exact (hca b hb).1)
  obtain ⟨as', k1, k2⟩ := OkL.back (d := .sc (.ref a)) (p := .sh) (bs := []) (by unfold Ow; exact ⟨rfl, rfl, rfl⟩) hi' sl' h1
  refine ⟨⟨⟨as', k2.nodup_iff.mpr (by simpa using h4.nodup_iff.mpr nd), fun b hb => hca b (k2.subset hb), k1⟩, fun b hb hn => ?_, ok.fr, ⟨⟨fun z => nM z.1, upd_same, ok.mz _ _ _ _ ok.z ⟨fun b o nb e => ?_, fun b hb => .inl hb⟩⟩, Lt.refl _ _⟩, ZS.mz ok.mz⟩, r.lk hob hu hd, ?_⟩
  · have hne : b ≠ a := fun z => nM (by rw [← z]; exact hb)
    rw [upd_ne hne] at hn
    exact ok.al b hb hn
  · by_cases z : b = a
    · rw [z, upd_same]
      rw [z, hu] at e
      exact e
    · rw [upd_ne z, upd_ne z]
      exact e
  · intro ρ' σ' H' M' ok' hi2
    obtain ⟨⟨z1, z2, z3⟩, z4⟩ := ok'.z
    have hFa : ¬ F a := fun q => nM (ok.fr a q)
    have hM' : ¬ M' a := fun q => z1 ⟨q, hFa⟩
    refine ⟨z2, hM', ?_⟩
    have g2 : Go M (upd H a (.frz od u)) M' H' := fun b o nb e => by
      have nO : ¬ ownM M F b := fun q => nb q.1
      refine ⟨z4.1 b o nO e, fun q => ?_⟩
      by_cases hf : F b
      · exact nb (ok.fr b hf)
      · rcases z4.2 b ⟨q, hf⟩ with w | w
        · exact nO w
        · rw [e] at w; cases w
    have hr := (r.lk (x := .frz od u) hob hu hd).go g2
    obtain ⟨as2, nd3, own2, sl2⟩ := ok'.sl
    obtain ⟨v2, b2, c2, q1, q2, q3, q4⟩ := sl2.out hi2
    unfold Ow at q2
    obtain ⟨_, rfl, rfl⟩ := q2
    have hi3 : i < ρ'.length := (List.getElem?_eq_some_iff.mp hi2).1
    have sl3 := q3.un (x := u) (M' := M') z2 fun b _ nb => nb
    obtain ⟨as3, w1, w2⟩ := OkL.back (d := .node s ds) (p := .sh) (bs := []) (ow_sh.mpr ⟨rfl, by
      unfold Rp
      exact ⟨a, vs, rfl, hM', obU_to hob upd_same, hr.un z2 fun b _ nb => nb⟩⟩) hi3 sl3 q1
    refine ⟨⟨as3, w2.nodup_iff.mpr (by simpa using q4.nodup_iff.mpr nd3), fun b hb => own2 b (q4.subset (by simpa using w2.subset hb)), w1⟩, fun b hb hn => ?_, ok'.fr, z3, ok.mz⟩
    have hne : b ≠ a := fun z => hM' (by rw [← z]; exact hb)
    rw [upd_ne hne] at hn
    exact ok'.al b hb hn
theorem RetP.lockS {a : Addr} {od : Obj} {u : HO} {Q : VK} (h : RetP F Hb d p Q) (hn : ∀ o, Hb a = some o → o = u) : RetP F (upd Hb a (.frz od u)) d p (fun v H' => H' a = some (.frz od u) ∧ Q v (upd H' a u)) := fun v bs H' e nd n w => by
  have ha : H' a = some (.frz od u) := e a _ upd_same
  refine ⟨ha, h v bs _ (fun b o hb => ?_) nd (fun b hb => ?_) (w.un ha fun b _ nb => nb)⟩
  · by_cases z : b = a
    · rw [z] at hb ⊢
      rw [upd_same, hn o hb]
    · rw [upd_ne z]
      exact e b o (by rw [upd_ne z]; exact hb)
  · have := n b hb
    by_cases z : b = a
    · rw [z, upd_same] at this; cases this
    · rw [upd_ne z] at this; exact this
theorem ZS.zz {a : Addr} {od : Obj} {u : HO} {H1 : Hp} {O1 : Addr → Prop} (zz : ∀ H O, Z H O → Lt Hb Mo H O) : ∀ H O, ZS Z a od u H1 O1 H O → Lt (upd Hb a (.frz od u)) Mo H O := by
  rintro H O ⟨⟨n, e, z⟩, _⟩
  have l := zz _ _ z
  refine ⟨fun b o nb hb => ?_, fun b hb => .inr ?_⟩
  · by_cases q : b = a
    · rw [q, upd_same] at hb
      rw [q, e]
      exact hb
    · rw [upd_ne q] at hb
      have := l.1 b o (fun z => z) hb
      rwa [upd_ne q] at this
  · have q : b ≠ a := fun q => n (by rw [← q]; exact hb)
    rw [upd_ne q]
    rcases l.2 b hb with w | w
    · exact w.elim
    · exact w
/-- for k, x in d.items(): a shared dict -/
theorem c_itemsS {κ : α → Key} {r : List (α × β)} {g1 g2 : TG} {js1 js2 : List Nat} {u1 : α → List Sl → List Sl} {u2 : β → List Sl → List Sl} (P : Addr → Nat → List Sl → Prop) (ok : Ok F Z ρ σ H M) (hi : ρ[i]? = some (st (uDK κ f r))) (thin : ThinL (ρ.set i .any)) (hf : ∀ x, NoD (f x)) (zz : ∀ H O, Z H O → Lt Hb Mo H O)
    (t1 : ∀ x, Tgt (.sc (kV (κ x))) g1 js1 (u1 x)) (t2 : ∀ x, Tgt (f x) g2 js2 (u2 x))
    (h0 : ∀ a, P a 0 (ρ.set i (st (.sc (.ref a))))) (hP : ∀ a n ρ', P a n ρ' → ρ'[i]? = some (st (.sc (.ref a))))
    (turn : ∀ a Z' Hb' R' B', (∀ H O, Z' H O → Lt Hb' Mo H O) → (∀ d p, RetP F Hb d p D.rt → RetP F Hb' d p R') → ∀ n x ρ' M' σ' H', r[n]? = some x → P a n ρ' → Ok F Z' (u2 x.2 (u1 x.1 ρ')) σ' H' M' → tu { nx := Nx F Z' (P a (n + 1)), rt := R', bk := B', ct := Nx F Z' (P a (n + 1)) } σ' H')
    (done : ∀ a ρ' M' σ' H', P a r.length ρ' → Ok F Z (ρ'.set i (st (uDK κ f r))) σ' H' M' → D.nx σ' H') : tLock (tFor (iItems (tVar i)) (gTup K 2 (gCons g1 (gCons g2 gNil))) tu) D σ H := by
  obtain ⟨a, vs, u, hv, hu, mt, hob, ha, L⟩ := ok.lockS hi rfl thin (by
    have := noDL_map (f := f) hf (r.map (·.2))
    rwa [List.map_map] at this)
  refine ⟨a, u, hu, mt, fun od => ?_⟩
  obtain ⟨ok1, r1, un⟩ := L od
  obtain ⟨rfl, hl⟩ := hob
  have hn : ∀ o, Hb a = some o → o = HO.dK ((r.map fun p => κ p.1).zip vs) := fun o ho => by
    have := (zz _ _ ok.z).1 a o (fun z => z) ho
    rw [hu] at this
    exact (Option.some.inj this).symm
  refine c_for (P a) ok1 (j_itemsL hv upd_same r1 ha t1 t2) (h0 a) ?_ ?_
  · intro Z' zz' n x ρ' M' σ' H' hx hp ok'
    exact turn a Z' _ _ _ (fun H O z => ZS.zz zz _ _ (zz' _ _ z)) (fun d p k => k.lockS hn) n x ρ' M' σ' H' hx hp ok'
  · intro ρ' M' σ' H' hp ok'
    obtain ⟨e1, _, ok2⟩ := un _ _ _ _ ok' (hP _ _ _ hp)
    exact ⟨e1, done a _ _ _ _ hp ok2⟩
theorem b_itemsS {κ : α → Key} {r : List (α × β)} {g1 g2 : TG} {js1 js2 : List Nat} {u1 : α → List Sl → List Sl} {u2 : β → List Sl → List Sl} (P : Addr → Nat → List Sl → Prop) (ok : Ok F Z ρ σ H M) (hi : ρ[i]? = some (st (uDK κ f r))) (thin : ThinL (ρ.set i .any)) (hf : ∀ x, NoD (f x)) (zz : ∀ H O, Z H O → Lt Hb Mo H O)
    (t1 : ∀ x, Tgt (.sc (kV (κ x))) g1 js1 (u1 x)) (t2 : ∀ x, Tgt (f x) g2 js2 (u2 x))
    (h0 : ∀ a, P a 0 (ρ.set i (st (.sc (.ref a))))) (hP : ∀ a n ρ', P a n ρ' → ρ'[i]? = some (st (.sc (.ref a))))
    (turn : ∀ a Z' Hb' R' B', (∀ H O, Z' H O → Lt Hb' Mo H O) → (∀ d p, RetP F Hb d p D.rt → RetP F Hb' d p R') → ∀ n x ρ' M' σ' H', r[n]? = some x → P a n ρ' → Ok F Z' (u2 x.2 (u1 x.1 ρ')) σ' H' M' → tu { nx := Nx F Z' (P a (n + 1)), rt := R', bk := B', ct := Nx F Z' (P a (n + 1)) } σ' H')
    (done : ∀ a ρ' M' σ' H', P a r.length ρ' → Ok F Z (ρ'.set i (st (uDK κ f r))) σ' H' M' → tz D σ' H') : tSeq (tLock (tFor (iItems (tVar i)) (gTup K 2 (gCons g1 (gCons g2 gNil))) tu)) tz D σ H := c_itemsS (D := { D with nx := tz D }) P ok hi thin hf zz t1 t2 h0 hP turn done
end
end Ho
/-! ### sum(lists, []) -/
namespace Ho
open PySem PySem.Spec PyProof.Rows L2 Evl
section
variable {prog : Program} {w : World} {A : Around} {E : Value → Shared → Prop} {s : Shared}
theorem add_raw {l b : Addr} {xs ys : Array Value} {Q : Value → Shared → Prop} (hl : s.heap.IsList l xs) (hb : s.heap.IsList b ys) (hz : xs.size + ys.size ≤ sizeLine)
    (h : Q (.ref s.heap.objs.size) { s with heap := s.heap.push { cls := .type "list", data := .seq (xs ++ ys) } }) : wpAny (model prog w) A (binaryOp .Add (.ref l) (.ref b)) Q E s := by
  obtain ⟨⟨c1, d1, t1, s1⟩, o1, k1, n1, e1⟩ := id hl
  obtain ⟨⟨c2, d2, t2, s2⟩, o2, k2, n2, e2⟩ := id hb
  simp only at k1 e1 k2 e2
  subst k1 e1 k2 e2
  exact concat_meets ⟨_, o1, rfl⟩ ⟨_, o2, rfl⟩ noFill_list_add seq_list_add PySem.F.slot_list_add PySem.F.entry_list_add (PySem.F.args_list_add_2 _ _) (list_addW l b xs ys n1 n2 d1 d2 s1 s2 hz) ⟨o1, o2, h⟩
theorem sum_goL {I S : Addr} {fp wr : List Addr} {n : Nat} {P : Nat → Value → Prop} {St : Nat → Heap → Prop} {R : Result → Shared → Prop} (W : Walks prog w A.in1 I fp wr n P St) (h0 : Heap) (xs : Nat → Array Value) (hval : ∀ i v, P i v → ∃ a, v = .ref a ∧ h0.IsList a (xs i)) (hSf : S ∉ fp) (hS0 : h0.objs.size ≤ S) (hwr : ∀ b ∈ wr, h0.objs.size ≤ b) (hlive : ∀ i h, St i h → ∀ b ∈ fp, b < h.objs.size)
    (cat : Nat → Array Value) (hcs : ∀ i, i < n → cat (i + 1) = cat i ++ xs i) (hz : ∀ i, i < n → (cat i).size + (xs i).size ≤ sizeLine) :
    ∀ (k i : Nat) (s : Shared) (t : Addr) (c : Nat), n - i = k → i ≤ n → St i s.heap → s.heap.get? S = some { cls := .type "list", dict := none, data := .seq #[.ref t] c, slots := #[] } → (∀ b o, h0.get? b = some o → s.heap.get? b = some o) →
    ((i = 0 ∧ h0.IsList t (cat 0)) ∨ (i ≠ 0 ∧ h0.objs.size ≤ t ∧ t ≠ S ∧ t ∉ fp ∧ s.heap.get? t = some { cls := .type "list", data := .seq (cat i) })) →
    (∀ h' tk t', (∀ b o, h0.get? b = some o → h'.get? b = some o) → ((n = 0 ∧ t' = t) ∨ (n ≠ 0 ∧ h0.objs.size ≤ t' ∧ h'.get? t' = some { cls := .type "list", data := .seq (cat n) })) → R (.ok (.ret (.ref t'))) { s with heap := h', toks := tk }) →
    codeAny (model prog w) A (.builtin "sum.loop" ⟨[.ref I, .ref S, rawInt 2, rawInt 0], []⟩) R s := by
  have hSw : S ∉ wr := fun h => hSf (W.sub _ h)
  intro k
  induction k with
  | zero =>
    intro i s t c hk hi hst hS hkeep ht hR
    have hin : i = n := by omega
    subst hin
    refine codeAny_builtin F.entry_sum_loop ?_
    rw [Around.under_plainId F.plain_sum_loop _]
    show wpAny _ A.in1 (seqItems? (.ref S) >>= _) _ _ s
    refine wpAny_bind (wpAny_seqItems hS rfl ?_)
    show wpAny _ A.in1 (tryCatch (pyNext (.ref I)) _ >>= _) _ _ s
    refine wpAny_bind (wpAny_tryCatch (W.done s _ _ hst fun h' tk hm => ?_))
    refine wpAny_pure (hR h' tk t (fun b o e => hm b o (fun hb => ?_) (hkeep b o e)) ?_)
    · exact absurd (Heap.lt_size e) (Nat.not_lt.mpr (hwr b hb))
    · rcases ht with ⟨e, _⟩ | ⟨e, h1, h2, h3, h4⟩
      · exact .inl ⟨e, rfl⟩
      · exact .inr ⟨e, h1, hm t _ (fun hb => h3 (W.sub _ hb)) h4⟩
  | succ k ih =>
    intro i s t c hk hi hst hS hkeep ht hR
    have hlt : i < n := by omega
    refine codeAny_builtin F.entry_sum_loop ?_
    rw [Around.under_plainId F.plain_sum_loop _]
    show wpAny _ A.in1 (seqItems? (.ref S) >>= _) _ _ s
    refine wpAny_bind (wpAny_seqItems hS rfl ?_)
    show wpAny _ A.in1 (tryCatch (pyNext (.ref I)) _ >>= _) _ _ s
    refine wpAny_bind (wpAny_tryCatch (W.item i s _ _ hlt hst fun v h1 tk hP hst1 hm => ?_))
    obtain ⟨a, rfl, ha⟩ := hval i v hP
    have kp : ∀ b o, h0.get? b = some o → h1.get? b = some o := fun b o e => hm b o (fun hb => by
      exact absurd (Heap.lt_size e) (Nat.not_lt.mpr (hwr b hb))) (hkeep b o e)
    have hS1 := hm S _ hSw hS
    have hS1lt : S < h1.objs.size := Heap.lt_size hS1
    have hla : h1.IsList a (xs i) := by
      obtain ⟨o, e1, e2, e3⟩ := ha
      exact ⟨o, kp _ _ e1, e2, e3⟩
    have htl : h1.IsList t (cat i) ∧ t ≠ S := by
      rcases ht with ⟨e, h⟩ | ⟨e, q1, q2, q3, q4⟩
      · subst e
        obtain ⟨o, e1, e2, e3⟩ := h
        exact ⟨⟨o, kp _ _ e1, e2, e3⟩, fun z => absurd (Heap.lt_size e1) (Nat.not_lt.mpr (by rw [z]; exact hS0))⟩
      · exact ⟨⟨_, hm t _ (fun hb => q3 (W.sub _ hb)) q4, rfl, _, rfl⟩, q2⟩
    show wpAny _ A.in1 ((holding [Value.ref a] (binaryOp .Add (.ref t) (.ref a))).attempt >>= _) _ _ _
    refine wpAny_bind (wpAny_attempt (wpAny_holding (add_raw htl.1 hla (hz i hlt) ?_)))
    have hS2 : (h1.push { cls := .type "list", data := .seq (cat i ++ xs i) }).get? S = some { cls := .type "list", dict := none, data := .seq #[.ref t] c, slots := #[] } := Heap.get?_push_of_some _ hS1
    have hR2 : (h1.push { cls := .type "list", data := .seq (cat i ++ xs i) }).get? h1.objs.size = some { cls := .type "list", data := .seq (cat i ++ xs i) } := Heap.get?_push_size _ rfl
    show wpAny _ A.in1 (updateSeq S (fun _ => #[.ref h1.objs.size]) >>= _) _ _ _
    refine wpAny_bind (wpAny_updateSeq hS2 rfl ?_)
    have hS3 := Heap.get?_update_self (Obj.mapSeq fun _ => #[Value.ref h1.objs.size]) hS2 rfl
    refine wpAny_bind (wpAny_letGo ?_)
    have hne : S ≠ h1.objs.size := Nat.ne_of_lt hS1lt
    have oth : ∀ b o, b ≠ S → h1.get? b = some o → (((h1.push { cls := .type "list", data := .seq (cat i ++ xs i) }).update S (Obj.mapSeq fun _ => #[Value.ref h1.objs.size])).update S (Obj.mapSeq fun _ => #[Value.ref h1.objs.size])).get? b = some o := fun b o hb e =>
      (Heap.get?_update_other _ _ (Ne.symm hb)).trans ((Heap.get?_update_other _ _ (Ne.symm hb)).trans (Heap.get?_push_of_some _ e))
    refine wpAny_bind (wpAny_updateSeq hS3 rfl (wpAny_pure ⟨plainId_quiet F.plain_sum_loop _, ih (i + 1) _ h1.objs.size _ (by omega) hlt (W.frame _ _ _ hst1 fun b hb o e => oth b o (fun z => hSf (by rw [← z]; exact hb)) e) (Heap.get?_update_self _ hS3 rfl) (fun b o e => oth b o (fun z => absurd (Heap.lt_size e) (Nat.not_lt.mpr (by rw [z]; exact hS0))) (kp b o e)) (.inr ⟨Nat.succ_ne_zero i, Nat.le_of_lt (Nat.lt_of_le_of_lt hS0 hS1lt), fun z => hne z.symm, fun z => absurd (hlive _ _ hst1 _ z) (Nat.lt_irrefl _), ?_⟩) fun h' tk' t' q1 q2 => hR h' tk' t' q1 ?_⟩))
    · rw [hcs i hlt]
      exact (Heap.get?_update_other _ _ hne).trans ((Heap.get?_update_other _ _ hne).trans hR2)
    · rcases q2 with ⟨e, _⟩ | h
      · omega
      · exact .inr h
theorem call_sumL {l b : Addr} {as : List Addr} {yss : List (List Value)} {Q : Value → Shared → Prop} (hh : A.handled = none) (hl : s.heap.IsList l (as.map Value.ref).toArray) (hb : s.heap.IsList b #[]) (hy : as.length = yss.length) (hit : ∀ (i : Nat) (a : Addr) (ys : List Value), as[i]? = some a → yss[i]? = some ys → s.heap.IsList a ys.toArray) (hz : yss.flatten.length ≤ sizeLine)
    (h : ∀ h' tk t, (∀ c o, s.heap.get? c = some o → h'.get? c = some o) → ((as = [] ∧ t = b) ∨ (as ≠ [] ∧ s.heap.objs.size ≤ t ∧ h'.get? t = some { cls := .type "list", data := .seq yss.flatten.toArray })) → Q (.ref t) { s with heap := h', toks := tk }) :
    wpAny (model prog w) A (call (.builtin "sum") [.ref l, .ref b]) Q E s := by
  refine call_function_tree F.kind_sum F.plain_sum F.entry_sum (by unfold argsOk; kernel_rfl) ?_
  unfold Builtin.«sum»
  simp only [List.length_cons, List.length_nil]
  rw [if_neg (by decide)]
  refine wpAny_bind (wpAny_of_eq (show Builtin.Builtins.bindParams "sum" ["start"] 0 ⟨[.ref b], []⟩ = pure [some (.ref b)] from rfl) ?_)
  refine wpAny_bind (wpAny_pyIter_list hl ?_)
  refine wpAny_bind (wpAny_pure ?_)
  simp only [List.forIn_cons, List.forIn_nil]
  have tb : ∀ (x : Obj), Shared.TypeIs { s with heap := s.heap.push x } (.ref b) "list" := fun x => by
    obtain ⟨o, e1, e2, _⟩ := hb
    exact ⟨o, Heap.get?_push_of_some _ e1, e2⟩
  refine wpAny_bind (wpAny_bind (wpAny_bind (wpAny_isInstance (T := "list") (b := false) (tb _) (by rw [isSubtype_type]; kernel_rfl) ?_)))
  simp only [Bool.false_eq_true, if_false]
  refine wpAny_pure (wpAny_bind (wpAny_bind (wpAny_isInstance (T := "list") (b := false) (tb _) (by rw [isSubtype_type]; kernel_rfl) ?_)))
  simp only [Bool.false_eq_true, if_false]
  refine wpAny_pure (wpAny_bind (wpAny_bind (wpAny_isInstance (T := "list") (b := false) (tb _) (by rw [isSubtype_type]; kernel_rfl) ?_)))
  simp only [Bool.false_eq_true, if_false]
  refine wpAny_pure (wpAny_pure ?_)
  refine wpAny_bind (wpAny_newObj_type ?_)
  have hlI : l ≠ s.heap.objs.size := fun z => by
    obtain ⟨o, e1, _⟩ := hl
    exact absurd (Heap.lt_size e1) (by rw [z]; exact Nat.lt_irrefl _)
  have hsz1 : (s.heap.push { cls := .type "list_iterator", data := .fields #[.ref l, .int 0 0] }).objs.size = s.heap.objs.size + 1 := Array.size_push _
  have nI : s.heap.objs.size < (s.heap.push { cls := .type "list_iterator", data := .fields #[.ref l, .int 0 0] }).objs.size := by rw [hsz1]; exact Nat.lt_succ_self _
  have hz2 : ∀ i, i < (as.map Value.ref).toArray.size → i < yss.length := fun i hi => by simpa [hy] using hi
  have hcat : ∀ i, i < yss.length → (yss.take (i + 1)).flatten = (yss.take i).flatten ++ yss.getD i [] := fun i hi => by
    rw [List.take_succ, List.getElem?_eq_getElem hi, List.flatten_append, List.getD_eq_getElem?_getD, List.getElem?_eq_getElem hi]
    simp
  have hlen : ∀ i, i < yss.length → (yss.take i).flatten.length + (yss.getD i []).length ≤ sizeLine := fun i hi => by
    have h1 := hcat i hi
    have h2 : (yss.take (i + 1)).flatten.length ≤ yss.flatten.length := by
      conv => rhs; rw [← List.take_append_drop (i + 1) yss]
      rw [List.flatten_append, List.length_append]
      omega
    rw [h1, List.length_append] at h2
    omega
  refine wpAny_pure ⟨plainId_quiet F.plain_sum_loop _, sum_goL (Walks.list (prog := prog) (w := w) (A := A.in1) hh s.heap.objs.size l hlI (as.map Value.ref).toArray) s.heap (fun i => (yss.getD i []).toArray) (fun i v e => ?_) (fun z => ?_) (Nat.le_of_lt nI) (fun b hb => by rw [List.mem_singleton.mp hb]; exact Nat.le_refl _) (fun i g st b hb => ?_) (fun i => (yss.take i).flatten.toArray) (fun i hi => ?_) (fun i hi => ?_) _ 0 _ b 0 rfl (Nat.zero_le _) ⟨⟨_, Heap.get?_push_of_some _ (Heap.get?_push_size _ rfl), rfl, rfl⟩, hl.at fun o e => Heap.get?_push_of_some _ (Heap.get?_push_of_some _ e)⟩ (Heap.get?_push_size _ rfl) (fun c o e => Heap.get?_push_of_some _ (Heap.get?_push_of_some _ e)) (.inl ⟨rfl, hb⟩) fun h' tk t q1 q2 => ?_⟩
  · simp only [List.getElem?_toArray, List.getElem?_map] at e
    cases ea : as[i]? with
    | none => rw [ea] at e; cases e
    | some a =>
      rw [ea] at e
      have hil : i < yss.length := by rw [← hy]; exact (List.getElem?_eq_some_iff.mp ea).1
      refine ⟨a, (Option.some.inj e).symm, hit i a _ ea ?_⟩
      rw [List.getD_eq_getElem?_getD, List.getElem?_eq_getElem hil]
      rfl
  · rcases List.mem_cons.mp z with z | z
    · exact absurd nI (by rw [z]; exact Nat.lt_irrefl _)
    · obtain ⟨o, e1, _⟩ := hl
      have := Heap.lt_size e1
      rw [← List.mem_singleton.mp z] at this
      exact absurd (Nat.lt_trans nI this) (Nat.lt_irrefl _)
  · rcases List.mem_cons.mp hb with z | z
    · obtain ⟨o, e1, _⟩ := st.1
      rw [z]
      exact Heap.lt_size e1
    · obtain ⟨o, e1, _⟩ := st.2
      rw [List.mem_singleton.mp z]
      exact Heap.lt_size e1
  · rw [hcat i (hz2 i hi)]
    simp
  · simpa using hlen i (hz2 i hi)
  · refine h h' tk t q1 ?_
    rcases q2 with ⟨e, e2⟩ | ⟨e, e1, e2⟩
    · refine .inl ⟨?_, e2⟩
      simpa using e
    · refine .inr ⟨fun z => e (by simp [z]), e1, ?_⟩
      rw [e2]
      have : (as.map Value.ref).toArray.size = yss.length := by simp [hy]
      rw [this, List.take_length]
end
end Ho
namespace Ho
open PySem PySem.Spec PyProof.Rows L2 Evl
/-- sum(xss, []) -/
def rSumL (K : PySem.W.Frag) : List V → Hp → VK → Prop := fun vs H Q => ∃ (a b : Addr) (as : List Addr) (yss : List (List V)), vs = [.ref a, .ref b] ∧ SqL K H a (as.map V.ref) ∧ H b = some (.lst []) ∧ as.length = yss.length ∧ (∀ (i : Nat) (c : Addr) (ys : List V), as[i]? = some c → yss[i]? = some ys → SqL K H c ys) ∧ yss.flatten.length ≤ sizeLine ∧
  (as = [] → Q (.ref b) H) ∧ (as ≠ [] → ∀ p, H p = none → Q (.ref p) (upd H p (.lst yss.flatten)))
theorem refs_of {as : List Addr} : ∀ {us : List Value}, Vals (as.map V.ref) us → us = as.map Value.ref := by
  induction as with
  | nil => intro us h; cases h; rfl
  | cons a as ih =>
    intro us h
    cases h with
    | cons h1 h2 =>
      rw [List.map_cons, ih h2]
      cases h1
      rfl
theorem vals_flat : ∀ {xss : List (List V)} {uss : List (List Value)}, xss.length = uss.length → (∀ (i : Nat) (xs : List V) (us : List Value), xss[i]? = some xs → uss[i]? = some us → Vals xs us) → Vals xss.flatten uss.flatten
  | [], [], _, _ => .nil
  | [], _ :: _, h, _ => by cases h
  | _ :: _, [], h, _ => by cases h
  | xs :: xss, us :: uss, h, k => (k 0 xs us rfl rfl).append (vals_flat (Nat.succ.inj h) fun i a b e1 e2 => k (i + 1) a b (by simpa using e1) (by simpa using e2))
theorem lists_at {X : Cx} {ps : List (Addr × Obj)} {σ : L2.St} {H : Hp} {s : Shared} (I : Inv X ps σ H s) : ∀ {as : List Addr} {yss : List (List V)}, as.length = yss.length → (∀ (i : Nat) (c : Addr) (ys : List V), as[i]? = some c → yss[i]? = some ys → SqL X.K H c ys) →
    ∃ uss : List (List Value), uss.length = yss.length ∧ (∀ (i : Nat) (xs : List V) (us : List Value), yss[i]? = some xs → uss[i]? = some us → Vals xs us) ∧ ∀ (i : Nat) (a : Addr) (us : List Value), as[i]? = some a → uss[i]? = some us → s.heap.IsList a us.toArray
  | [], [], _, _ => ⟨[], rfl, fun i xs us e => by simp at e, fun i a us e => by simp at e⟩
  | [], _ :: _, h, _ => by cases h
  | _ :: _, [], h, _ => by cases h
  | a :: as, ys :: yss, h, k => by
    obtain ⟨uss, h1, h2, h3⟩ := lists_at I (as := as) (yss := yss) (Nat.succ.inj h) fun i c xs e1 e2 => k (i + 1) c xs (by simpa using e1) (by simpa using e2)
    obtain ⟨its, rv, hl, _⟩ := I.list (k 0 a ys rfl rfl)
    refine ⟨its :: uss, by simp [h1], fun i xs us e1 e2 => ?_, fun i c us e1 e2 => ?_⟩
    · cases i with
      | zero =>
        simp at e1 e2
        subst e1 e2
        exact rv
      | succ i => exact h2 i xs us (by simpa using e1) (by simpa using e2)
    · cases i with
      | zero =>
        simp at e1 e2
        subst e1 e2
        exact hl.isList
      | succ i => exact h3 i c us (by simpa using e1) (by simpa using e2)
theorem cr_sumL {X : Cx} {K : PySem.W.Frag} (hc : X.calm = true) (hK : X.K = K := by rfl) : CallR X (.builtin "sum") (rSumL K) := by
  subst hK
  rintro ps s σ H xs us Q I r ⟨a, b, as, yss, rfl, ha, hb, hn, hl, hz, q0, q1⟩
  obtain ⟨its, rv, pl, _⟩ := I.list ha
  obtain rfl := refs_of rv
  obtain ⟨its2, rv2, pl2, _⟩ := I.list (SL.q (slof (K := X.K) hb))
  cases rv2
  obtain ⟨uss, h1, h2, h3⟩ := lists_at I hn hl
  have vf := vals_flat h1.symm h2
  have hlen := vf.length
  cases r with
  | cons r1 r2 =>
  cases r2 with
  | cons r3 r4 =>
  cases r4
  cases r1
  cases r3
  refine call_sumL (I.ok.hd hc) pl.isList pl2.isList (by omega) h3 (by omega) fun h' tk t kp ht => ?_
  rcases ht with ⟨e, rfl⟩ | ⟨e, e1, e2⟩
  · exact ⟨.ref t, H, I.kept (t' := tk) kp, rfl, q0 e⟩
  · exact ⟨.ref t, _, I.laid (t' := tk) (o := .lst yss.flatten) kp e1 ⟨hz, uss.flatten, 0, vf, e2⟩, rfl, q1 e t (I.hok.fresh e1)⟩
section
variable {K : PySem.W.Frag} {σ : L2.St} {H : Hp} {M : Addr → Prop} {te : TE}
theorem p_sumL {α : Type} {f : α → Dt} {xss : List (List α)} (h : EvN M te σ H .l (xss.map (uL f))) (hz : xss.flatten.length ≤ 100000) : EvP M (tCB (rSumL K) (tCons te (tCons (tLst tNil) tNil))) σ H (uL f xss.flatten) (.ow .sh) := fun H1 e Q q =>
  h H1 e _ fun v H2 e2 ⟨a, vs, ev, ho, hr⟩ => by
    subst ev
    refine ⟨sz_of (by simp), fun b hb => ?_⟩
    have e3 : Ex H2 (upd H2 b (.lst [])) := Ex.new hb
    have parts : ∀ {zss : List (List α)} {vs : List V}, RpL M H2 (zss.map (uL f)) vs → ∃ (as : List Addr) (yss : List (List V)), vs = as.map V.ref ∧ as.length = yss.length ∧ yss.length = zss.length ∧ (∀ (i : Nat) (c : Addr) (ys : List V), as[i]? = some c → yss[i]? = some ys → H2 c = some (.lst ys)) ∧ RpL M H2 (zss.flatten.map f) yss.flatten := by
      intro zss
      induction zss with
      | nil =>
        intro vs h
        rw [List.map_nil] at h
        unfold RpL at h
        exact ⟨[], [], h, rfl, rfl, fun i c ys e => by simp at e, by unfold RpL; rfl⟩
      | cons zs zss ih =>
        intro vs h
        rw [List.map_cons] at h
        unfold RpL at h
        obtain ⟨v, r, rfl, h1, h2⟩ := h
        unfold Rp at h1
        obtain ⟨c, ws, rfl, n, o, rr⟩ := h1
        obtain ⟨as, yss, e1, e2, e3, e4, e5⟩ := ih h2
        refine ⟨c :: as, ws :: yss, by rw [e1]; rfl, by simp [e2], by simp [e3], fun i c2 ys k1 k2 => ?_, ?_⟩
        · cases i with
          | zero =>
            simp at k1 k2
            subst k1 k2
            exact o
          | succ i => exact e4 i c2 ys (by simpa using k1) (by simpa using k2)
        · rw [List.flatten_cons, List.flatten_cons, List.map_append]
          exact rr.app e5
    obtain ⟨as, yss, rfl, n1, n2, n3, n4⟩ := parts hr
    have hlen := n4.len
    rw [List.length_map] at hlen
    refine ⟨a, b, as, yss, rfl, (slof (K := K) (e3 _ _ ho)).q, upd_same, n1, fun i c ys k1 k2 => (slof (K := K) (e3 _ _ (n3 i c ys k1 k2))).q, sz_of (by omega), fun z => ?_, fun z p hp => ?_⟩
    · subst z
      have hy : yss = [] := List.eq_nil_of_length_eq_zero n1.symm
      subst hy
      have hx : xss = [] := List.eq_nil_of_length_eq_zero n2.symm
      subst hx
      exact q _ [b] _ (e2.trans e3) (by simp) (by simpa using fresh_back e2 hb) (ow_mu.mpr ⟨b, [], rfl, upd_same, rfl, by simp [RpL]⟩)
    · have e4 := Ex.new (o := .lst yss.flatten) hp
      exact q _ [p] _ ((e2.trans e3).trans e4) (by simp) (by simpa using fresh_back (e2.trans e3) hp) (ow_mu.mpr ⟨p, yss.flatten, rfl, upd_same, rfl, RpL.go (Go.add (Ex.trans e3 e4) (by simpa using fresh_back e3 hp)) n4⟩)
end
end Ho
namespace Ho
open PySem PySem.Spec PyProof.Rows L2 Evl
section
variable {K : PySem.W.Frag} {σ : L2.St} {H : Hp} {M : Addr → Prop} {ta tb : TE} {ds : List Dt}
theorem ev_isiNL {n : String} {b : Bool} (ha : EvN M ta σ H .l ds) (hb : Ev tb σ H (.ty n)) (hk : kitB "list" n = some b) : Ev (tCB (rIsi K) (tCons ta (tCons tb tNil))) σ H (.bl b) :=
  ev_isi ha hb (fun v H1 _ hv => by obtain ⟨p, vs, rfl, h, _⟩ := hv; exact tyx_L (slof h)) (mon_N _ _ _) (.ty n) (kit_ty hk)
end
end Ho
namespace Ho
open PySem PySem.Spec PyProof.Rows L2 Evl
theorem scal_O (a b : Option Int) : scal (vO a) (vO b) = true := by cases a <;> cases b <;> rfl
theorem dec_O {a b : Option Int} : decide (vO a = vO b) = decide (a = b) := by
  cases a with
  | none => cases b with
    | none => rfl
    | some j => exact decide_eq_decide.mpr ⟨fun z => (by cases z), fun z => (by cases z)⟩
  | some i => cases b with
    | none => exact decide_eq_decide.mpr ⟨fun z => (by cases z), fun z => (by cases z)⟩
    | some j => exact decide_eq_decide.mpr ⟨fun z => (by cases z; rfl), fun z => (by cases z; rfl)⟩
theorem flat_O (l : List (Option Int)) : (l.map vO).all flatV = true := by
  rw [List.all_map, List.all_eq_true]
  intro o _
  cases o <;> rfl
theorem inV_O (l : List (Option Int)) : inV .non (l.map vO) = l.any fun o => o.isNone := by
  unfold inV
  rw [List.any_map]
  congr 1
  funext o
  cases o <;> rfl
section
variable {K : PySem.W.Frag} {σ : L2.St} {H : Hp} {ta tb : TE} {a b : Option Int}
theorem ev_eqO (ha : Ev ta σ H (vO a)) (hb : Ev tb σ H (vO b)) : Ev (tOp rEq ta tb) σ H (.bl (decide (a = b))) := ev_op ha hb fun H1 e Q q => ⟨scal_O a b, by rw [dec_O]; exact q H1 (Ex.refl H1)⟩
theorem ev_neO (ha : Ev ta σ H (vO a)) (hb : Ev tb σ H (vO b)) : Ev (tOp rNe ta tb) σ H (.bl (!decide (a = b))) := ev_op ha hb fun H1 e Q q => ⟨scal_O a b, by rw [dec_O]; exact q H1 (Ex.refl H1)⟩
theorem ev_ninO {l : List (Option Int)} (ha : Ev ta σ H .non) (hb : EvQ K tb σ H (l.map vO)) : Ev (tOp (rIn K true) ta tb) σ H (.bl (!l.any fun o => o.isNone)) := (inV_O l) ▸ ev_ninQ ha hb rfl (flat_O l)
end
end Ho

/-! defs that make lambdas: the tables of code objects grow; all else is as before -/
namespace Ho
open PySem PySem.Spec PyProof.Rows L2 Evl LamX
/-- what may be owned: no table, nothing told by its object -/
def Plain (H : Hp) (a : Addr) : Prop := ∃ o, H a = some o ∧ (∀ ps, o ≠ .tbl ps) ∧ ∀ φ, o ≠ .ext φ
theorem ObAt.plain {H : Hp} {s : Sh} {a : Addr} {vs : List V} (h : ObAt H s a vs) : Plain H a := by
  cases s with
  | l => exact ⟨_, h, fun _ z => (by cases z), fun _ z => (by cases z)⟩
  | t => exact ⟨_, h, fun _ z => (by cases z), fun _ z => (by cases z)⟩
  | d ks => exact ⟨_, h.1, fun _ z => (by cases z), fun _ z => (by cases z)⟩
  | e ks => exact ⟨_, h.1, fun _ z => (by cases z), fun _ z => (by cases z)⟩
  | i C ns => exact ⟨_, h.choose_spec.1, fun _ z => (by cases z), fun _ z => (by cases z)⟩
mutual
theorem Ow.plain {M : Addr → Prop} {H : Hp} : ∀ {d : Dt} {p : Pat} {v : V} {bs : List Addr}, Ow M H d p v bs → ∀ a ∈ bs, Plain H a
  | .sc w, p, v, bs, h => by
    unfold Ow at h
    rw [h.2.2]
    intro a ha; cases ha
  | .node s ds, .sh, v, bs, h => by
    unfold Ow at h
    rw [h.1]
    intro a ha; cases ha
  | .node s ds, .ow p, v, bs, h => by
    unfold Ow at h
    obtain ⟨a, vs, cs, e, o, rfl, f⟩ := h
    intro b hb
    rcases List.mem_cons.mp hb with rfl | hb
    · exact o.plain
    · exact OwF.plain f b hb
  | .node s ds, .fs ps, v, bs, h => by
    unfold Ow at h
    obtain ⟨a, vs, cs, e, o, rfl, f⟩ := h
    intro b hb
    rcases List.mem_cons.mp hb with rfl | hb
    · exact o.plain
    · exact OwF.plain f b hb
theorem OwF.plain {M : Addr → Prop} {H : Hp} : ∀ {ds : List Dt} {ps : List Pat} {vs : List V} {bs : List Addr}, OwF M H ds ps vs bs → ∀ a ∈ bs, Plain H a
  | [], ps, vs, bs, h => by
    unfold OwF at h
    rw [h.2.2]
    intro a ha; cases ha
  | d :: ds, ps, vs, bs, h => by
    unfold OwF at h
    obtain ⟨p, pr, v, r, b, c, e1, e2, e3, h1, h2⟩ := h
    rw [e3]
    intro a ha
    rcases List.mem_append.mp ha with ha | ha
    · exact Ow.plain h1 a ha
    · exact OwF.plain h2 a ha
end
theorem OkL.plain {M : Addr → Prop} {H : Hp} : ∀ {ρ : List Sl} {σ : List (Option V)} {as : List Addr}, OkL M H ρ σ as → ∀ a ∈ as, Plain H a
  | [], σ, as, h => by
    rw [h.2]
    intro a ha; cases ha
  | .una :: ρ, σ, as, ⟨r, e, t⟩ => t.plain
  | .any :: ρ, σ, as, ⟨x, r, e, t⟩ => t.plain
  | .own d p :: ρ, σ, as, ⟨v, r, bs, cs, e, ea, o, t⟩ => by
    subst ea
    intro a ha
    rcases List.mem_append.mp ha with ha | ha
    · exact o.plain a ha
    · exact t.plain a ha
/-- all but the tables stay -/
def ExT (T : List (Addr × Str)) (H H' : Hp) : Prop := ∀ a o, (∀ p ∈ T, a ≠ p.1) → H a = some o → H' a = some o
/-- a table's code objects are told, none of it owned -/
def TabO (H : Hp) (O : Addr → Prop) (P : Addr) (q : Str) : Prop := ∃ ps : Array Value, H P = some (.tbl ps) ∧ ¬ O P ∧ TriplesOk ps.toList ∧ ∀ (pos : Pos) (cv : Value), codeAmong pos ps.toList = some cv → ∃ c, cv = .ref c ∧ H c = some (CodeO c q) ∧ ¬ O c
def TabsO (T : List (Addr × Str)) (H : Hp) (O : Addr → Prop) : Prop := ∀ p ∈ T, TabO H O p.1 p.2
/-- later, but for the tables -/
def LtT (T : List (Addr × Str)) (H : Hp) (O : Addr → Prop) (H' : Hp) (O' : Addr → Prop) : Prop := (∀ a o, ¬ O a → (∀ p ∈ T, a ≠ p.1) → H a = some o → H' a = some o) ∧ ∀ b, O' b → O b ∨ H b = none
def ZT (T : List (Addr × Str)) (Hb : Hp) : Hp → (Addr → Prop) → Prop := fun H O => LtT T Hb Mo H O ∧ TabsO T H O
section
variable {T : List (Addr × Str)} {F : Addr → Prop} {Z : Hp → (Addr → Prop) → Prop} {ρ : List Sl} {σ : L2.St} {H H' H1 H2 Hb : Hp} {O O1 O2 M : Addr → Prop} {d : Dt} {p : Pat} {v : V} {bs : List Addr}
theorem ExT.of (e : Ex H H') : ExT T H H' := fun a o _ h => e a o h
theorem ExT.refl (H : Hp) : ExT T H H := fun _ _ _ h => h
theorem ExT.trans (a : ExT T H H1) (b : ExT T H1 H2) : ExT T H H2 := fun c o n h => b c o n (a c o n h)
theorem TabsO.tabs (t : TabsO T H O) : Tabs T H := fun p hp => by
  obtain ⟨ps, h1, _, h2, h3⟩ := t p hp
  exact ⟨ps, h1, h2, fun pos cv hc => let ⟨c, e1, e2, _⟩ := h3 pos cv hc; ⟨c, e1, e2⟩⟩
theorem TabsO.of (t : Tabs T H) (hp : ∀ a, O a → Plain H a) : TabsO T H O := fun p hpT => by
  obtain ⟨ps, h1, h2, h3⟩ := t p hpT
  refine ⟨ps, h1, fun z => ?_, h2, fun pos cv hc => ?_⟩
  · obtain ⟨o, e, n, _⟩ := hp _ z
    rw [h1] at e
    exact n ps (Option.some.inj e).symm
  · obtain ⟨c, e1, e2⟩ := h3 pos cv hc
    refine ⟨c, e1, e2, fun z => ?_⟩
    obtain ⟨o, e, _, n⟩ := hp _ z
    rw [e2] at e
    exact n _ (Option.some.inj e).symm
theorem TabsO.lt (t : TabsO T H O) (l : Lt H O H1 O1) : TabsO T H1 O1 := fun p hp => by
  obtain ⟨ps, h1, h2, h3, h4⟩ := t p hp
  refine ⟨ps, l.1 _ _ h2 h1, fun z => ?_, h3, fun pos cv hc => ?_⟩
  · rcases l.2 _ z with y | y
    · exact h2 y
    · rw [y] at h1; cases h1
  · obtain ⟨c, e1, e2, e3⟩ := h4 pos cv hc
    refine ⟨c, e1, l.1 _ _ e3 e2, fun z => ?_⟩
    rcases l.2 _ z with y | y
    · exact e3 y
    · rw [y] at e2; cases e2
/-- what is new stays new: a table was there -/
theorem LtT.lt (x : LtT T H O H1 O1) (y : Lt H1 O1 H2 O2) (hT : ∀ p ∈ T, H p.1 ≠ none → H1 p.1 ≠ none) (hO : ∀ p ∈ T, ¬ O1 p.1) : LtT T H O H2 O2 := by
  refine ⟨fun a o n m e => y.1 a o (fun z => ?_) (x.1 a o n m e), fun b hb => ?_⟩
  · rcases x.2 a z with z | z
    · exact n z
    · rw [z] at e; cases e
  · rcases y.2 b hb with z | z
    · exact x.2 b z
    · by_cases q : O b
      · exact .inl q
      · cases e : H b with
        | none => exact .inr rfl
        | some o =>
          by_cases m : ∀ p ∈ T, b ≠ p.1
          · rw [x.1 b o q m e] at z; cases z
          · exfalso
            apply m
            rintro p hp rfl
            exact hT p hp (by rw [e]; simp) z
theorem ZT.mz : ∀ H O H' O', ZT T Hb H O → Lt H O H' O' → ZT T Hb H' O' := fun H O H' O' z l =>
  ⟨z.1.lt l (fun p hp _ => by
      obtain ⟨ps, h1, _⟩ := z.2 p hp
      rw [h1]; simp) (fun p hp => by
      obtain ⟨ps, _, h2, _⟩ := z.2 p hp
      exact h2), z.2.lt l⟩
theorem ExT.lt (x : ExT T H H1) (O : Addr → Prop) : LtT T H O H1 O := ⟨fun a o _ m e => x a o m e, fun _ h => .inl h⟩
/-- what is owned is what the slots own -/
theorem Ok.thin (ok : Ok F Z ρ σ H M) : ∃ M', (∀ a, M' a → M a) ∧ (∀ a, ownM M' F a → Plain H a) ∧ Ok F Z ρ σ H M' := by
  obtain ⟨as, nd, own, sl⟩ := ok.sl
  refine ⟨fun a => F a ∨ a ∈ as, fun a ha => ?_, fun a ha => ?_, ⟨as, nd, fun a ha => ⟨.inr ha, (own a ha).2⟩, sl.go (fun a o n h => ⟨h, fun z => n ?_⟩) fun _ _ _ h => h⟩, fun a ha => ?_, fun a ha => .inl ha, ok.mz _ _ _ _ ok.z ⟨fun _ _ _ h => h, fun b hb => .inl ?_⟩, ok.mz⟩
  · rcases ha with z | z
    · exact ok.fr a z
    · exact (own a z).1
  · rcases ha.1 with z | z
    · exact (ha.2 z).elim
    · exact sl.plain a z
  · rcases z with z | z
    · exact ok.fr a z
    · exact (own a z).1
  · rcases ha with z | z
    · exact ok.al a (ok.fr a z)
    · exact ok.al a (own a z).1
  · rcases hb.1 with z | z
    · exact (hb.2 z).elim
    · exact own b z
theorem Plain.ext {a : Addr} (h : Plain H a) (x : ExT T H H1) (t : Tabs T H) : Plain H1 a := by
  obtain ⟨o, e, n1, n2⟩ := h
  refine ⟨o, x _ _ (fun p hp z => ?_) e, n1, n2⟩
  obtain ⟨ps, h1, _⟩ := t p hp
  rw [z, h1] at e
  exact n1 ps (Option.some.inj e).symm
/-- the tables grow -/
theorem Ok.tabs (ok : Ok F (ZT T Hb) ρ σ H M) (hF : ∀ p ∈ T, F p.1) (x : ExT T H H') (t : Tabs T H') : ∃ M', (∀ a, M' a → M a) ∧ Ok F (ZT T Hb) ρ σ H' M' := by
  obtain ⟨M', hs, hp, ok⟩ := ok.thin
  obtain ⟨as, nd, own, sl⟩ := ok.sl
  have t0 := ok.z.2.tabs
  have nt : ∀ a, Plain H a → ∀ p ∈ T, a ≠ p.1 := fun a ⟨o, e, n1, _⟩ p hp z => by
    obtain ⟨ps, h1, _⟩ := t0 p hp
    rw [z, h1] at e
    exact n1 ps (Option.some.inj e).symm
  refine ⟨M', hs, ⟨as, nd, own, sl.go (fun a o n h => ⟨x a o (fun p hp z => n (z ▸ ok.fr _ (hF p hp))) h, n⟩) fun a ha o h => x a o (nt a (sl.plain a ha)) h⟩, fun a ha => ?_, ok.fr, ⟨?_, ?_⟩, ok.mz⟩
  · by_cases m : ∀ p ∈ T, a ≠ p.1
    · cases e : H a with
      | none => exact (ok.al a ha e).elim
      | some o => rw [x a o m e]; simp
    · intro e
      apply m
      rintro p hp rfl
      obtain ⟨ps, h1, _⟩ := t p hp
      rw [h1] at e; cases e
  · refine ⟨fun a o n m e => x a o m (ok.z.1.1 a o n m e), ok.z.1.2⟩
  · exact TabsO.of t fun a ha => (hp a ha).ext x t0
end
/-! promises -/
def RetT (T : List (Addr × Str)) (F : Addr → Prop) (H0 : Hp) (d : Dt) (p : Pat) (Q : VK) : Prop := ∀ v bs H', ExT T H0 H' → Tabs T H' → bs.Nodup → (∀ b ∈ bs, H0 b = none) → Ow (Mb F bs) H' d p v bs → Q v H'
def spT (T : List (Addr × Str)) (n : Nat) (R : (Addr → Prop) → List V → Hp → Dt → Pat → Prop) : Sp := fun vs H Q _ => vs.length = n ∧ ∃ F d p, Al F H ∧ (∀ q ∈ T, F q.1) ∧ Tabs T H ∧ R F vs H d p ∧ RetT T F H d p Q
/-- an evaluation in which the tables may grow -/
def EvX (T : List (Addr × Str)) (M : Addr → Prop) (te : TE) (σ : L2.St) (H : Hp) (d : Dt) (p : Pat) : Prop := ∀ Q, RetT T M H d p Q → te σ H Q
section
variable {T : List (Addr × Str)} {F : Addr → Prop} {Z : Hp → (Addr → Prop) → Prop} {ρ : List Sl} {σ : L2.St} {H H' H1 H2 Hb : Hp} {O O1 O2 M : Addr → Prop} {d d1 d2 d3 : Dt} {p p1 p2 p3 : Pat} {v : V} {bs : List Addr} {te ta tb tc : TE} {tr : TA} {E : XK} {i j l n : Nat} {D : Ends} {K : PySem.W.Frag} {Ps : List (V → Hp → Prop)} {tu tz : TS} {Q : VK}
theorem none_backT (x : ExT T H H1) {b : Addr} (e : H1 b = none) (t1 : Tabs T H1) : H b = none := by
  cases h : H b with
  | none => rfl
  | some o =>
    by_cases m : ∀ p ∈ T, b ≠ p.1
    · rw [x b o m h] at e; cases e
    · exfalso
      apply m
      rintro p hp rfl
      obtain ⟨ps, h1, _⟩ := t1 p hp
      rw [h1] at e; cases e
/-- a call of such a def -/
theorem x_call {R : (Addr → Prop) → List V → Hp → Dt → Pat → Prop} (al : Al M H) (hF : ∀ q ∈ T, M q.1) (t : Tabs T H) (h : EvAG tr σ H Ps) (hn : Ps.length = n) (hr : ∀ vs H1, AllP Ps vs H1 → R M vs H1 d p) : EvX T M (tCallO (spT T n R) E tr) σ H d p := fun Q q =>
  h H (Ex.refl H) _ fun vs H2 e2 hp => ⟨hp.length.trans hn, M, d, p, fun a ha z => al a ha (fresh_back e2 z), hF, t.ext e2, hr vs H2 hp, fun v bs H3 x3 t3 nd nn w => q v bs H3 ((ExT.of e2).trans x3) t3 nd (fun b hb => fresh_back e2 (nn b hb)) w⟩
/-- the start of such a def -/
theorem Ok.startT (al : Al F H) (t : Tabs T H) (sl : OkL F H ρ σ []) : Ok F (ZT T H) ρ σ H F :=
  ⟨⟨[], List.nodup_nil, (fun a ha => by cases ha), sl⟩, al, fun _ h => h, ⟨⟨fun _ _ _ _ h => h, fun b hb => (hb.2 hb.1).elim⟩, TabsO.of t fun a ha => (ha.2 ha.1).elim⟩, ZT.mz⟩
theorem c_retT (ok : Ok F (ZT T Hb) ρ σ H M) (h : EvP M te σ H d p) (k : RetT T F Hb d p D.rt) : tRet te D σ H :=
  h H (Ex.refl H) _ fun v bs H1 e nd n w => by
    have l := ok.z
    have x : ExT T Hb H := fun a o m e => l.1.1 a o (fun z => z) m e
    refine k v bs H1 (x.trans (ExT.of e)) (l.2.tabs.ext e) nd (fun b hb => none_backT x (n b hb) l.2.tabs) (w.go (fun a o m h => ⟨h, fun z => m ?_⟩) fun _ _ _ h => h)
    rcases z with z | z
    · exact .inl (ok.fr a z)
    · exact .inr z
/-- the last thing of such a def makes the lambda -/
theorem c_retX (ok : Ok F (ZT T Hb) ρ σ H M) (h : EvX T M te σ H d p) (k : RetT T F Hb d p D.rt) : tRet te D σ H :=
  h _ fun v bs H1 x t nd n w => by
    have l := ok.z
    have x0 : ExT T Hb H := fun a o m e => l.1.1 a o (fun z => z) m e
    refine k v bs H1 (x0.trans x) t nd (fun b hb => none_backT x0 (n b hb) l.2.tabs) (w.go (fun a o m h => ⟨h, fun z => m ?_⟩) fun _ _ _ h => h)
    rcases z with z | z
    · exact .inl (ok.fr a z)
    · exact .inr z
/-- a value that comes when the tables grow is stored -/
theorem Ok.setX (ok : Ok F (ZT T Hb) ρ σ H M) (hF : ∀ q ∈ T, F q.1) (x : ExT T H H') (t : Tabs T H') (nd : bs.Nodup) (n : ∀ b ∈ bs, H b = none) (w : Ow (Mb M bs) H' d p v bs) : ∃ M', Ok F (ZT T Hb) (ρ.set i (.own d p)) (σ.set i (some v)) H' M' := by
  obtain ⟨M', hs, hp, ok⟩ := ok.thin
  obtain ⟨as, and_, own, sl⟩ := ok.sl
  have t0 := ok.z.2.tabs
  have nt : ∀ a, Plain H a → ∀ p ∈ T, a ≠ p.1 := fun a ⟨o, e, n1, _⟩ p hp z => by
    obtain ⟨ps, h1, _⟩ := t0 p hp
    rw [z, h1] at e
    exact n1 ps (Option.some.inj e).symm
  have w' : Ow (Mb M' bs) H' d p v bs := w.go (fun a o m h => ⟨h, fun z => m (z.elim (fun z => .inl (hs a z)) .inr)⟩) fun _ _ _ h => h
  have sl1 : OkL (Mb M' bs) H' ρ σ as := sl.go (fun a o n0 h => ⟨x a o (fun p hp z => n0 (z ▸ ok.fr _ (hF p hp))) h, fun z => z.elim n0 fun z => by rw [n a z] at h; cases h⟩) fun a ha o h => x a o (nt a (sl.plain a ha)) h
  obtain ⟨b0, cs, as', h1, h2, h3⟩ := OkL.set w' (i := i) sl1
  have ndc : cs.Nodup := (List.nodup_append.mp (h1.nodup_iff.mpr and_)).2.1
  have hcs : ∀ a ∈ cs, a ∈ as := fun a ha => h1.subset (List.mem_append_right _ ha)
  have hb : ∀ b ∈ bs, b ∉ cs := fun b hb hc => sl.al b (hcs b hc) (n b hb)
  have x0 : ExT T Hb H := fun a o m e => ok.z.1.1 a o (fun z => z) m e
  refine ⟨Mb M' bs, ⟨as', ?_, ?_, h2⟩, ?_, fun a ha => .inl (ok.fr a ha), ⟨⟨fun a o n m e => x a o m (ok.z.1.1 a o n m e), fun b hb => ?_⟩, TabsO.of t fun a ha => ?_⟩, ok.mz⟩
  · rcases h3 with rfl | h3
    · exact ndc
    · rw [h3.nodup_iff, List.nodup_append]
      exact ⟨nd, ndc, fun a ha b hb' z => hb a ha (z ▸ hb')⟩
  · intro a ha
    have : a ∈ bs ∨ a ∈ cs := by
      rcases h3 with rfl | h3
      · exact .inr ha
      · exact List.mem_append.mp (h3.subset ha)
    rcases this with h | h
    · exact ⟨.inr h, fun z => ok.al a (ok.fr a z) (n a h)⟩
    · have := own a (hcs a h)
      exact ⟨.inl this.1, this.2⟩
  · rintro a (ha | ha) hn
    · exact ok.al a ha (none_backT x hn t)
    · exact w.al a ha hn
  · rcases hb.1 with h | h
    · exact ok.z.1.2 b ⟨h, hb.2⟩
    · exact .inr (none_backT x0 (n b h) t0)
  · rcases ha.1 with h | h
    · exact (hp a ⟨h, ha.2⟩).ext x t0
    · exact w.plain a h
theorem c_asgX (ok : Ok F (ZT T Hb) ρ σ H M) (hF : ∀ q ∈ T, F q.1) (h : EvX T M te σ H d p) (k : ∀ M' σ' H', Ok F (ZT T Hb) (ρ.set i (.own d p)) σ' H' M' → D.nx σ' H') : tAsg te (gName i) D σ H :=
  h _ fun v bs H1 x t nd n w => by
    obtain ⟨M', ok'⟩ := ok.setX (i := i) hF x t nd n w
    exact k _ _ _ ok'
theorem b_asgX (ok : Ok F (ZT T Hb) ρ σ H M) (hF : ∀ q ∈ T, F q.1) (h : EvX T M te σ H d p) (k : ∀ M' σ' H', Ok F (ZT T Hb) (ρ.set i (.own d p)) σ' H' M' → tz D σ' H') : tSeq (tAsg te (gName i)) tz D σ H := c_asgX (D := { D with nx := tz D }) ok hF h k
/-- a, b, c = x, y, f(..) -/
theorem c_tup3X (ok : Ok F (ZT T Hb) ρ σ H M) (hF : ∀ q ∈ T, F q.1) (h1 : EvP M ta σ H d1 p1) (h2 : ∀ M' σ' H', Ok F (ZT T Hb) ρ σ' H' M' → EvP M' tb σ' H' d2 p2) (h3 : ∀ M' σ' H', Ok F (ZT T Hb) ρ σ' H' M' → EvX T M' tc σ' H' d3 p3)
    (k : ∀ M' σ' H', Ok F (ZT T Hb) (((ρ.set i (.own d1 p1)).set j (.own d2 p2)).set l (.own d3 p3)) σ' H' M' → D.nx σ' H') : tAsg (tTup (tCons ta (tCons tb (tCons tc tNil)))) (gTup K 3 (gCons (gName i) (gCons (gName j) (gCons (gName l) gNil)))) D σ H :=
  h1 H (Ex.refl H) _ fun v bs H1 e nd n w => by
    have ok1 : Ok F (ZT T Hb) ρ σ H1 (Mb M bs) := ok.more e n w.al
    refine h2 _ _ _ ok1 H1 (Ex.refl _) _ fun v2 bs2 H2 e2 nd2 n2 w2 => ?_
    have ok2 : Ok F (ZT T Hb) ρ σ H2 (Mb (Mb M bs) bs2) := ok1.more e2 n2 w2.al
    refine h3 _ _ _ ok2 _ fun v3 bs3 H3 x3 t3 nd3 n3 w3 => ⟨sz_of (by simp), fun A hA => ?_⟩
    obtain ⟨M', ok'⟩ := ((ok.set (i := i) e nd n w).set (i := j) e2 nd2 n2 w2).setX (i := l) hF x3 t3 nd3 n3 w3
    exact ⟨A, _, rfl, st_of upd_same, rfl, v, _, rfl, v2, _, rfl, v3, _, rfl, rfl, k _ _ _ (ok'.ex (Ex.new hA))⟩
theorem b_tup3X (ok : Ok F (ZT T Hb) ρ σ H M) (hF : ∀ q ∈ T, F q.1) (h1 : EvP M ta σ H d1 p1) (h2 : ∀ M' σ' H', Ok F (ZT T Hb) ρ σ' H' M' → EvP M' tb σ' H' d2 p2) (h3 : ∀ M' σ' H', Ok F (ZT T Hb) ρ σ' H' M' → EvX T M' tc σ' H' d3 p3)
    (k : ∀ M' σ' H', Ok F (ZT T Hb) (((ρ.set i (.own d1 p1)).set j (.own d2 p2)).set l (.own d3 p3)) σ' H' M' → tz D σ' H') : tSeq (tAsg (tTup (tCons ta (tCons tb (tCons tc tNil)))) (gTup K 3 (gCons (gName i) (gCons (gName j) (gCons (gName l) gNil))))) tz D σ H := c_tup3X (D := { D with nx := tz D }) ok hF h1 h2 h3 k
/-- if not f(..): (never) -/
theorem c_skipX (ok : Ok F (ZT T Hb) ρ σ H M) (hF : ∀ q ∈ T, F q.1) (h : EvX T M te σ H (uB true) .sh) (k : ∀ M' σ' H', Ok F (ZT T Hb) ρ σ' H' M' → D.nx σ' H') : tIfS (tNot (tB te)) tu tNext D σ H :=
  h _ fun v bs H1 x t nd n w => by
    unfold Ow at w
    obtain ⟨_, rfl, _⟩ := w
    obtain ⟨M', _, ok'⟩ := ok.tabs hF x t
    refine ⟨true, rfl, ?_⟩
    show (if (!true) = true then tu D σ H1 else tNext D σ H1)
    exact k _ _ _ ok'
theorem b_skipX (ok : Ok F (ZT T Hb) ρ σ H M) (hF : ∀ q ∈ T, F q.1) (h : EvX T M te σ H (uB true) .sh) (k : ∀ M' σ' H', Ok F (ZT T Hb) ρ σ' H' M' → tz D σ' H') : tSeq (tIfS (tNot (tB te)) tu tNext) tz D σ H := c_skipX (D := { D with nx := tz D }) ok hF h k
/-- a loop whose source leans on no object -/
theorem c_forX {α : Type} {wi : TI} {g : TG} {js : List Nat} {l : List α} {u : α → List Sl → List Sl} (P : Nat → List Sl → Prop) (ok : Ok F Z ρ σ H M) (src : EvJ (fun _ _ _ _ => True) M wi g js σ H l u) (h0 : P 0 ρ)
    (turn : ∀ i x ρ' M' σ' H', l[i]? = some x → P i ρ' → Ok F Z (u x ρ') σ' H' M' → tu { D with nx := Nx F Z (P (i + 1)), ct := Nx F Z (P (i + 1)), bk := D.nx } σ' H')
    (done : ∀ ρ' M' σ' H', P l.length ρ' → Ok F Z ρ' σ' H' M' → D.nx σ' H') : tFor wi g tu D σ H :=
  src H (Ex.refl H) _ fun J H1 Gd e1 gd0 stay S => by
    have ok1 := ok.ex e1
    refine ⟨fun i m σ' H' => m = l.length - i ∧ i ≤ l.length ∧ Nx F Z (P i) σ' H', ⟨l.length, by simp, Nat.zero_le _, M, ρ, ok1, h0⟩, ?_⟩
    rintro i m σ' H' ⟨rfl, hi, M', ρ', ok', hp⟩
    have gd : Gd H' M' := stay _ _ _ _ trivial gd0
    by_cases hlt : i < l.length
    · refine .inr ⟨S.go i H' _ hlt gd, Nx F Z (P (i + 1)), fun σ'' H'' c => ⟨l.length - (i + 1), by omega, rfl, hlt, c⟩, fun x H2 y => ?_⟩
      exact S.yld i H' _ x H2 σ' _ hlt gd y fun σ'' H'' e'' _ _ k => turn i l[i] ρ' _ _ _ (by simp [hlt]) hp (k F _ _ ok')
    · have ei : i = l.length := by omega
      subst ei
      exact .inl ⟨S.stop H' _ gd, done _ _ _ _ hp ok'⟩
theorem b_forX {α : Type} {wi : TI} {g : TG} {js : List Nat} {l : List α} {u : α → List Sl → List Sl} (P : Nat → List Sl → Prop) (ok : Ok F Z ρ σ H M) (src : EvJ (fun _ _ _ _ => True) M wi g js σ H l u) (h0 : P 0 ρ)
    (turn : ∀ i x ρ' M' σ' H', l[i]? = some x → P i ρ' → Ok F Z (u x ρ') σ' H' M' → tu { D with nx := Nx F Z (P (i + 1)), ct := Nx F Z (P (i + 1)), bk := tz D } σ' H')
    (done : ∀ ρ' M' σ' H', P l.length ρ' → Ok F Z ρ' σ' H' M' → tz D σ' H') : tSeq (tFor wi g tu) tz D σ H := c_forX (D := { D with nx := tz D }) P ok src h0 turn done
end
end Ho

/-! sorted(d, key=f) of a dict whose keys are texts -/
namespace Ho
open PySem PySem.Spec PyProof.Rows L2 Evl LamX PySem.W
section
variable {X : Cx} {pins : List (Addr × Obj)} {σ : L2.St} {H : Hp} {s : Shared}
theorem texts_each : ∀ {us : List Value} {ks : List Str}, us.length = ks.length → (∀ (j : Nat) (v : Value), us[j]? = some v → ∃ (x : Str) (t : Tok), ks[j]? = some x ∧ v = Value.str x t) → EachIs (fun v x => ∃ t, v = Value.str x t) us ks
  | [], [], _, _ => .nil
  | u :: us, k :: ks, hl, h => by
    obtain ⟨x, t, e1, e2⟩ := h 0 u rfl
    have e1' : k = x := Option.some.inj e1
    subst e1'
    refine .cons ⟨t, e2⟩ (texts_each (by simpa using hl) fun j v e => ?_)
    obtain ⟨x, t, a, b⟩ := h (j + 1) v (by simpa using e)
    exact ⟨x, t, by simpa using a, b⟩
  | [], _ :: _, hl, _ => by simp at hl
  | _ :: _, [], hl, _ => by simp at hl
theorem vals_texts : ∀ {us : List Value} {ks : List Str}, EachIs (fun v x => ∃ t, v = Value.str x t) us ks → Vals (ks.map V.str) us
  | [], [], _ => .nil
  | _ :: _, _ :: _, h => by
    cases h with
    | cons h1 t => exact .cons h1 (vals_texts t)
  | [], _ :: _, h => by cases h
  | _ :: _, [], h => by cases h
theorem sorted_keyD {a f : Addr} {kvs : List (Key × V)} {ks : List Str} {Q : VK} (key : Str → PyData) (hcalm : X.calm = true) (I : Inv X pins σ H s) (hd : Rd H a (.dK kvs)) (hks : kvs.map (·.1) = ks.map Sum.inr) (hL : ks.length ≤ sizeLine)
    (hal : AllAlike (ks.map key)) (hsk : Sortable (ks.map key)) (hu : ∀ x, x ∈ ks → X.A.units + 2 + (key x).depth < cLine)
    (turn : ∀ (x : Str) (t : Tok), x ∈ ks → ∀ (h : Heap) (tk : Nat), (∀ b o, s.heap.get? b = some o → h.get? b = some o) → wpAny (model X.prog X.w) X.A.in1.in1 (call (.ref f) [.str x t]) (KeyPure (key x) { s with heap := h, toks := tk }) (fun _ _ => False) { s with heap := h, toks := tk })
    (q : ∀ p, H p = none → Q (.ref p) (upd H p (.lst ((ks.mergeSort (dataLe false key)).map V.str)))) :
    wpAny (model X.prog X.w) X.A (call (.builtin "sorted") [.ref a] [(Str.ofString "key", .ref f)]) (EP X pins σ Q) X.xe s := by
  obtain ⟨z, lo, vs, rel, dd⟩ := dk_rd I.hok hd
  obtain ⟨ep, hat⟩ := dd.dictAt
  have hkeys : vs.map (·.1) = ks.map Sum.inr := rel.keys.symm.trans hks
  have hl : vs.length = ks.length := by
    have e := congrArg List.length hkeys
    rw [List.length_map, List.length_map] at e
    exact e
  have h16 : vs.length ≤ sizeLine := by rw [hl]; exact hL
  refine PyProof.Rows.call_function_entry_kw PyProof.Rows.kind_sorted PyProof.Rows.plain_sorted PyProof.Rows.entry_sorted (ksk_s1 _ _) ?_
  unfold Builtin.«sorted»
  refine wpAny_bind (m := checkCount "sorted" 1 1 _) (wpAny_pure ?_)
  refine wpAny_bind (PySem.W.kdu_collect (A := X.A.in1) (PySem.W.kdl_dict (knd := mixKind X.prog X.w) (kvs := vs) (ep := ep) lo) (I.ok.hd hcalm) hat h16 fun h' tk acc hk hacc => ?_)
  have hal2 : acc.toList.length = ks.length := by rw [Array.length_toList, hacc.1, hl]
  have hS : EachIs (fun v x => ∃ t, v = Value.str x t) acc.toList ks := texts_each hal2 fun j v e => by
    obtain ⟨k, x, e1, e2⟩ := hacc.2 j v (by rw [← Array.getElem?_toList]; exact e)
    have e3 : (vs.map (·.1))[j]? = some k := by rw [List.getElem?_map, e1]; rfl
    rw [hkeys, List.getElem?_map] at e3
    cases e4 : ks[j]? with
    | none => rw [e4] at e3; cases e3
    | some y =>
      rw [e4] at e3
      have e5 : Sum.inr y = k := Option.some.inj e3
      subst e5
      rcases keyIs_shape (show keyIs (Sum.inr y) v = true from e2) with ⟨i, t, ek, ev⟩ | ⟨z, t, ek, ev⟩
      · cases ek
      · cases ek
        exact ⟨y, t, rfl, ev⟩
  have I1 : Inv X pins σ H { s with heap := h', toks := tk } := I.kept hk
  refine wpAny_bind (wpAny_newList ?_ (by rw [hal2]; exact hL))
  have hoL : (h'.push (seqObj "list" acc.toList.toArray 0)).get? h'.objs.size = some (seqObj "list" acc.toList.toArray 0) := Heap.get?_push_size _ rfl
  show wpAny _ _ _ _ _ { s with heap := h'.push (seqObj "list" acc.toList.toArray 0), toks := tk }
  have old : ∀ b o, s.heap.get? b = some o → (h'.push (seqObj "list" acc.toList.toArray 0)).get? b = some o := fun b o e => Heap.get?_push_of_some _ (hk b o e)
  have up : ∀ {g : Heap}, KeepsBut h'.objs.size (h'.push (seqObj "list" acc.toList.toArray 0)) g → ∀ b o, h'.get? b = some o → g.get? b = some o := fun {g} kp b o e =>
    kp b o (Nat.ne_of_lt (Heap.lt_size e)) (Heap.get?_push_of_some _ e)
  refine wpAny_bind (wpAny_holding (PyProof.Rows.wpAny_call_entry_kw PyProof.Rows.slot_list_sort ⟨_, hoL, rfl⟩ PyProof.Rows.entry_list_sort ?_ (ksk_l1 _ _)))
  rw [ksk_t1]
  refine keyH_tree (kz := ks.map key) (s := { s with heap := h'.push (seqObj "list" acc.toList.toArray 0), toks := tk }) hoL (by rw [List.length_map]; exact hal2.symm) (by rw [hal2]; exact hL) hal hsk (bound_map (A := X.A.in1.in1) hu)
    (keyH_turns (s := { s with heap := h'.push (seqObj "list" acc.toList.toArray 0), toks := tk }) hS fun v x hR hx h tk2 kp => ?_) fun h2 tk2 out c kp hD ko => ⟨_, rfl, ?_⟩
  · obtain ⟨t, rfl⟩ := hR
    exact turn x t hx h tk2 fun b o e => up kp b o (hk b o e)
  · have eo := keyedOut_each (R := fun v x => ∃ t, v = Value.str x t) key ko hS
    refine wpAny_pure ⟨_, rfl, .ref h'.objs.size, upd H h'.objs.size (.lst ((ks.mergeSort (dataLe false key)).map V.str)), I1.laid (t' := tk2) (fun b u e => up kp b u e) (Nat.le_refl _)
      (show ObjOk X.prog X.w _ _ _ (.lst ((ks.mergeSort (dataLe false key)).map V.str)) from ⟨by rw [List.length_map, List.length_mergeSort]; exact hL, out, c, vals_texts eo, hD⟩), rfl, q _ (I1.hok.fresh (Nat.le_refl _))⟩
end
end Ho

/-! lambda t: (len(t), t), called -/
namespace Ho
open PySem PySem.Spec PyProof.Rows L2 Evl LamX PySem.W
section
variable {prog : Program} {w : World} {A : Around} {s : Shared}
theorem lenText_turn {f c' : Addr} {x y q : Str} {t : Tok} {params : Arguments} {body : Expr} {scope : Scope} {cl : List (Str × Addr)} {pm ctv : Value} {mg mb : Str → Option Value} {p1 p2 p3 p4 p5 : Pos} {k : Nat}
    (hroom : A.depth < recursionLimit) (hf : s.heap.get? f = some (kla_obj "<lambda>" q params body scope cl pm c' ctv))
    (hc : ∃ (oc : Obj) (vs : Array Value) (t : Tok), s.heap.get? c' = some oc ∧ oc.data = .fields vs ∧ vs[1]? = some (.str q t)) (hlim : s.heap.NoLimit)
    (hg : s.heap.Ns mainGlobals mg) (hb : s.heap.Ns builtinsNs mb) (hm : mg "len" = none) (hbb : mb "len" = some (.builtin "len")) (hx : x.length < 2 ^ 63)
    (ebody : body = .Tuple [.Call (.Name "len" p1) [.Name y p2] [] p3, .Name y p4] k p5)
    (hbind : ∀ v, bindArgs (kla_fn "<lambda>" q params body scope cl pm (.ref c') ctv) ⟨[v], []⟩ = pure [(y, v)])
    (hk : scope.kind = .function) (hco : scope.isCoroutine = false) (hgen : scope.isGenerator = false) (hcell : ∀ z ∈ scope.names, z.2 ≠ .cell) (hy : scope.names.lookup y = some .local) (hl : scope.names.lookup ("len" : Str) = some .globalImplicit) (hyd : (y == ("__debug__" : Str)) = false) :
    wpAny (model prog w) A (call (.ref f) [.str x t]) (KeyPure (.tuple [.int x.length, .str x]) s) (fun _ _ => False) s := by
  refine wpAny_call (codeAny_mono (R := fun r s' => ∃ v, r = .ok (.ret v) ∧ KeyPure (.tuple [.int x.length, .str x]) s v s') ?_ fun r s' hr => (by
    obtain ⟨v, rfl, h⟩ := hr
    exact h))
  obtain ⟨oc, vs, tq, h1, h2, h3⟩ := hc
  refine kla_callFunE hroom hf rfl hco hgen rfl ⟨c', oc, vs, tq, rfl, h1, h2, h3⟩ ?_
  rw [hbind]
  refine wpAny_pure (wpAny_newFunctionEnv hcell (fun z hz => by
    rw [List.mem_singleton] at hz
    subst hz
    exact hy) (fun h₁ hns hsb => ⟨hlim.fresh _ hsb, ?_⟩) hk)
  have kp : ∀ b o, s.heap.get? b = some o → h₁.get? b = some o := fun b o e => hsb.extBut b o (Nat.ne_of_lt (Heap.lt_size e)) (Heap.get?_push_of_some _ e)
  show codeAny _ _ (.expr body (envX q scope s.heap.objs.size f (.ref c') cl)) _ _
  refine kla_codeExpr ?_
  subst ebody
  have nsk : ∀ {b : Addr} {m : Str → Option Value}, s.heap.Ns b m → h₁.Ns b m := fun {b m} ⟨o, es, ep, e, d, r⟩ => ⟨o, es, ep, kp _ _ e, d, r⟩
  have hy1 : (List.reverse [(y, Value.str x t)]).lookup y = some (Value.str x t) := by simp [List.lookup]
  have nm : ∀ {Q : Value → Shared → Prop} {E : Value → Shared → Prop} {A' : Around} {p : Pos} {tk : Nat}, Q (.str x t) { s with heap := h₁, toks := tk } →
      wpAny (model prog w) A' (eval (.Name y p) (envX q scope s.heap.objs.size f (.ref c') cl)) Q E { s with heap := h₁, toks := tk } := fun {Q E A' p tk} h =>
    wpAny_Name (wpAny_loadName_local hk hy hns hy1 h) hyd
  refine wpAny_Tuple_spliced ?_
  refine Calls.spliced_cons ?_
  refine wpAny_Call_Name_kw ?_
  refine Calls.Name_function_global hk hl (Calls.loadGlobal_builtin (nsk hg) hm (nsk hb) hbb ?_)
  refine PyProof.Rows.callWith_builtin1 ?_
  refine Calls.spliced_cons (nm ?_)
  refine Calls.spliced_nil ?_
  refine PySem.P.len_str (by omega) ?_
  refine Calls.spliced_cons (nm ?_)
  refine Calls.spliced_nil ⟨by rw [sizeLine_eq]; show 2 ≤ 16777216; omega, ?_⟩
  refine ⟨_, rfl, _, _, rfl, fun b o e => Heap.get?_push_of_some _ (kp b o e), ?_⟩
  exact Reads.tuple (Heap.get?_push_size _ rfl) rfl rfl (.cons (.int _ _) (.cons (.str _ _) .nil))
end
end Ho

/-! a lambda is made: its maker's table alone grows -/
namespace Ho
open PySem PySem.Spec PyProof.Rows L2 Evl LamX PySem.W
section
variable {X : Cx} {pins : List (Addr × Obj)} {σ : L2.St} {H : Hp} {s : Shared}
theorem lam_grow {c P : Addr} {q : Str} {ar : Arguments} {bd : Expr} {sc : Scope} {lp : Pos} {E Q : Value → Shared → Prop} (I : Inv X pins σ H s) (TB : TabB X.base X.mg c P) (ec : X.env.code = .ref c) (eq : X.env.qual ++ "<lambda>" = q) (T0 : TabS H P q)
    (nd : defaultsOf ar X.env = ([], [])) (nf : ∀ z ∈ sc.names, z.2 = .free → ∃ c, X.env.cells.lookup z.1 = some c)
    (go : ∀ (f c' : Addr) (pm tv : Value) (H1 : Hp) (s1 : Shared), Inv X pins σ H1 s1 → ExT [(P, q)] H H1 → TabS H1 P q → s1.heap.get? f = some (kla_obj "<lambda>" q ar bd sc (cloFrom X.env.cells sc.names []) pm c' tv) → H1 f = none → f ∉ frs X.stack → H1 c' = some (CodeO c' q) → Q (.ref f) s1) :
    wpAny (model X.prog X.w) X.A (eval (.Lambda ar bd sc lp) X.env) Q E s := by
  subst eq
  refine kla_eval nd ?_
  obtain ⟨ps, e1, tr, am⟩ := T0
  have e2 : s.heap.get? P = some { cls := .none, data := .fields ps } := I.hok P _ e1
  have off : ∀ {f : Addr}, s.heap.objs.size ≤ f → f ∉ frs X.stack := fun {f} hf z => by
    rcases List.mem_cons.mp (I.stkSub _ z) with e | e
    · subst e
      exact absurd I.lt (Nat.not_lt.mpr hf)
    · exact I.nofs hf e
  cases hit : codeAmong lp ps.toList with
  | some cv =>
    obtain ⟨c', ev, ho⟩ := am lp cv hit
    subst ev
    refine kla_makeFunctionHit (c := c) (mg := X.mg) (P := P) (ps := ps) (closure_ok nf) I.ok.glob (I.mod.glob.keeps I.bk) ec (TB.code.keeps I.bk) e2 tr hit (TB.bm.keeps I.bk) fun tv h1 tk kp sz => ?_
    exact go _ c' _ tv H _ (I.kept fun b o e => Heap.get?_push_of_some _ (kp b o e)) (ExT.refl H) ⟨ps, e1, tr, am⟩ (Heap.get?_push_size _ rfl) (I.hok.fresh sz) (off sz) ho
  | none =>
    refine kla_makeFunction (c := c) (mg := X.mg) (P := P) (ps := ps) (closure_ok nf) I.ok.glob (I.mod.glob.keeps I.bk) ec (TB.code.keeps I.bk) e2 tr hit TB.gP (TB.bm.keeps I.bk) fun c' tv h1 tk kp ge lt rc tb => ?_
    obtain ⟨c2, oc, vs, t, ce, o1, o2, o3⟩ := rc
    cases ce
    have sz : s.heap.objs.size ≤ h1.objs.size := Nat.le_trans ge (Nat.le_of_lt lt)
    have nc : H c' = none := I.hok.fresh ge
    have nP : P ≠ c' := ne_of_none e1 nc
    refine go _ c' ((X.mg "__name__").getD .none) tv _ _ (inv_table (more := #[rawInt lp.line, rawInt lp.col, .ref c']) (t' := tk) I e1 (fun b o hb e => Heap.get?_push_of_some _ (kp b o hb e)) (Heap.get?_push_of_some _ tb) ge
      ⟨oc, vs, t, Heap.get?_push_of_some _ o1, o2, o3⟩) ?_ ?_ (Heap.get?_push_size _ rfl) ?_ (off sz) upd_same
    · intro a o n e
      rw [upd_ne (ne_of_none e nc), upd_ne (n _ List.mem_cons_self)]
      exact e
    · refine ⟨ps ++ #[rawInt lp.line, rawInt lp.col, .ref c'], by rw [upd_ne nP, upd_same], by rw [Array.toList_append]; exact PySem.TriplesOk_snoc _ _ _ _ tr, fun p2 cv hcv => ?_⟩
      rw [Array.toList_append] at hcv
      rcases among_app _ tr hcv with z | z
      · obtain ⟨c0, a1, a2⟩ := am p2 cv z
        refine ⟨c0, a1, ?_⟩
        rw [upd_ne (ne_of_none a2 nc), upd_ne (fun y => by rw [y, e1] at a2; exact codeO_ne ps (Option.some.inj a2).symm)]
        exact a2
      · exact ⟨c', z, upd_same⟩
    · rw [upd_ne (Nat.ne_of_gt lt), upd_ne (Nat.ne_of_gt (Nat.lt_of_lt_of_le (Heap.lt_size e2) sz))]
      exact I.hok.fresh sz
theorem TabS.extT {T : List (Addr × Str)} {P : Addr} {q : Str} {H1 : Hp} (h : TabS H P q) (x : ExT T H H1) (n : ∀ p ∈ T, P ≠ p.1) (tT : Tabs T H) : TabS H1 P q := by
  obtain ⟨ps, h1, h2, h3⟩ := h
  refine ⟨ps, x _ _ n h1, h2, fun pos cv hc => ?_⟩
  obtain ⟨c, e1, e2⟩ := h3 pos cv hc
  refine ⟨c, e1, x _ _ (fun p hp z => ?_) e2⟩
  obtain ⟨ps', a, _⟩ := tT p hp
  rw [z, a] at e2
  exact codeO_ne ps' (Option.some.inj e2).symm
end
end Ho

/-! sorted(d, key=lambda t: (len(t), t)) -/
namespace Ho
open PySem PySem.Spec PyProof.Rows L2 Evl LamX PySem.W
def lenKey (x : Str) : PyData := .tuple [.int x.length, .str x]
def tSortLen (P : Addr) (q : Str) (te : TE) : TE := fun σ H Q => te σ H fun x H1 => ∃ (a : Addr) (kvs : List (Key × V)) (ks : List Str), x = .ref a ∧ Rd H1 a (.dK kvs) ∧ kvs.map (·.1) = ks.map Sum.inr ∧ ks.length ≤ sizeLine ∧ (∀ x ∈ ks, x.length < 2 ^ 63) ∧ TabS H1 P q ∧
  ∀ (H2 : Hp) (r : Addr), ExT [(P, q)] H1 H2 → TabS H2 P q → H2 r = none → Q (.ref r) (upd H2 r (.lst ((ks.mergeSort (dataLe false lenKey)).map V.str)))
section
variable {X : Cx}
theorem pe_sortedLen {c P : Addr} {q y : Str} {te : TE} {e : Expr} {ar : Arguments} {sc : Scope} {lp kp p cp p1 p2 p3 p4 p5 : Pos} {k : Nat} (hcalm : X.calm = true) (hr : Room 3 X.A) (hg : Gl X "sorted") (hm : X.mg "sorted" = none) (hb : bootBuiltins "sorted" = some (.builtin "sorted")) (hml : X.mg "len" = none) (hbl : bootBuiltins "len" = some (.builtin "len")) (ha : PE X e te)
    (TB : TabB X.base X.mg c P) (ec : X.env.code = .ref c) (eq : X.env.qual ++ "<lambda>" = q) (nd : defaultsOf ar X.env = ([], [])) (nf : ∀ z ∈ sc.names, z.2 = .free → ∃ c, X.env.cells.lookup z.1 = some c)
    (hbind : ∀ (cl : List (Str × Addr)) (pm cv tv v : Value), bindArgs (kla_fn "<lambda>" q ar (.Tuple [.Call (.Name "len" p1) [.Name y p2] [] p3, .Name y p4] k p5) sc cl pm cv tv) ⟨[v], []⟩ = pure [(y, v)])
    (hk : sc.kind = .function) (hco : sc.isCoroutine = false) (hgen : sc.isGenerator = false) (hcell : ∀ z ∈ sc.names, z.2 ≠ .cell) (hy : sc.names.lookup y = some .local) (hl : sc.names.lookup ("len" : Str) = some .globalImplicit) (hyd : (y == ("__debug__" : Str)) = false)
    (he : starEach [e] X.env = (false, eval e X.env) :: starEach [] X.env := by rfl) :
    PE X (.Call (.Name "sorted" p) [e] [⟨some "key", .Lambda ar (.Tuple [.Call (.Name "len" p1) [.Name y p2] [] p3, .Name y p4] k p5) sc lp, kp⟩] cp) (tSortLen P q te) := by
  refine ⟨fun pins s σ H Q I h => ?_⟩
  refine wpAny_Call_Name_kw (ld_blt I hg hm hb ?_)
  refine PyProof.Rows.callWith_kw ?_ (by rw [he]; rfl) (by rw [he]; rfl)
  rw [he]
  refine Calls.spliced_cons (thn (ha.run pins s σ H _ I h) fun u s1 ⟨x, H1, I1, r1, a, kvs, ks, ex, hd, hks, hL, hx, hT, go⟩ => Calls.spliced_nil ?_)
  subst ex
  obtain rfl : u = Value.ref a := r1
  show wpAny _ _ (evalAll ((do let v ← eval (.Lambda ar (.Tuple [.Call (.Name "len" p1) [.Name y p2] [] p3, .Name y p4] k p5) sc lp) X.env; standAt cp; pure v) :: [])) _ _ _
  refine wpAny_evalAll_cons (wpAny_bind (lam_grow I1 TB ec eq hT nd nf fun f c' pm tv H2 s2 I2 xT hT2 hf _ _ hc => wpAny_bind (wpAny_standAt (wpAny_pure (wpAny_evalAll_nil ?_)))))
  have hd2 : Rd H2 a (.dK kvs) := by
    obtain ⟨ps, e1, _⟩ := hT
    have na : ∀ p ∈ [(P, q)], a ≠ p.1 := fun p hp z => by
      rw [List.mem_singleton] at hp
      subst hp
      subst z
      rcases hd with z | ⟨o, z⟩
      · rw [e1] at z; cases z
      · rw [e1] at z; cases z
    rcases hd with z | ⟨o, z⟩
    · exact .inl (xT a _ na z)
    · exact .inr ⟨o, xT a _ na z⟩
  obtain ⟨mb, b1, b2⟩ := I2.mod.blt
  obtain ⟨⟨oc, vs, t, o1, o2, o3⟩, _⟩ := I2.hok c' _ hc
  refine sorted_keyD lenKey hcalm I2 hd2 hks hL (AllAlike.of fun _ _ => by simp [alike, alikeAll, lenKey]) (Sortable.tuples fun _ => ⟨_, _, rfl⟩) (fun x _ => ?_) (fun x t hxm h tk kpp => ?_) fun r hn => go H2 r xT hT2 hn
  · have hdp : (lenKey x).depth = 1 := by simp [lenKey, PyData.depth, PyData.depthAll]
    have := hr.units
    omega
  · refine lenText_turn (s := { s2 with heap := h, toks := tk }) (c' := c') (hr.in1.in1.depth) (kpp _ _ hf) ⟨oc, vs, _, kpp _ _ o1, o2, o3⟩ (I2.nolimit.keeps kpp) ((I2.mod.glob.keeps I2.bk).keeps kpp) ((b1.keeps I2.bk).keeps kpp) hml ((b2 "len" (by decide)).trans hbl) (hx x hxm) rfl (fun v => hbind _ _ _ _ v) hk hco hgen hcell hy hl hyd
end
end Ho

/-! the order by length, then letters -/
namespace Ho
open PySem PySem.Spec PyProof.Rows L2 Evl LamX PySem.W
def lenLe (a b : Row) : Prop := a.length < b.length ∨ (a.length = b.length ∧ a ≤ b)
theorem lenLe_anti {a b : Row} (h : lenLe a b) (g : lenLe b a) : a = b := by
  rcases h with h | ⟨h, h2⟩
  · rcases g with g | ⟨g, _⟩
    · omega
    · omega
  · rcases g with g | ⟨g, g2⟩
    · omega
    · exact List.le_antisymm h2 g2
theorem len_unique : ∀ {a b : List Row}, a.Perm b → a.Pairwise lenLe → b.Pairwise lenLe → a = b
  | [], b, h, _, _ => (List.Perm.nil_eq h)
  | x :: a, [], h, _, _ => by simp at h
  | x :: a, y :: b, h, ha, hb => by
    rw [List.pairwise_cons] at ha hb
    have e : x = y := by
      rcases List.mem_cons.mp (h.subset List.mem_cons_self) with e | e
      · exact e
      · rcases List.mem_cons.mp (h.symm.subset List.mem_cons_self) with e2 | e2
        · exact e2.symm
        · exact lenLe_anti (ha.1 y e2) (hb.1 x e)
    subst e
    rw [len_unique (List.Perm.cons_inv h) ha.2 hb.2]
theorem dataLt_is (x x' : Int) (s s' : Str) : dataLt (.tuple [.int x, .str s]) (.tuple [.int x', .str s']) = decide (x < x' ∨ (x = x' ∧ s.cps.toList < s'.cps.toList)) := by
  rw [dataLt_pair (by simp [alike]) (by simp [alike]), dataLt_int, dataLt_str]
  simp only [PyData.eqv, beq_iff_eq]
  by_cases h1 : x = x'
  · by_cases h2 : s = s'
    · simp [h1, h2, List.lt_irrefl]
    · simp [h1, h2]
  · simp [h1]
theorem lenKey_le {a b : Row} : dataLe false lenKey (S a) (S b) = true → lenLe a b := by
  intro h
  have h : (!dataLt (lenKey (S b)) (lenKey (S a))) = true := h
  unfold lenKey at h
  rw [dataLt_is, S_len, S_len, Bool.not_eq_true', decide_eq_false_iff_not] at h
  by_cases h1 : a.length < b.length
  · exact .inl h1
  · by_cases h2 : a.length = b.length
    · refine .inr ⟨h2, List.not_lt.mp fun z => h (.inr ⟨by omega, ?_⟩)⟩
      show (S b).cps.toList < (S a).cps.toList
      exact z
    · exact (h (.inl (by omega))).elim
theorem sort_len {ks xs : List Row} (hp : xs.Perm ks) (hs : xs.Pairwise lenLe) : (ks.map S).mergeSort (dataLe false lenKey) = xs.map S := by
  have h1 : ((ks.map S).mergeSort (dataLe false lenKey)).Pairwise (fun a b => dataLe false lenKey a b = true) := sort_pairwise (sortLe_total _ _ _ : TotalLe (dataLe false lenKey)) (ks.map S)
  have h2 : ((ks.map S).mergeSort (dataLe false lenKey)).Perm (ks.map S) := List.mergeSort_perm _ _
  have back : ∀ l : List Str, (∀ z ∈ l, z ∈ ks.map S) → ∃ l' : List Row, l = l'.map S := by
    intro l
    induction l with
    | nil => exact fun _ => ⟨[], rfl⟩
    | cons z l ih =>
      intro h
      obtain ⟨l', e⟩ := ih fun w hw => h w (List.mem_cons_of_mem _ hw)
      obtain ⟨r, _, er⟩ := List.mem_map.mp (h z List.mem_cons_self)
      exact ⟨r :: l', by rw [List.map_cons, er, e]⟩
  obtain ⟨l', e⟩ := back _ fun z hz => h2.subset hz
  rw [e] at h1 h2 ⊢
  have h3 : l'.Perm ks := by
    have := h2.map fun z : Str => z.cps.toList
    rw [List.map_map, List.map_map] at this
    have ei : ((fun z : Str => z.cps.toList) ∘ S) = id := by
      funext r
      rfl
    rw [ei, List.map_id, List.map_id] at this
    exact this
  rw [List.pairwise_map] at h1
  rw [len_unique (h3.trans hp.symm) (h1.imp fun h => lenKey_le h) hs]
section
variable {M : Addr → Prop} {te : TE} {σ : L2.St} {H : Hp} {β : Type} {f : β → Dt}
theorem x_sortedLen {Mx : Addr → Prop} {P : Addr} {q : Str} {r : List (Row × β)} {xs : List Row} (h : EvN Mx te σ H (.d (r.map fun p => .inr (S p.1))) (r.map fun p => f p.2)) (hn : r.length ≤ 16777216) (hl : ∀ p ∈ r, p.1.length < 1000000) (t : TabS H P q)
    (hp : xs.Perm (r.map (·.1))) (hs : xs.Pairwise lenLe) : EvX [(P, q)] M (tSortLen P q te) σ H (uL uS xs) (.ow .sh) := fun Q k =>
  h H (Ex.refl H) _ fun v H2 e2 ⟨a, vs, ev, ho, hr⟩ => by
    subst ev
    refine ⟨a, _, (r.map (·.1)).map S, rfl, .inl ho.1, ?_, ?_, fun x hx => ?_, t.ext e2, fun H3 b x3 t3 hb => ?_⟩
    · rw [show (List.zip (r.map fun p => (Sum.inr (S p.1) : Key)) vs).map (·.1) = r.map fun p => (Sum.inr (S p.1) : Key) from List.map_fst_zip (by rw [hr.len]; simp), List.map_map, List.map_map]
      rfl
    · rw [List.length_map, List.length_map, sizeLine_eq]
      exact hn
    · obtain ⟨y, hy, rfl⟩ := List.mem_map.mp hx
      obtain ⟨p, hp2, rfl⟩ := List.mem_map.mp hy
      rw [S_len]
      have := hl p hp2
      omega
    · rw [sort_len hp hs]
      have tt : Tabs [(P, q)] H3 := fun p hp => by
        rw [List.mem_singleton] at hp
        subst hp
        exact t3
      refine k _ [b] _ (fun a o n e => ?_) (tt.ext (Ex.new hb)) (by simp) (fun c hc => ?_) (ow_mu.mpr ⟨b, (xs.map S).map V.str, rfl, upd_same, rfl, ?_⟩)
      · exact Ex.new hb _ _ (x3 a o n (e2 _ _ e))
      · rw [List.mem_singleton] at hc
        subst hc
        exact none_backT ((ExT.of e2).trans x3) hb tt
      · rw [List.map_map]
        exact rpL_sc.mpr rfl
end
end Ho

/-! defs whose code object is known; what they give back when tables grow; owned slots moved -/
namespace Ho
open PySem PySem.Spec PyProof.Rows L2 Evl LamX PySem.W
structure DefAtC (K : PySem.W.Frag) (mg : Str → Option Value) (x qual : Str) (st : Stmt) (ps : List Str) (c : Addr) : Prop where
  ex : ∃ (f : Addr) (oc : Value) (od : Option Addr) (kV doc pm : Value) (an : Option Addr) (ct : Value) (osl : Array (Option Value)), mg x = some (.ref f) ∧
    K.lookup f = some ⟨oc, od, .func (PySem.W.fnOf x qual (defArgs st) (defBody st) (defScope st) .none kV doc pm an (.ref c) ct), osl⟩ ∧ PySem.W.codeIn K (.ref c) qual = true ∧ PySem.W.keepIn K (.ref f) = true ∧
    Binds K (PySem.W.fnOf x qual (defArgs st) (defBody st) (defScope st) .none kV doc pm an (.ref c) ct) ps []
section
variable {P : Program} {w : World} {K : PySem.W.Frag} {mg : Str → Option Value} {base : Heap}
theorem OkF.ofC {x qual : Str} {st : Stmt} {ps N : List Str} {k : Nat} {sp : Sp} {c : Addr} (D : DefAtC K mg x qual st ps c) (Sc : FnScope N ps (defScope st)) (len : ∀ vs H Q E, sp vs H Q E → vs.length = ps.length)
    (hbody : ∀ (f : Addr) (A : Around) (outer : List Env) (s : Shared) (H : Hp) (vs : List V) (Q : VK) (E : XK), Room k (A.deeper (envOfC qual (defScope st) s.heap.objs.size f (.ref c))) → sp vs H Q E →
      ∃ t, PSs (cxOf CX0 P w K mg base N qual (defScope st) f (.ref c) A outer s H E).nox (defBody st) t ∧ t { nx := fun _ H' => Q .non H', rt := Q } (start N vs) H) : OkF P w K mg base CX0 x (k + 1) sp := by
  obtain ⟨f, oc, od, kV, doc, pm, an, ct, osl, hm, lk, hcd, hkp, hb⟩ := D.ex
  refine ⟨f, _, ps, hm, hkp, hb, ?_⟩
  refine fn_of lk hcd Sc len fun A outer s H vs Q E hr hsp => ?_
  obtain ⟨t, h, q⟩ := hbody f A outer s H vs Q E hr hsp
  exact ⟨t, h.nox, q⟩
theorem defAtC_mk {h : Heap} {x : Str} {st : Stmt} {f c : Addr} {oc kV dc pm ct : Value} {od an : Option Addr} {sl : Array (Option Value)} {ps : List Str} (X : K.In h) (G : h.Ns mainGlobals mg)
    (a : PySem.W.nsIn K mainGlobals x = some (some (.ref f))) (l : K.lookup f = some ⟨oc, od, .func (PySem.W.fnOf x x (defArgs st) (defBody st) (defScope st) .none kV dc pm an (.ref c) ct), sl⟩) (cd : PySem.W.codeIn K (.ref c) x = true) (k : PySem.W.keepIn K (.ref f) = true)
    (b : L2.Fun K x x st f (PySem.W.fnOf x x (defArgs st) (defBody st) (defScope st) .none kV dc pm an (.ref c) ct) → Binds K (PySem.W.fnOf x x (defArgs st) (defBody st) (defScope st) .none kV dc pm an (.ref c) ct) ps []) : DefAtC K mg x x st ps c :=
  ⟨f, oc, od, kV, dc, pm, an, ct, sl, PySem.W.mg_of X G a, l, cd, k, b (fun_mk l cd k)⟩
end
/-- the law's promise where tables grow -/
def spLaw (K : PySem.W.Frag) (T : List (Addr × Str)) : Sp := fun vs H Q _ => vs.length = 1 ∧ ∃ (ns : List Int) (a : Addr), vs = [.ref a] ∧ SqL K H a (ns.map V.int) ∧ Tabs T H ∧ ∀ H', Q (.bl true) H'
section
variable {T : List (Addr × Str)} {F : Addr → Prop} {Z : Hp → (Addr → Prop) → Prop} {ρ : List Sl} {σ : L2.St} {H H' H1 H2 Hb : Hp} {O O1 O2 M : Addr → Prop} {d : Dt} {p : Pat} {v : V} {bs : List Addr} {te ta tb tc : TE} {tr : TA} {E : XK} {i j l n : Nat} {D : Ends} {K : PySem.W.Frag} {tu tz : TS} {Q : VK}
/-- a plain def whose last value makes a lambda -/
theorem c_retX0 (ok : Ok F Z ρ σ H M) (h : EvX T M te σ H d p) (k : RetT T F Hb d p D.rt) (zz : ∀ H O, Z H O → Lt Hb Mo H O) : tRet te D σ H :=
  h _ fun v bs H1 x t nd n w => by
    have l := zz _ _ ok.z
    refine k v bs H1 ((ExT.of l.out).trans x) t nd (fun b hb => fresh_back l.out (n b hb)) (w.go (fun a o m h => ⟨h, fun z => m ?_⟩) fun _ _ _ h => h)
    rcases z with z | z
    · exact .inl (ok.fr a z)
    · exact .inr z
/-- the value of a def under which tables grew, from a plain part of it -/
theorem c_retZ (ok : Ok F Z ρ σ H M) (h : EvP M te σ H d p) (k : RetT T F Hb d p D.rt) (zt : ∀ H O, Z H O → ZT T Hb H O) : tRet te D σ H :=
  c_retT (T := T) (Hb := Hb) (ok.weak zt ZT.mz) h k
/-- y = x, what x owns -/
theorem c_move (ok : Ok F Z ρ σ H M) (hj : ρ[j]? = some (.own d p)) (k : ∀ M' σ' H', Ok F Z ((ρ.set j .any).set i (.own d p)) σ' H' M' → D.nx σ' H') : tAsg (tVar j) (gName i) D σ H := by
  obtain ⟨as, nd, own, sl⟩ := ok.sl
  obtain ⟨v, bs, cs, h1, h2, h3, h4⟩ := sl.out hj
  obtain ⟨b0, cs', as', q1, q2, q3⟩ := OkL.set h2 (i := i) h3
  have nd2 := List.nodup_append.mp (h4.nodup_iff.mpr nd)
  have ndc := (List.nodup_append.mp (q1.nodup_iff.mpr nd2.2.1)).2.1
  have hc : ∀ a ∈ cs', a ∈ cs := fun a ha => q1.subset (List.mem_append_right _ ha)
  refine ⟨v, h1, k M _ H ⟨⟨as', ?_, ?_, q2⟩, ok.al, ok.fr, ok.z, ok.mz⟩⟩
  · rcases q3 with rfl | q3
    · exact ndc
    · rw [q3.nodup_iff, List.nodup_append]
      exact ⟨nd2.1, ndc, fun a ha b hb => nd2.2.2 a ha b (hc b hb)⟩
  · intro a ha
    rcases q3 with rfl | q3
    · exact own a (h4.subset (List.mem_append_right _ (hc a ha)))
    · rcases List.mem_append.mp (q3.subset ha) with z | z
      · exact own a (h4.subset (List.mem_append_left _ z))
      · exact own a (h4.subset (List.mem_append_right _ (hc a z)))
theorem b_move (ok : Ok F Z ρ σ H M) (hj : ρ[j]? = some (.own d p)) (k : ∀ M' σ' H', Ok F Z ((ρ.set j .any).set i (.own d p)) σ' H' M' → tz D σ' H') : tSeq (tAsg (tVar j) (gName i)) tz D σ H := c_move (D := { D with nx := tz D }) ok hj k
end
/-! list(range(a, b, c)), c positive -/
def rgN (a b c : Int) : Nat := if a < b then ((b - a - 1) / c + 1).toNat else 0
def rgS (a b c : Int) : List Int := (List.range (rgN a b c)).map fun i => a + (i : Nat) * c
theorem rgN_is {a b c : Int} (hc : 0 < c) : Builtin.Range.rangeSize a b c = (rgN a b c : Int) := by
  unfold Builtin.Range.rangeSize rgN
  rw [if_pos hc]
  split
  · have := Int.ediv_nonneg (show 0 ≤ b - a - 1 by omega) (show 0 ≤ c by omega)
    omega
  · rfl
theorem rgN_le {a b c : Int} (hc : 0 < c) : rgN a b c ≤ (b - a).toNat := by
  unfold rgN
  split
  · have h1 : (b - a - 1) / c ≤ b - a - 1 := Int.ediv_le_self _ (by omega)
    omega
  · omega
theorem rgS_len (a b c : Int) : (rgS a b c).length = rgN a b c := by unfold rgS; rw [List.length_map, List.length_range]
theorem rgS_mem {a b c x : Int} (hc : 0 < c) (h : x ∈ rgS a b c) : a ≤ x ∧ x < b := by
  unfold rgS at h
  obtain ⟨i, hi, rfl⟩ := List.mem_map.mp h
  rw [List.mem_range] at hi
  unfold rgN at hi
  split at hi
  · have h2 : (i : Int) ≤ (b - a - 1) / c := by omega
    have h3 : (i : Int) * c ≤ (b - a - 1) / c * c := Int.mul_le_mul_of_nonneg_right h2 (by omega)
    have h4 := Int.ediv_mul_le (b - a - 1) (show c ≠ 0 by omega)
    have h5 : 0 ≤ (i : Int) * c := Int.mul_nonneg (by omega) (by omega)
    omega
  · omega
theorem small_pos {a b c : Int} (hc : 0 < c) (hc2 : c < 1073741824) (ha : -1000000 ≤ a) (ha' : a ≤ 1000000) (hb : -1000000 ≤ b) (hb' : b ≤ 1000000) : Builtin.Range.small a b c = true := by
  have h1 := rgN_is (a := a) (b := b) hc
  have h2 := rgN_le (a := a) (b := b) hc
  unfold Builtin.Range.small
  rw [h1]
  simp only [Builtin.Range.rangeFitsLong, Bool.and_eq_true, Bool.or_eq_true, decide_eq_true_eq, beq_iff_eq, hc, if_true]
  have h4 : a + (rgN a b c : Int) * c ≤ 2 ^ 62 ∧ -(2 ^ 62) ≤ a + (rgN a b c : Int) * c := by
    have e1 : (rgN a b c : Int) * c ≤ 2000000 * 1073741824 := Int.mul_le_mul (by omega) (by omega) (by omega) (by omega)
    have e2 : 0 ≤ (rgN a b c : Int) * c := Int.mul_nonneg (by omega) (by omega)
    omega
  omega
def tLstRg3 (ta : TA) : TE := fun σ H Q => ta σ H fun vs H1 => ∃ i j k, vs = [.int i, .int j, .int k] ∧ (0 < k ∧ k < 1073741824 ∧ -1000000 ≤ i ∧ i ≤ 1000000 ∧ -1000000 ≤ j ∧ j ≤ 1000000) ∧ ∀ q, H1 q = none → Q (.ref q) (upd H1 q (.lst ((rgS i j k).map V.int)))
section
variable {X : Cx}
theorem pe_listRg3 {a b c : Expr} {ta : TA} {p pos p1 pos1 : Pos} (hc : X.calm = true) (hg : Gl X "list") (hm : X.mg "list" = none) (hg1 : Gl X "range") (hm1 : X.mg "range" = none) (ha : PA X [a, b, c] ta)
    (hs : starEach [a, b, c] X.env = (false, eval a X.env) :: starEach [b, c] X.env := by rfl) (hpl : (backTo pos1 (starEach [b, c] X.env)).any (·.1) = false := by rfl)
    (na : starEach [.Call (.Name "range" p1) [a, b, c] [] pos1] X.env = (false, eval (.Call (.Name "range" p1) [a, b, c] [] pos1) X.env) :: starEach [] X.env := by rfl) :
    PE X (.Call (.Name "list" p) [.Call (.Name "range" p1) [a, b, c] [] pos1] [] pos) (tLstRg3 ta) := by
  refine ⟨fun pins s σ H Q I h => ?_⟩
  refine Call_ (ld_blt I hg hm boot_list (PyProof.Rows.callWith_type1 (args_cons (Call_ (ld_blt I hg1 hm1 boot_range (PyProof.Rows.callWith_type1 (thn (ha.run pos1 pins s σ H _ I h) fun us s1 ⟨vs, H1, I1, r1, q1⟩ => ?_) hs hpl))) na) na))
  obtain ⟨i, j, k, e, ⟨c0, c1, c2, c3, c4, c5⟩, q⟩ := q1
  subst e
  cases r1 with
  | cons r rr =>
    cases rr with
    | cons r' rr =>
      cases rr with
      | cons r'' rr =>
        cases rr
        obtain ⟨t, rfl⟩ := r
        obtain ⟨t', rfl⟩ := r'
        obtain ⟨t'', rfl⟩ := r''
        refine call_range_3 (by omega) ?_ (.inl (PyProof.noPylong_small (by omega)))
        have I2 : Inv X pins σ H1 { s1 with heap := s1.heap.push { cls := .type "range", data := .fields #[.int i t, .int j t', .int k t''] } } := I1.kept (t' := s1.toks) fun b o e => Heap.get?_push_of_some _ e
        refine args_nil ?_
        refine call_list_range (n := rgN i j k) (I2.ok.hd hc) (IsRange.new ..) (small_pos c0 c1 c2 c3 c4 c5) (rgN_is c0) (by have := rgN_le (a := i) (b := j) c0; omega) fun h' tk acc c' hk e' hi => ?_
        have hv : Vals ((rgS i j k).map V.int) acc.toList := by
          have e : acc.toList.length = rgN i j k := by rw [Array.length_toList]; exact hi.1
          unfold rgS
          rw [← e, List.map_map]
          refine vals_of_get acc.toList _ fun m u hm => ?_
          obtain ⟨t, rfl⟩ := hi.2 m u (by rw [← hm, Array.getElem?_toList])
          exact ⟨t, rfl⟩
        refine ⟨.ref _, upd H1 _ (.lst ((rgS i j k).map V.int)), I2.laid hk (Nat.le_refl _) (show ObjOk X.prog X.w _ _ _ (.lst ((rgS i j k).map V.int)) from ⟨?_, acc.toList, c', hv, ?_⟩), rfl, q _ (I2.hok.fresh (Nat.le_refl _))⟩
        · rw [List.length_map, rgS_len, sizeLine_eq]
          have := rgN_le (a := i) (b := j) c0
          omega
        · rw [Array.toArray_toList]; exact e'
end
theorem p_lrg3 {σ : L2.St} {H : Hp} {M : Addr → Prop} {ta : TA} {m n c : Int} (h : EvA ta σ H [.int m, .int n, .int c]) (hc : 0 < c) (hc2 : c < 1073741824) (hm : -1000000 ≤ m ∧ m ≤ 1000000) (hn : -1000000 ≤ n ∧ n ≤ 1000000) : EvP M (tLstRg3 ta) σ H (uL uI (rgS m n c)) (.ow .sh) := fun H1 e Q q =>
  h H1 e _ fun H2 e2 => ⟨m, n, c, rfl, ⟨hc, hc2, hm.1, hm.2, hn.1, hn.2⟩, fun p hp => q _ [p] _ (e2.trans (Ex.new hp)) (by simp) (by simpa using fresh_back e2 hp) (ow_mu.mpr ⟨p, _, rfl, upd_same, rfl, rpL_sc.mpr rfl⟩)⟩
end Ho
namespace Ho
open PySem PySem.Spec PyProof.Rows L2 Evl in
theorem ed_disp1 {σ : L2.St} {H : Hp} {ta tb : TE} {a : Row} {v : V} (hk : Ev ta σ H (VS a)) (hv : Ev tb σ H v) : EvD (tDisp [(ta, tb)]) σ H [(Sum.inr (S a), v)] := fun H1 e Q q => fun p hp =>
  hk _ (e.trans (Ex.new hp)) _ fun H2 e2 => hv H2 ((e.trans (Ex.new hp)).trans e2) _ fun H3 e3 => ⟨(e2.trans e3) _ _ upd_same, [(Sum.inr (S a), v)], rfl, by simp, by
    exact q p _ hp (Ex.xb0 ((Ex.new hp).trans (e2.trans e3)) (xb_upd (p := p)) (fun a ha => by rw [List.mem_singleton.mp ha]; exact hp)) upd_same⟩
theorem no_hit {α : Type} {ns : List α} {p : α → Prop} {Q : α → Prop} (h : ∀ z ∈ ns, ¬ p z) : ∀ z ∈ ns, p z → Q z := fun z hz e => absurd e (h z hz)
open PySem PySem.Spec PyProof.Rows L2 Evl LamX
abbrev FT (T : List (Addr × Str)) : Addr → Prop := fun a => ∃ p ∈ T, a = p.1
theorem al_FT {T : List (Addr × Str)} {H : Hp} (t : Tabs T H) : Al (FT T) H := fun a ⟨p, hp, e⟩ => by
  obtain ⟨ps, h, _⟩ := t p hp
  rw [e, h]
  simp
end Ho

/-! a lambda of one parameter, handed to a def of three that calls it -/
namespace Ho
open PySem PySem.Spec PyProof.Rows L2 Evl LamX PySem.W
structure LamS1 (sc scope : Scope) (y : Str) : Prop where
  kind : scope.kind = .function
  co : scope.isCoroutine = false
  gen : scope.isGenerator = false
  par : scope.names.lookup y = some .local
  own : ∀ z ∈ scope.names, z.2 = .local → z.1 = y
  nocell : ∀ z ∈ scope.names, z.2 ≠ .cell
  free : ∀ z ∈ scope.names, z.2 = .free → sc.names.lookup z.1 = some .cell ∨ sc.names.lookup z.1 = some .free
def lamS1B (sc scope : Scope) (y : Str) : Bool :=
  decide (scope.kind = .function) && !scope.isCoroutine && !scope.isGenerator && decide (scope.names.lookup y = some .local) && scope.names.all fun z => (!decide (z.2 = .local) || decide (z.1 = y)) && !decide (z.2 = .cell) && (!decide (z.2 = .free) || decide (sc.names.lookup z.1 = some .cell) || decide (sc.names.lookup z.1 = some .free))
theorem lamS1_by {sc scope : Scope} {y : Str} (h : lamS1B sc scope y = true) : LamS1 sc scope y := by
  unfold lamS1B at h
  simp only [Bool.and_eq_true, Bool.or_eq_true, Bool.not_eq_true', decide_eq_true_eq, decide_eq_false_iff_not, List.all_eq_true] at h
  obtain ⟨⟨⟨⟨h1, h2⟩, h3⟩, h4⟩, h5⟩ := h
  refine ⟨h1, h2, h3, h4, fun z hz e => ?_, fun z hz => (h5 z hz).1.2, fun z hz e => ?_⟩
  · rcases (h5 z hz).1.1 with q | q
    · exact absurd e q
    · exact q
  · rcases (h5 z hz).2 with (q | q) | q
    · exact absurd e q
    · exact .inl q
    · exact .inr q
theorem LamS1.has {X : Cx} {scope : Scope} {y : Str} (L : LamS1 X.env.scope scope y) (ok : X.Ok) : ∀ z ∈ scope.names, z.2 = .free → ∃ c, X.env.cells.lookup z.1 = some c := fun z hz e => by
  rcases L.free z hz e with k | k
  · exact ok.has _ (.inl k)
  · exact ok.has _ (.inr k)
/-- the context of the lambda's body, entered at s from the frames outer -/
def lamCx1 (X : Cx) (A : Around) (outer : List Env) (s : Shared) (H : Hp) (scope : Scope) (f c' : Addr) (y : Str) : Cx where
  prog := X.prog
  w := X.w
  K := X.K
  mg := X.mg
  base := X.base
  A := A.deeper (lamEnv X scope s.heap.objs.size f c')
  N := X.N ++ [y]
  s_0 := s
  H_0 := H
  env := lamEnv X scope s.heap.objs.size f c'
  outer := outer
  stack := lamEnv X scope s.heap.objs.size f c' :: outer
  ex := []
  fn := fun _ => false
  calm := true
  pn := []
  xe := fun e s' => wpAny (model X.prog X.w) (A.deeper (lamEnv X scope s.heap.objs.size f c')) (leaving (lamEnv X scope s.heap.objs.size f c') e) (fun _ s'' => L2.CX0 outer H s E0 e s'') (fun e' s'' => L2.CX0 outer H s E0 e' s'') s'
section
variable {X : Cx} {pins : List (Addr × Obj)} {σ : L2.St} {H HZ : Hp} {s s1 : Shared}
theorem lam_start1 {A : Around} {outer : List Env} {scope : Scope} {f c' : Addr} {h₁ : Heap} {tk : Nat} {y : Str} {u : Value} {v : V} (I : Inv X pins σ H s) (L : LamS1 X.env.scope scope y) (hyN : y ∉ X.N) (e0 : Env0 X.prog X.w X.K X.mg X.base A outer s1 HZ) (hd : A.handled = none)
    (un : Un (frs X.stack) [] H HZ s.heap s1.heap) (hns : h₁.Ns s1.heap.objs.size fun z => ([(y, u)] : List (Str × Value)).reverse.lookup z) (kp : ∀ b o, s1.heap.get? b = some o → h₁.get? b = some o) (ruv : RelV v u) :
    Inv (lamCx1 X A outer s1 HZ scope f c' y) [] (σ ++ [some v]) HZ { s1 with heap := h₁, toks := tk } := by
  have hfree := L.has I.ok
  have cm : ∀ {y c}, (cloFrom X.env.cells scope.names []).lookup y = some c → X.env.cells.lookup y = some c := fun {y c} e => by
    rcases cloFrom_mem (PySem.mem_of_lookup e) with hm | ⟨h1, h2⟩
    · cases hm
    · obtain ⟨c1, hc⟩ := hfree _ h1 rfl
      have hc : X.env.cells.lookup y = some c1 := hc
      have e2 : c = c1 := by
        rw [h2, hc] <;> rfl
      rw [e2]
      exact hc
  have look : ∀ {y}, scope.names.lookup y = some .free → ∃ c, (cloFrom X.env.cells scope.names []).lookup y = some c := fun {y} hl => by
    have hy : (y, NameKind.free) ∈ scope.names := PySem.mem_of_lookup hl
    exact mem_lookup (cloFrom_has (cells := X.env.cells) (acc := []) hy)
  have cellK : ∀ {c : Addr} {v : Option Value}, H c = none → s.heap.IsCell c v → h₁.IsCell c v := fun {c v} n ⟨o, ho, hd⟩ => by
    obtain ⟨sl, q⟩ := un.any ho n (by simp)
    exact ⟨_, kp _ _ q, hd⟩
  have noA : ∀ b : Addr, b ∉ (lamCx1 X A outer s1 HZ scope f c' y).ex := fun b z => absurd (show b ∈ ([] : List Addr) from z) (by simp)
  refine ⟨⟨e0.mod, L.kind, rfl, rfl, Nat.le_refl _, fun y z c e1 e2 => I.ok.inj y z c (cm e1) (cm e2), fun y hy => ?_, fun y c z _ => ?_, fun _ => hd, Around.frames_deeper e0.frames, .inr ⟨rfl, rfl⟩, fun b z => absurd z (noA b), e0.bs, e0.bsz, fun b _ _ => noA b,
      fun b z => absurd z (noA b), e0.funs, e0.frf⟩,
    rfl, e0.bare, Un.kept kp, ⟨_, hns, fun i z w e1 e2 e3 => ?_⟩, fun y c e => ?_, e0.hok.fresh (Nat.le_refl _), fun y c e => ?_, fun q hq => absurd (show q ∈ ([] : List (Addr × Obj)) ++ [] from hq) (by simp), e0.hok.kept kp, ?_⟩
  · have hy : scope.names.lookup y = some .cell ∨ scope.names.lookup y = some .free := hy
    rcases hy with hy | hy
    · exact absurd rfl (L.nocell _ (PySem.mem_of_lookup hy))
    · exact look hy
  · have z : false = true := z
    cases z
  · have e1 : (X.N ++ [y])[i]? = some z := e1
    have e3 : Vis scope z := e3
    by_cases hi : i < X.N.length
    · rw [List.getElem?_append_left hi] at e1
      rw [List.getElem?_append_left (by rw [I.len]; exact hi)] at e2
      have hzy : z ≠ y := fun q => hyN (by rw [← q]; exact List.mem_of_getElem? e1)
      rcases e3 with k | k | k
      · exact absurd (L.own _ (PySem.mem_of_lookup k) rfl) hzy
      · exact absurd rfl (L.nocell _ (PySem.mem_of_lookup k))
      · obtain ⟨m, hn, hl⟩ := I.loc
        have hvis : Vis X.env.scope z := (L.free _ (PySem.mem_of_lookup k) rfl).elim (fun k => .inr (.inl k)) (fun k => .inr (.inr k))
        obtain ⟨w', r, q⟩ := hl i z w e1 e2 hvis
        obtain ⟨c2, h2⟩ := look k
        refine ⟨w', r, .inr ⟨.inr k, c2, h2, ?_⟩⟩
        have c1 := cm h2
        rcases q with ⟨k', _⟩ | ⟨_, c3, e', z'⟩
        · have k' : X.env.scope.names.lookup z = some .local := k'
          rcases L.free _ (PySem.mem_of_lookup k) rfl with k2 | k2 <;> rw [show X.env.scope.names.lookup z = _ from k2] at k' <;> cases k'
        · rw [c1] at e'
          cases e'
          exact cellK (I.freeC z _ c1) z'
    · have hl := I.len
      have hi2 : i = X.N.length := by
        have := (List.getElem?_eq_some_iff.mp e1).1
        rw [List.length_append] at this
        simp at this
        omega
      subst hi2
      rw [List.getElem?_append_right (Nat.le_refl _), Nat.sub_self] at e1
      rw [List.getElem?_append_right (by omega), hl, Nat.sub_self] at e2
      obtain rfl : y = z := by simpa using e1
      obtain rfl : v = w := by simpa using e2
      exact ⟨u, ruv, .inl ⟨L.par, by simp [List.lookup]⟩⟩
  · obtain ⟨w', z⟩ := I.cell y c (cm e)
    exact ⟨w', cellK (I.freeC y c (cm e)) z⟩
  · obtain ⟨v, o, ho, hd⟩ := I.cell y c (cm e)
    exact un.free c o ho (I.freeC y c (cm e)) (by simp)
  · show (σ ++ [some v]).length = (X.N ++ [y]).length
    rw [List.length_append, List.length_append, I.len]
    rfl
end
/-- the call of what the def got in its slot i: tl: what that makes of a value -/
def Act (Z : Cx) (a : Str) (i : Nat) (f c' : Addr) (q : Str) (tl : V → Hp → VK → Prop) : Prop := ∀ {p1 p2 : Pos} {e1 : Expr} {te1 : TE}, PE Z e1 te1 → starEach [e1] Z.env = (false, eval e1 Z.env) :: starEach [] Z.env →
  PE Z (.Call (.Name a p1) [e1] [] p2) (fun σZ HZ Q => σZ[i]? = some (some (.ref f)) ∧ te1 σZ HZ fun v H' => H' c' = some (CodeO c' q) ∧ tl v H' Q)
section
variable {X : Cx} {pins : List (Addr × Obj)} {σ : L2.St} {H HZ : Hp} {s s1 : Shared}
theorem pe_act1 {Ng : List Str} {qg : Str} {sg : Scope} {g f c' : Addr} {cdg pm ctv : Value} {params : Arguments} {body : Expr} {scope : Scope} {k i : Nat} {a y : Str} {tb : TE}
    (I : Inv X pins σ H s) (L : LamS1 X.env.scope scope y) (hyN : y ∉ X.N) (hf : s.heap.get? f = some (kla_obj "<lambda>" (X.env.qual ++ "<lambda>") params body scope (cloFrom X.env.cells scope.names []) pm c' ctv)) (hfn : H f = none) (hfr : f ∉ frs X.stack)
    (hbind : ∀ u : Value, bindArgs (kla_fn "<lambda>" (X.env.qual ++ "<lambda>") params body scope (cloFrom X.env.cells scope.names []) pm (.ref c') ctv) ⟨[u], []⟩ = pure [(y, u)])
    (hr : Room (k + 1) (X.A.deeper (envOfC qg sg s.heap.objs.size g cdg)))
    (hbody : ∀ (A : Around) (outer : List Env) (s : Shared) (H : Hp), Room k (A.deeper (lamEnv X scope s.heap.objs.size f c')) → PE (lamCx1 X A outer s H scope f c' y) body tb)
    (hN : Ng[i]? = some a) (hv : Vis sg a) (hd : (a == ("__debug__" : Str)) = false) (hcd : (a == ("__classdict__" : Str)) = false) :
    Act (cxOf L2.CX0 X.prog X.w X.K X.mg X.base Ng qg sg g cdg X.A X.stack s H E0).nox a i f c' (X.env.qual ++ "<lambda>") (fun v H' Q => tb (σ ++ [some v]) H' Q) := by
  intro p1 p2 e1 te1 he1 hst
  refine ⟨fun pinsZ sZ σZ HZ Q IZ h => ?_⟩
  obtain ⟨hs, ht⟩ := h
  refine wpAny_Call_Name_kw (thn ((pe_var (pos := p1) (i := i) hN hv hd hcd).run pinsZ sZ σZ HZ (fun v H1 => v = .ref f ∧ H1 = HZ) IZ ⟨.ref f, hs, rfl, rfl⟩) fun u s1 ⟨v, H1, I1, r1, q1⟩ => ?_)
  obtain ⟨ev, eH⟩ := q1
  subst ev
  rw [eH] at I1
  obtain rfl : u = Value.ref f := r1
  have at_ : ∀ {s2 : Shared} {σ2 : L2.St} {H2 : Hp}, Inv (cxOf L2.CX0 X.prog X.w X.K X.mg X.base Ng qg sg g cdg X.A X.stack s H E0).nox pinsZ σ2 H2 s2 → s2.heap.get? f = some (kla_obj "<lambda>" (X.env.qual ++ "<lambda>") params body scope (cloFrom X.env.cells scope.names []) pm c' ctv) :=
    fun I2 => I2.base.keep f _ hf hfn hfr (fun z => nomatch (show f ∈ ([] : List Addr) from z))
  refine PySem.W.callWith_F ⟨_, _, _, _, at_ I1⟩ ?_ hst rfl
  rw [hst]
  refine Calls.spliced_cons (thn (he1.run pinsZ s1 σZ HZ _ I1 ht) fun u1 s2 ⟨v1, H2, I2, r2, hc, ht2⟩ => Calls.spliced_nil ⟨⟨_, _, _, _, at_ I2⟩, ?_⟩)
  have un : Un (frs X.stack) [] H H2 s.heap s2.heap := I2.base
  obtain ⟨⟨oc, vs, t, hoc, hdc, hvc⟩, _, _⟩ := I2.hok c' _ hc
  have rc : codeAny (model X.prog X.w) (X.A.deeper (envOfC qg sg s.heap.objs.size g cdg)) (.call (.ref f) ⟨[u1], []⟩) (CR L2.CX0 (envOfC qg sg s.heap.objs.size g cdg :: X.stack) X.prog X.w H2 s2 Q E0) s2 := by
    refine PySem.W.kla_callFunE hr.depth (at_ I2) rfl L.co L.gen rfl ⟨c', oc, vs, t, rfl, hoc, hdc, hvc⟩ ?_
    rw [hbind]
    refine wpAny_pure (wpAny_newFunctionEnv L.nocell (fun z hz => by
      rw [List.mem_singleton] at hz
      subst hz
      exact L.par) (fun h₁ hns hsb => ⟨I2.nolimit.fresh _ hsb, ?_⟩) L.kind)
    show codeAny _ _ (.expr body (lamEnv X scope s2.heap.objs.size f c')) _ _
    have kp : ∀ b o, s2.heap.get? b = some o → h₁.get? b = some o := fun b o e => hsb.extBut b o (Nat.ne_of_lt (Heap.lt_size e)) (Heap.get?_push_of_some _ e)
    have J : Inv (lamCx1 X (X.A.deeper (envOfC qg sg s.heap.objs.size g cdg)) (envOfC qg sg s.heap.objs.size g cdg :: X.stack) s2 H2 scope f c' y) [] (σ ++ [some v1]) H2 { s2 with heap := h₁, toks := s2.toks + ([(y, u1)] : List (Str × Value)).length } :=
      lam_start1 I L hyN I2.env0 hr.hd un hns kp r2
    refine PySem.W.kla_codeExpr (wpAny_mono ((hbody _ _ s2 H2 (hr.deeper _)).run [] _ _ H2 Q J ht2) (fun v s' hq => ?_) fun e s' hq => hq)
    obtain ⟨w', H', J', rv, q⟩ := hq
    exact ⟨w', H', J'.os, J'.bare, J'.base, J'.hok, rv, q⟩
  refine wpAny_call (codeAny_mono rc fun r s' hq => ?_)
  cases r with
  | error e => exact (show False from hq).elim
  | ok fl =>
    cases fl with
    | ret u => exact I2.after hq
    | next => exact False.elim hq
    | brk => exact False.elim hq
    | cont => exact False.elim hq
end
/-- what a def of three parameters makes of a lambda and two values -/
def GivesN (P : Program) (w : World) (K : PySem.W.Frag) (mg : Str → Option Value) (base : Heap) (A : Around) (outer : List Env) (k : Nat) (Ng : List Str) (x : Str) (sg : Scope) (g : Addr) (cdg : Value) (bg : List Stmt) (a q : Str) (TT : Addr → (V → Hp → VK → Prop) → V → V → Hp → VK → Prop) : Prop :=
  ∀ (f c' : Addr) (s : Shared) (H : Hp) (Q : VK) (tl : V → Hp → VK → Prop) (v1 v2 : V), Room k (A.deeper (envOfC x sg s.heap.objs.size g cdg)) →
    Act (cxOf L2.CX0 P w K mg base Ng x sg g cdg A outer s H E0).nox a 0 f c' q tl → H c' = some (CodeO c' q) → TT f tl v1 v2 H Q →
    ∃ t, PSs (cxOf L2.CX0 P w K mg base Ng x sg g cdg A outer s H E0).nox bg t ∧ t { nx := fun _ H' => Q .non H', rt := Q } (L2.start Ng [.ref f, v1, v2]) H
def tLam3 (P : Addr) (q : Str) (TT : Addr → (V → Hp → VK → Prop) → V → V → Hp → VK → Prop) (t t2 t3 : TE) : TE := fun σ H Q => TabS H P q ∧ ∀ H1 c' f, ExT [(P, q)] H H1 → TabS H1 P q → H1 c' = some (CodeO c' q) →
  t2 σ H1 fun v2 H2 => t3 σ H2 fun v3 H3 => H3 c' = some (CodeO c' q) ∧ TT f (fun v H' Q' => t (σ ++ [some v]) H' Q') v2 v3 H3 Q
section
variable {X : Cx}
theorem pe_lamcall3 {TT : Addr → (V → Hp → VK → Prop) → V → V → Hp → VK → Prop} {x a a2 a3 y q : Str} {g c P : Addr} {k : Nat} {pg : Arguments} {bg : List Stmt} {sg : Scope} {dV kV doc pm cdv ct oc : Value} {an od : Option Addr} {osl : Array (Option Value)} {Ng : List Str}
    {params : Arguments} {body e2 e3 : Expr} {scope : Scope} {t t2 t3 : TE} {p lpos pos : Pos} (hg : Gl X x) (hm : X.mg x = some (.ref g)) (hk : PySem.W.keepIn X.K (.ref g) = true)
    (lk : X.K.lookup g = some ⟨oc, od, .func (PySem.W.fnOf x x pg bg sg dV kV doc pm an cdv ct), osl⟩) (hcg : PySem.W.codeIn X.K cdv x = true) (hb : L2.Binds X.K (PySem.W.fnOf x x pg bg sg dV kV doc pm an cdv ct) [a, a2, a3] []) (Sg : FnScope Ng [a, a2, a3] sg) (hNg : Ng[0]? = some a) (hva : Vis sg a)
    (hG : ∀ (A : Around) (outer : List Env), GivesN X.prog X.w X.K X.mg X.base A outer (k + 1) Ng x sg g cdv bg a q TT)
    (TB : TabB X.base X.mg c P) (hcode : X.env.code = .ref c) (eq : X.env.qual ++ "<lambda>" = q) (hr : Room (k + 2) X.A) (L : LamS1 X.env.scope scope y) (hyN : y ∉ X.N) (hdef : defaultsOf params X.env = ([], []))
    (hbind : ∀ (q : Str) (cl : List (Str × Addr)) (pm cv ctv u : Value), bindArgs (PySem.W.kla_fn "<lambda>" q params body scope cl pm cv ctv) ⟨[u], []⟩ = pure [(y, u)])
    (hbody : ∀ (A : Around) (outer : List Env) (s : Shared) (H : Hp) (f c' : Addr), Room k (A.deeper (lamEnv X scope s.heap.objs.size f c')) → PE (lamCx1 X A outer s H scope f c' y) body t)
    (h2 : PE X e2 t2) (h3 : PE X e3 t3)
    (hdb : (x == ("__debug__" : Str)) = false := by decide) (hd : (a == ("__debug__" : Str)) = false := by decide) (hcd : (a == ("__classdict__" : Str)) = false := by decide)
    (n1 : starEach [.Lambda params body scope lpos, e2, e3] X.env = (false, eval (.Lambda params body scope lpos) X.env) :: (false, eval e2 X.env) :: (false, eval e3 X.env) :: starEach [] X.env := by rfl) (n2 : (backTo pos (starEach [e2, e3] X.env)).any (·.1) = false := by rfl)
    (n3 : starEach [.Lambda params body scope lpos, e2, e3] X.env = (false, eval (.Lambda params body scope lpos) X.env) :: starEach [e2, e3] X.env := by rfl) :
    PE X (.Call (.Name x p) [.Lambda params body scope lpos, e2, e3] [] pos) (tLam3 P q TT t t2 t3) := by
  refine ⟨fun pins s σ H Q I h => ?_⟩
  obtain ⟨hT, h⟩ := h
  subst eq
  refine wpAny_Call_Name_kw (ld_glob I hg hm ?_ hdb)
  refine PySem.W.callWith_K (h₀ := X.base) I.ok.mod.kin hk ?_ n3 n2
  rw [n1]
  refine Calls.spliced_cons (lam_grow I TB hcode rfl hT hdef (L.has I.ok) fun f c' pm' ctv H1 s1 I1 xT T1 hf hfn hfr hco => ?_)
  have hL : f ≠ X.env.locals := fun z => by
    obtain ⟨m, ⟨o, es, ep, e, hd, _⟩, _⟩ := I1.loc
    rw [← z, hf] at e
    cases e
    cases hd
  have hFs : f ∉ X.fs := fun z => hfr (by
    rcases I1.ok.stk with e | ⟨e, _⟩
    · rw [e]; exact z
    · rw [e]
      show f ∈ List.filterMap (·.frame) (X.env :: X.outer)
      rw [List.filterMap_cons]
      split
      · exact z
      · exact List.mem_cons_of_mem _ z)
  have J1 : Inv X ((f, kla_obj "<lambda>" (X.env.qual ++ "<lambda>") params body scope (cloFrom X.env.cells scope.names []) pm' c' ctv) :: pins) σ H1 s1 := I1.pins_of fun p hp => by
    rcases List.mem_cons.mp hp with rfl | hp
    · exact ⟨hf, hfn, hL, hFs, fun v z => by cases z⟩
    · exact I1.pin p (List.mem_append_right _ hp)
  refine Calls.spliced_cons (thn (h2.run _ s1 σ H1 _ J1 (h H1 c' f xT T1 hco)) fun u2 s2 ⟨v2, H2, I2, r2, q2⟩ => ?_)
  refine Calls.spliced_cons (thn (h3.run _ s2 σ H2 _ I2 q2) fun u3 s3 ⟨v3, H3, I3, r3, hc3, q3⟩ => Calls.spliced_nil ⟨I3.kIn, ?_⟩)
  obtain ⟨hf3, hfn3, _⟩ := I3.pin _ (List.mem_append_right _ List.mem_cons_self)
  have rc : codeAny (model X.prog X.w) X.A (.call (.ref g) ⟨[.ref f, u2, u3], []⟩) (CR L2.CX0 X.stack X.prog X.w H3 s3 Q E0) s3 := by
    refine run_ofS (N := Ng) (ps := [a, a2, a3]) (us := [.ref f, u2, u3]) (vs := [.ref f, v2, v3]) lk hcg Sg hr I3.env0 (hb s3 [.ref f, u2, u3] I3.kIn rfl) (.cons rfl (.cons r2 (.cons r3 .nil))) rfl fun hr' => ?_
    obtain ⟨t', ht', hq'⟩ := hG X.A X.stack f c' s3 H3 Q (fun v H' Q' => t (σ ++ [some v]) H' Q') v2 v3 hr' (pe_act1 (i := 0) I3 L hyN hf3 hfn3 hfr (fun u => hbind _ _ _ _ _ u) hr' (fun A outer s H hr2 => hbody A outer s H f c' hr2) hNg hva hd hcd) hc3 q3
    exact ⟨t', ht'.nox, hq'⟩
  refine wpAny_call (codeAny_mono rc fun r s2 hq => ?_)
  cases r with
  | error e => exact (show False from hq).elim
  | ok fl =>
    cases fl with
    | ret u =>
      obtain ⟨w2, H4, I4, r4, q4⟩ := I3.after hq
      exact ⟨w2, H4, I4.pins_of fun p hp => I4.pin p (List.mem_append_right _ (List.mem_cons_of_mem _ hp)), r4, q4⟩
    | next => exact False.elim hq
    | brk => exact False.elim hq
    | cont => exact False.elim hq
end
end Ho
namespace Ho
open PySem PySem.Spec PyProof.Rows L2 Evl LamX PySem.W
theorem OkL.push {M : Addr → Prop} {H : Hp} {d : Dt} {v : V} (h : Rp M H d v) : ∀ {ρ : List Sl} {σ : List (Option V)}, OkL M H ρ σ [] → OkL M H (ρ ++ [st d]) (σ ++ [some v]) []
  | [], σ, ⟨e, _⟩ => by
    subst e
    exact ⟨v, [], [], [], rfl, rfl, ow_sh.mpr ⟨rfl, h⟩, rfl, rfl⟩
  | .una :: ρ, σ, ⟨r, e, t⟩ => by
    subst e
    exact ⟨r ++ [some v], rfl, OkL.push h t⟩
  | .any :: ρ, σ, ⟨x, r, e, t⟩ => by
    subst e
    exact ⟨x, r ++ [some v], rfl, OkL.push h t⟩
  | .own d' p :: ρ, σ, ⟨w, r, bs, cs, e, ea, o, t⟩ => by
    obtain ⟨rfl, rfl⟩ := List.append_eq_nil_iff.mp ea.symm
    subst e
    exact ⟨w, r ++ [some v], [], [], rfl, rfl, o, OkL.push h t⟩
theorem Ok.push {ρ : List Sl} {σ : L2.St} {H : Hp} {d : Dt} {v : V} {F : Addr → Prop} {Z : Hp → (Addr → Prop) → Prop} {M : Addr → Prop} (ok : Ok F Z ρ σ H M) (h : Rp Mo H d v) : Ok Mo (fun _ _ => True) (ρ.map rdSl ++ [st d]) (σ ++ [some v]) H Mo := by
  obtain ⟨as, nd, own, sl⟩ := ok.sl
  exact ⟨⟨[], List.nodup_nil, (fun a ha => by cases ha), OkL.push h sl.rd⟩, fun a h => h.elim, fun a h => h, trivial, fun _ _ _ _ _ _ => trivial⟩
/-- the promise of a def that calls the lambda it got with what it got behind it, and says whether that is the third -/
def NewT (Gd : Dt → Prop) (Gr : Dt → Prop) : Addr → (V → Hp → VK → Prop) → V → V → Hp → VK → Prop := fun f tl v1 v2 H Q => ∃ (Fo : Addr → Prop) (d dd : Dt), Al Fo H ∧ Rp Fo H d v1 ∧ Rp Fo H dd v2 ∧ Gd d ∧ Gr dd ∧
  (∀ H1, Ex H H1 → ∀ v, Rp Mo H1 d v → ∀ Q', RetP Mo H1 dd (.ow .sh) Q' → tl v H1 Q') ∧ RetP Fo H (uB true) .sh Q
section
variable {T : List (Addr × Str)} {F : Addr → Prop} {Z : Hp → (Addr → Prop) → Prop} {ρ : List Sl} {σ : L2.St} {H H' H1 H2 Hb : Hp} {M : Addr → Prop} {d dd : Dt} {p : Pat} {v : V} {t t2 t3 te : TE} {P f c' : Addr} {q : Str} {Gd Gr : Dt → Prop} {i : Nat} {tl : V → Hp → VK → Prop} {tt : TT} {tu tz : TS} {D : Ends}
theorem x_lam3 (ok : Ok F (ZT T Hb) ρ σ H M) (hF : ∀ q ∈ T, F q.1) (hm : (P, q) ∈ T) (hd : ∀ p ∈ T, p = (P, q) ∨ P ≠ p.1) (hgd : Gd d) (hgr : Gr dd)
    (h2 : ∀ M' H', Ok F (ZT T Hb) ρ σ H' M' → EvR Mo t2 σ H' d) (h3 : ∀ M' H', Ok F (ZT T Hb) ρ σ H' M' → EvR Mo t3 σ H' dd)
    (ht : ∀ H' v, Ok Mo (fun _ _ => True) (ρ.map rdSl ++ [st d]) (σ ++ [some v]) H' Mo → EvP Mo t (σ ++ [some v]) H' dd (.ow .sh)) : EvX T M (tLam3 P q (NewT Gd Gr) t t2 t3) σ H (uB true) .sh := fun Q k => by
  have t0 := ok.z.2.tabs
  refine ⟨t0 _ hm, fun H1 c' f x1 T1 hc => ?_⟩
  have x : ExT T H H1 := fun a o n e => x1 a o (fun p hp => by
    rw [List.mem_singleton] at hp
    subst hp
    exact n _ hm) e
  have tt1 : Tabs T H1 := fun p hp => by
    rcases hd p hp with rfl | hne
    · exact T1
    · exact Ho.TabS.extT (t0 p hp) x1 (fun p' hp' => by
        rw [List.mem_singleton] at hp'
        subst hp'
        exact fun z => hne z.symm) (fun p' hp' => by
        rw [List.mem_singleton] at hp'
        subst hp'
        exact t0 _ hm)
  obtain ⟨M', hs, ok1⟩ := ok.tabs hF x tt1
  refine h2 M' H1 ok1 H1 (Ex.refl _) _ fun v2 H2 e2 r2 => h3 M' H2 (ok1.ex e2) H2 (Ex.refl _) _ fun v3 H3 e3 r3 => ⟨(e2.trans e3) _ _ hc, ?_⟩
  have ok3 := (ok1.ex e2).ex e3
  refine ⟨Mo, d, dd, Mo_al _, mon_R _ _ _ _ _ e3 r2, r3, hgd, hgr, fun H4 e4 v r Q' k' => ?_, fun v bs H' e nd n w => ?_⟩
  · exact ht H4 v ((ok3.ex e4).push r) H4 (Ex.refl _) _ fun v bs H5 e5 nd n w => k' v bs H5 e5 nd n w
  · unfold Ow at w
    obtain ⟨_, rfl, rfl⟩ := w
    refine k _ [] H' (x.trans (ExT.of ((e2.trans e3).trans e))) (tt1.ext ((e2.trans e3).trans e)) List.nodup_nil (fun b hb => nomatch hb) ?_
    unfold Ow
    exact ⟨rfl, rfl, rfl⟩
/-- in the callee: the lambda, called -/
theorem p_act (h0 : σ[i]? = some (some (.ref f))) (hc : H c' = some (CodeO c' q)) (h : EvR Mo te σ H d) (ht : ∀ H1, Ex H H1 → ∀ v, Rp Mo H1 d v → ∀ Q', RetP Mo H1 dd (.ow .sh) Q' → tl v H1 Q') :
    EvP Mo (fun σZ HZ Q => σZ[i]? = some (some (.ref f)) ∧ te σZ HZ fun v H' => H' c' = some (CodeO c' q) ∧ tl v H' Q) σ H dd (.ow .sh) := fun H1 e Q k =>
  ⟨h0, h H1 e _ fun v H2 e2 r => ⟨(e.trans e2) _ _ hc, ht H2 (e.trans e2) v r Q fun v bs H3 e3 nd n w => k v bs H3 (e2.trans e3) nd (fun b hb => fresh_back e2 (n b hb)) w⟩⟩
theorem Ok.at0 (ok : Ok F Z ρ σ H M) (h : ρ[i]? = some (st (.sc v))) : σ[i]? = some (some v) := by
  obtain ⟨u, bs, h1, h2⟩ := ok.get h
  unfold Ow at h2
  rw [h2.2.1] at h1
  exact h1
/-- if not f(..) or ..: (never) -/
theorem c_skipXor (ok : Ok F (ZT T Hb) ρ σ H M) (hF : ∀ q ∈ T, F q.1) (h : EvX T M te σ H (uB true) .sh) (h2 : ∀ M' H', Ok F (ZT T Hb) ρ σ H' M' → EvT tt σ H' false) (k : ∀ M' σ' H', Ok F (ZT T Hb) ρ σ' H' M' → D.nx σ' H') : tIfS (tOr (tNot (tB te)) tt) tu tNext D σ H :=
  h _ fun v bs H1 x t nd n w => by
    unfold Ow at w
    obtain ⟨_, rfl, _⟩ := w
    obtain ⟨M', _, ok'⟩ := ok.tabs hF x t
    refine ⟨true, rfl, ?_⟩
    refine h2 _ _ ok' H1 (Ex.refl _) _ fun H2 e2 => ?_
    exact k _ _ _ (ok'.ex e2)
theorem b_skipXor (ok : Ok F (ZT T Hb) ρ σ H M) (hF : ∀ q ∈ T, F q.1) (h : EvX T M te σ H (uB true) .sh) (h2 : ∀ M' H', Ok F (ZT T Hb) ρ σ H' M' → EvT tt σ H' false) (k : ∀ M' σ' H', Ok F (ZT T Hb) ρ σ' H' M' → tz D σ' H') : tSeq (tIfS (tOr (tNot (tB te)) tt) tu tNext) tz D σ H := c_skipXor (D := { D with nx := tz D }) ok hF h h2 k
end
end Ho

/-! defs with defaults -/
namespace Ho
open PySem PySem.Spec PyProof.Rows L2 Evl
structure DefAtD (K : PySem.W.Frag) (mg : Str → Option Value) (x qual : Str) (st : Stmt) (ps : List Str) (dvs : List V) : Prop where
  ex : ∃ f fd ds, mg x = some (.ref f) ∧ FunD K x qual (defArgs st) (defBody st) (defScope st) dvs [] f fd ∧ Binds K fd ps [] ∧ Vals dvs ds ∧ Binds K fd ps ds
structure OkFD (P : Program) (w : World) (K : PySem.W.Frag) (mg : Str → Option Value) (base : Heap) (CX : CXT) (x : Str) (k : Nat) (sp : Sp) (dvs : List V) : Prop where
  ex : ∃ f fd ps ds, mg x = some (.ref f) ∧ PySem.W.keepIn K (.ref f) = true ∧ Binds K fd ps [] ∧ Vals dvs ds ∧ Binds K fd ps ds ∧ FnOk P w K mg base CX k f fd ps sp
def tDfl (dvs : List V) (t : TA) : TA := fun σ H Q => t σ H fun vs H1 => Q (vs ++ dvs) H1
section
variable {P : Program} {w : World} {K : PySem.W.Frag} {mg : Str → Option Value} {base : Heap}
theorem OkFD.full {CX : CXT} {x : Str} {k : Nat} {sp : Sp} {dvs : List V} (O : OkFD P w K mg base CX x k sp dvs) : OkF P w K mg base CX x k sp := by
  obtain ⟨f, fd, ps, ds, hm, hk, h1, h2, h3, h4⟩ := O.ex
  exact ⟨f, fd, ps, hm, hk, h1, h4⟩
theorem OkFD.of {x qual : Str} {st : Stmt} {ps N : List Str} {k : Nat} {sp : Sp} {dvs : List V} (D : DefAtD K mg x qual st ps dvs) (Sc : FnScope N ps (defScope st)) (len : ∀ vs H Q E, sp vs H Q E → vs.length = ps.length)
    (hbody : ∀ (f : Addr) (cdv : Value) (A : Around) (outer : List Env) (s : Shared) (H : Hp) (vs : List V) (Q : VK) (E : XK), Room k (A.deeper (envOfC qual (defScope st) s.heap.objs.size f cdv)) → sp vs H Q E →
      ∃ t, PSs (cxOf CX0 P w K mg base N qual (defScope st) f cdv A outer s H E).nox (defBody st) t ∧ t { nx := fun _ H' => Q .non H', rt := Q } (start N vs) H) : OkFD P w K mg base CX0 x (k + 1) sp dvs := by
  obtain ⟨f, fd, ds, hm, F, h1, h2, h3⟩ := D.ex
  refine ⟨f, fd, ps, ds, hm, F.kp, h1, h2, h3, F.ok Sc len fun cdv A outer s H vs Q E hr hsp => ?_⟩
  obtain ⟨t, h, q⟩ := hbody f cdv A outer s H vs Q E hr hsp
  exact ⟨t, h.nox, q⟩
theorem defAtD_mk {h : Heap} {x : Str} {st : Stmt} {f dT : Addr} {oc oc2 kV dc pm cd ct : Value} {od od2 an : Option Addr} {sl sl2 : Array (Option Value)} {ps : List Str} {dvs : List V} {its : Array Value} {m : Nat} (X : K.In h) (G : h.Ns mainGlobals mg)
    (a : PySem.W.nsIn K mainGlobals x = some (some (.ref f))) (l : K.lookup f = some ⟨oc, od, .func (PySem.W.fnOf x x (defArgs st) (defBody st) (defScope st) (.ref dT) kV dc pm an cd ct), sl⟩) (c : PySem.W.codeIn K cd x = true) (k : PySem.W.keepIn K (.ref f) = true)
    (dl : K.lookup dT = some ⟨oc2, od2, .seq its m, sl2⟩) (hv : Vals dvs its.toList) (hd : dvs ≠ []) (hn : dvs.length ≤ ps.length)
    (b1 : ∀ (T : Addr) (kV doc pm : Value) (an : Option Addr) (cdv ct : Value) (us its : List Value), us.length = ps.length → its.length = dvs.length →
      ∃ k, bindArgs (PySem.W.fnOf x x (defArgs st) (defBody st) (defScope st) (.ref T) kV doc pm an cdv ct) ⟨us, []⟩ = seqItems? (.ref T) >>= k ∧ k (some its.toArray) = pure (ps.zip us))
    (b2 : ∀ (T : Addr) (kV doc pm : Value) (an : Option Addr) (cdv ct : Value) (us its : List Value), us.length = ps.length - dvs.length → its.length = dvs.length →
      ∃ k, bindArgs (PySem.W.fnOf x x (defArgs st) (defBody st) (defScope st) (.ref T) kV doc pm an cdv ct) ⟨us, []⟩ = seqItems? (.ref T) >>= k ∧ k (some its.toArray) = pure (ps.zip (us ++ its))) : DefAtD K mg x x st ps dvs := by
  have F : FunD K x x (defArgs st) (defBody st) (defScope st) dvs [] f (PySem.W.fnOf x x (defArgs st) (defBody st) (defScope st) (.ref dT) kV dc pm an cd ct) :=
    ⟨⟨oc, od, .ref dT, kV, dc, pm, an, cd, ct, sl, rfl, l, c, .inr ⟨hd, dT, _, its.toList, m, rfl, dl, by rw [Array.toArray_toList], hv⟩, .inl rfl⟩, k⟩
  obtain ⟨ds1, v1, B1⟩ := F.binds1 (ps := ps) ps.length dvs.length hd (by omega) fun T kV doc pm an cdv ct us its h1 h2 => by
    obtain ⟨k, e1, e2⟩ := b1 T kV doc pm an cdv ct us its h1 h2
    exact ⟨k, e1, by rw [e2, ← h2, List.drop_length, List.append_nil]⟩
  obtain ⟨ds2, v2, B2⟩ := F.binds1 (ps := ps) (ps.length - dvs.length) 0 hd (by omega) fun T kV doc pm an cdv ct us its h1 h2 => by
    obtain ⟨k, e1, e2⟩ := b2 T kV doc pm an cdv ct us its h1 h2
    exact ⟨k, e1, by rw [e2, List.drop_zero]⟩
  rw [List.drop_length] at v1
  rw [List.drop_zero] at v2
  cases v1
  exact ⟨f, _, ds2, PySem.W.mg_of X G a, F, B1, v2, B2⟩
end
section
variable {X : Cx} {CX : CXT} {k j : Nat} {sp : Sp} {E : XK} {x : Str} {p pos : Pos} {e : Expr} {es : List Expr} {t : TA} {dvs : List V}
theorem pe_callD (O : OkFD X.prog X.w X.K X.mg X.base CX x k sp dvs) (hr : Room j X.A) (hg : Gl X x) (hx : Passes CX X E) (ha : PA X (e :: es) t) (hk : k ≤ j := by decide)
    (hdb : (x == ("__debug__" : Str)) = false := by decide) (he : starEach (e :: es) X.env = (false, eval e X.env) :: starEach es X.env := by rfl) (hpl : (backTo pos (starEach es X.env)).any (·.1) = false := by rfl) :
    PE X (.Call (.Name x p) (e :: es) [] pos) (tCallO sp E (tDfl dvs t)) := by
  obtain ⟨f, fd, ps, ds, hm, hkp, h1, h2, h3, F⟩ := O.ex
  exact pe_call F (hr.mono hk) hg hm hkp h3 h2 hx ha hdb he hpl
end
theorem allP_add {H : Hp} {Qs : List (V → Hp → Prop)} {ws : List V} (h : AllP Qs ws H) : ∀ {Ps : List (V → Hp → Prop)} {vs : List V}, AllP Ps vs H → AllP (Ps ++ Qs) (vs ++ ws) H
  | [], vs, e => by
    have e : vs = [] := e
    subst e
    exact h
  | P :: Ps, vs, ⟨v, r, e, h1, h2⟩ => by
    subst e
    exact ⟨v, r ++ ws, rfl, h1, allP_add h h2⟩
theorem ag_dfl {M : Addr → Prop} {t : TA} {σ : L2.St} {H : Hp} {Ps : List (V → Hp → Prop)} {v : V} (h : EvAG t σ H Ps) : EvAG (tDfl [v] t) σ H (Ps ++ [isR M (.sc v)]) := fun H1 e Q q =>
  h H1 e _ fun vs H2 e2 hp => q _ H2 e2 (allP_add (Qs := [isR M (.sc v)]) (ws := [v]) (show ∃ u r, [v] = u :: r ∧ isR M (.sc v) u H2 ∧ AllP [] r H2 from ⟨v, [], rfl, by unfold isR Rp; rfl, rfl⟩) hp)
end Ho
namespace Ho
open PySem PySem.Spec PyProof.Rows L2 Evl
/-! ### rows, tapes, readers: what the defs compute -/
def isRow (r : Row) (w : Int) : Bool := decide ((r.length : Int) = w) && r.all fun c => decide ([c] ∈ [[111], [46]])
def isLet (l : Row) : Bool := decide ((l.length : Int) = 1) && decide (l.headD 0 ∈ [97, 98, 99, 100, 101, 102, 103, 104, 105, 106, 107, 108, 109, 110, 111, 112, 113, 114, 115, 116, 117, 118, 119, 120, 121, 122])
def goes (r o : Row) : Bool := !(r.zip o).any fun p => decide ([p.1] = [111]) && decide ([p.2] = [46])
def mean (rd : Dic) (r : Row) : Row := (look rd r).getD []
def textOf (rd : Dic) (t : List Row) : Row := (t.map (mean rd)).flatten
def overB (t o : List Row) : Bool := decide ((t.length : Int) = (o.length : Int)) && (t.zip o).all fun p => goes p.1 p.2
def holesOf (t : List Row) : Int := (t.map fun r => ((r.count 111 : Nat) : Int)).sum
/-- a reader of a width -/
structure RdOk (rd : Dic) (w : Nat) : Prop where
  ne : rd ≠ []
  w1 : 1 ≤ w
  w4 : w ≤ 4
  nd : (rd.map (·.1)).Nodup
  row : ∀ p ∈ rd, isRow p.1 (w : Int) = true
  bl : ∀ p ∈ rd, 46 ∈ p.1
  lt : ∀ p ∈ rd, isLet p.2 = true
structure TpOk (t : List Row) (w : Nat) : Prop where
  len : t.length ≤ 30
  row : ∀ r ∈ t, isRow r (w : Int) = true
theorem isRow_len {r : Row} {w : Nat} (h : isRow r (w : Int) = true) : r.length = w := by
  unfold isRow at h
  simp only [Bool.and_eq_true, decide_eq_true_eq] at h
  omega
theorem isRow_mem {r : Row} {w : Int} (h : isRow r w = true) : ∀ c ∈ r, c = 111 ∨ c = 46 := by
  unfold isRow at h
  simp only [Bool.and_eq_true, List.all_eq_true, decide_eq_true_eq] at h
  intro c hc
  have := h.2 c hc
  simpa using this
theorem isRow_iff {r : Row} {w : Nat} : isRow r (w : Int) = true ↔ r.length = w ∧ ∀ c ∈ r, c = 111 ∨ c = 46 := by
  constructor
  · intro h
    exact ⟨isRow_len h, isRow_mem h⟩
  · rintro ⟨h1, h2⟩
    unfold isRow
    simp only [Bool.and_eq_true, List.all_eq_true, decide_eq_true_eq]
    refine ⟨by omega, fun c hc => ?_⟩
    rcases h2 c hc with e | e <;> simp [e]
theorem isLet_one {l : Row} (h : isLet l = true) : ∃ c, l = [c] ∧ 97 ≤ c ∧ c ≤ 122 := by
  unfold isLet at h
  simp only [Bool.and_eq_true, decide_eq_true_eq] at h
  match l, h with
  | [c], h => exact ⟨c, rfl, by have := h.2; simp at this; omega, by have := h.2; simp at this; omega⟩
  | [], h => simp at h
  | _ :: _ :: r, h => have := h.1; simp at this; omega
theorem isLet_of {c : Nat} (h1 : 97 ≤ c) (h2 : c ≤ 122) : isLet [c] = true := by
  unfold isLet
  simp
  omega
theorem mean_len {rd : Dic} {w : Nat} (ok : RdOk rd w) (r : Row) : (mean rd r).length ≤ 1 := by
  unfold mean
  cases h : look rd r with
  | none => simp
  | some v =>
    obtain ⟨c, e, _⟩ := isLet_one (ok.lt _ (look_mem h))
    have e : v = [c] := e
    subst e
    simp
theorem mean_cases {rd : Dic} {w : Nat} (ok : RdOk rd w) (r : Row) : mean rd r = [] ∨ ∃ c, mean rd r = [c] ∧ 97 ≤ c ∧ c ≤ 122 := by
  unfold mean
  cases h : look rd r with
  | none => exact .inl rfl
  | some v =>
    obtain ⟨c, e, h1, h2⟩ := isLet_one (ok.lt _ (look_mem h))
    exact .inr ⟨c, e, h1, h2⟩
theorem textOf_len {rd : Dic} {w : Nat} (ok : RdOk rd w) : ∀ t : List Row, (t.map (mean rd)).flatten.length ≤ t.length
  | [] => Nat.le_refl _
  | r :: t => by
    rw [List.map_cons, List.flatten_cons, List.length_append, List.length_cons]
    have := mean_len ok r
    have := textOf_len ok t
    omega
theorem rd_len {rd : Dic} {w : Nat} (ok : RdOk rd w) {p : Row × Row} (h : p ∈ rd) : p.1.length = w := isRow_len (ok.row p h)
theorem mapR {α : Type} {f : Nat → α} {j : Nat} : (List.range (j + 1)).map f = (List.range j).map f ++ [f j] := by rw [List.range_succ, List.map_append]; rfl
theorem zip_at {α β : Type} {l : List α} {m : List β} {i : Nat} {x : α} {y : β} (h : (l.zip m)[i]? = some (x, y)) : l[i]? = some x ∧ m[i]? = some y := by
  rw [List.getElem?_zip_eq_some] at h
  exact h
theorem zipIdx_at {α : Type} {l : List α} {i : Nat} {x : α} {n : Nat} (h : l.zipIdx[i]? = some (x, n)) : n = i ∧ l[i]? = some x := by
  rw [List.getElem?_zipIdx] at h
  cases e : l[i]? with
  | none => rw [e] at h; cases h
  | some y =>
    rw [e] at h
    simp at h
    exact ⟨h.2.symm, by rw [h.1]⟩
/-! ### what the law draws -/
def primes : List Int := [1000003, 1000033, 1000037, 1000039, 1000081, 1000099, 1000117, 1000121, 1000133, 1000151, 1000159, 1000171, 1000183, 1000187, 1000193, 1000199]
def draw (c k m : Int) : Int := (c * 48271 + k * 69621) % primes.getD (k % 16).toNat 0 % m
theorem primes_pos : ∀ i : Nat, i < 16 → 0 < primes.getD i 0 := by decide
theorem draw_range {c k m : Int} (h : 0 < m) : 0 ≤ draw c k m ∧ draw c k m < m := ⟨Int.emod_nonneg _ (by omega), Int.emod_lt_of_pos _ h⟩
def cellAt (ns : List Int) (k : Int) : Int := if decide (k < (ns.length : Int)) then ((ns.getD k.toNat 0).natAbs : Int) else draw ((ns.sum.natAbs : Int) + 7919 * k) k 999983
theorem cellAt_nn (ns : List Int) (k : Int) : 0 ≤ cellAt ns k := by
  unfold cellAt
  split
  · omega
  · exact (draw_range (by decide)).1
def leftAt (l b : Int) : Nat → Int
  | 0 => l
  | n + 1 => leftAt l b n / b
def digit (cell base : Int) (t : Nat) : Int :=
  if 1000000000000000000 ≤ cell then leftAt (cell - 1000000000000000000) base t % base
  else (draw ((cell + 977 * (t : Int)) * (cell + 31 * (t : Int) + 5)) ((t : Int) % 9 + 1) 999983 * 1000003 + draw ((cell + 31 * (t : Int)) * (cell + 7) + 977 * (t : Int)) ((t : Int) % 7 + 2) 1000003) % base
def digits (ns : List Int) (k many base : Int) : List Int := (List.range many.toNat).map (digit (cellAt ns k) base)
theorem digit_range {c b : Int} (hb : 0 < b) (t : Nat) : 0 ≤ digit c b t ∧ digit c b t < b := by
  unfold digit
  split
  · exact ⟨Int.emod_nonneg _ (by omega), Int.emod_lt_of_pos _ hb⟩
  · exact ⟨Int.emod_nonneg _ (by omega), Int.emod_lt_of_pos _ hb⟩
theorem digits_mem {ns : List Int} {k m b : Int} (hb : 0 < b) : ∀ d ∈ digits ns k m b, 0 ≤ d ∧ d < b := by
  intro d hd
  obtain ⟨t, _, rfl⟩ := List.mem_map.mp hd
  exact digit_range hb t
theorem digits_len (ns : List Int) (k m b : Int) : (digits ns k m b).length = m.toNat := by simp [digits]
theorem digits_at {ns : List Int} {k m b : Int} (hb : 0 < b) (i : Nat) : 0 ≤ (digits ns k m b).getD i 0 ∧ ((digits ns k m b).getD i 0 < b) := by
  by_cases h : i < (digits ns k m b).length
  · rw [List.getD_eq_getElem?_getD, List.getElem?_eq_getElem h]
    exact digits_mem hb _ (List.getElem_mem h)
  · rw [List.getD_eq_getElem?_getD, List.getElem?_eq_none (by omega)]
    exact ⟨Int.le_refl _, hb⟩
/-! ### rows of a width -/
def bitC (n : Nat) (w : Int) (t : Nat) : Row := if decide (Builtin.bitAnd ((n : Int) / 2 ^ (w - 1 - (t : Int)).toNat) 1 = 1) then [111] else [46]
def rowN (w : Int) (n : Nat) : Row := ((List.range w.toNat).map (bitC n w)).flatten
def rowsL (w : Int) : List Row := (List.range (1 * 2 ^ w.toNat : Int).toNat).map (rowN w)
theorem bitC_len (n : Nat) (w : Int) (t : Nat) : (bitC n w t).length = 1 := by unfold bitC; split <;> rfl
theorem sum_ones {α : Type} (l : List α) : (l.map fun _ => 1).sum = l.length := by
  induction l with
  | nil => rfl
  | cons a l ih => rw [List.map_cons, List.sum_cons, ih, List.length_cons]; omega
theorem rowN_len (w : Int) (n : Nat) : (rowN w n).length = w.toNat := by
  unfold rowN
  rw [List.length_flatten, List.map_map]
  have : (List.length ∘ bitC n w) = fun _ => 1 := funext (bitC_len n w)
  rw [this, sum_ones, List.length_range]
theorem rowN_row (w : Nat) (n : Nat) : isRow (rowN w n) (w : Int) = true := by
  rw [isRow_iff]
  refine ⟨by rw [rowN_len]; rfl, fun c hc => ?_⟩
  obtain ⟨l, hl, hc⟩ := List.mem_flatten.mp hc
  obtain ⟨t, _, rfl⟩ := List.mem_map.mp hl
  unfold bitC at hc
  split at hc <;> simp at hc <;> simp [hc]
theorem rowsL_len (w : Int) : (rowsL w).length = 2 ^ w.toNat := by
  unfold rowsL
  rw [List.length_map, List.length_range, Int.one_mul]
  show ((2 : Int) ^ w.toNat).toNat = 2 ^ w.toNat
  have : ((2 : Int) ^ w.toNat) = ((2 ^ w.toNat : Nat) : Int) := by norm_cast
  rw [this, Int.toNat_natCast]
theorem rowsL_row (w : Nat) : ∀ r ∈ rowsL (w : Int), isRow r (w : Int) = true := by
  intro r hr
  obtain ⟨n, _, rfl⟩ := List.mem_map.mp hr
  exact rowN_row w n
theorem rowsL_nodup : ∀ w : Nat, w ≤ 4 → (rowsL (w : Int)).Nodup := by
  intro w hw
  match w, hw with
  | 0, _ => decide +kernel
  | 1, _ => decide +kernel
  | 2, _ => decide +kernel
  | 3, _ => decide +kernel
  | 4, _ => decide +kernel
/-- all but the row of holes alone have a sign without -/
theorem rowsL_blank : ∀ w : Nat, w ≤ 4 → ∀ r ∈ (rowsL (w : Int)).dropLast, 46 ∈ r := by
  intro w hw
  match w, hw with
  | 0, _ => decide +kernel
  | 1, _ => decide +kernel
  | 2, _ => decide +kernel
  | 3, _ => decide +kernel
  | 4, _ => decide +kernel
def letters : Row := [97, 98, 99, 100, 101, 102, 103, 104, 105, 106, 107, 108, 109, 110, 111, 112, 113, 114, 115, 116, 117, 118, 119, 120, 121, 122]
def pool (ns : List Int) (m : Int) : List Row := (digits ns m 3 26).map fun d => [letters.getD d.toNat 0]
theorem letters_at : ∀ i : Nat, i < 26 → isLet [letters.getD i 0] = true := by decide +kernel
theorem pool_len (ns : List Int) (m : Int) : (pool ns m).length = 3 := by
  unfold pool
  rw [List.length_map, digits_len]
  rfl
theorem pool_let (ns : List Int) (m : Int) (i : Nat) (hi : i < 3) : isLet ((pool ns m).getD i []) = true := by
  have hl : i < (digits ns m 3 26).length := by rw [digits_len]; exact hi
  unfold pool
  rw [List.getD_eq_getElem?_getD, List.getElem?_map, List.getElem?_eq_getElem hl]
  have := digits_mem (ns := ns) (k := m) (m := 3) (b := 26) (by decide) _ (List.getElem_mem hl)
  exact letters_at _ (by omega)
/-! ### a reader by a cell -/
def rdW (ds : List Int) (least : Int) : Int := least + ds.getD (0 : Int).toNat 0 % (5 - least)
def rdRows (ds : List Int) (least : Int) : List Row := cutG (rowsL (rdW ds least)) none (some (-1))
def rdBegin (ds : List Int) (least : Int) : Int := ds.getD (0 : Int).toNat 0 / 4 % ((rdRows ds least).length : Int)
def rdStep (ds : List Int) (pl : List Row) (acc : Dic) (p : Int × Row) : Dic :=
  if decide (p.1 % 5 < 2 + ds.getD (0 : Int).toNat 0 / 64 % 3) then put acc p.2 (pl.getD (p.1 / 5 % 3).toNat []) else acc
theorem rdStep_T {ds : List Int} {pl : List Row} {acc : Dic} {p : Int × Row} (h : decide (p.1 % 5 < 2 + ds.getD (0 : Int).toNat 0 / 64 % 3) = true) : rdStep ds pl acc p = put acc p.2 (pl.getD (p.1 / 5 % 3).toNat []) := by
  unfold rdStep
  rw [if_pos h]
theorem rdStep_F {ds : List Int} {pl : List Row} {acc : Dic} {p : Int × Row} (h : decide (p.1 % 5 < 2 + ds.getD (0 : Int).toNat 0 / 64 % 3) = false) : rdStep ds pl acc p = acc := by
  unfold rdStep
  rw [if_neg (by rw [h]; decide)]
def rdZip (ds : List Int) (least : Int) : List (Int × Row) := (cutG ds (some 1) none).zip (cutG (rdRows ds least) (some (rdBegin ds least)) none ++ cutG (rdRows ds least) none (some (rdBegin ds least)))
def rdLoop (ds : List Int) (pl : List Row) (least : Int) : Dic := (rdZip ds least).foldl (rdStep ds pl) []
def rdr (ds : List Int) (pl : List Row) (least : Int) : Dic :=
  if dEq (rdLoop ds pl least) [] then put (rdLoop ds pl least) ((rdRows ds least).getD (rdBegin ds least).toNat []) (pl.getD (0 : Int).toNat []) else rdLoop ds pl least
def reader (ns : List Int) (m : Int) (pl : List Row) (least : Int) : Dic := rdr (digits ns m 17 1000) pl least
theorem dEq_nil (r : Dic) : dEq r [] = true ↔ r = [] := by
  unfold dEq
  cases r with
  | nil => simp
  | cons p r => simp [look_nil]
theorem rdW_range {ds : List Int} {least : Int} (h1 : 1 ≤ least) (h4 : least ≤ 4) : least ≤ rdW ds least ∧ rdW ds least ≤ 4 := by
  unfold rdW
  have := Int.emod_nonneg (ds.getD (0 : Int).toNat 0) (show 5 - least ≠ 0 by omega)
  have := Int.emod_lt_of_pos (ds.getD (0 : Int).toNat 0) (show 0 < 5 - least by omega)
  omega
theorem rdRows_len {ds : List Int} {least : Int} (h1 : 1 ≤ least) (h4 : least ≤ 4) : 1 ≤ (rdRows ds least).length ∧ (rdRows ds least).length ≤ 15 := by
  unfold rdRows
  rw [cutG_butlast, List.length_dropLast, rowsL_len]
  have := rdW_range (ds := ds) h1 h4
  have h : rdW ds least = 1 ∨ rdW ds least = 2 ∨ rdW ds least = 3 ∨ rdW ds least = 4 := by omega
  rcases h with h | h | h | h <;> rw [h] <;> decide
theorem rdBegin_range {ds : List Int} {least : Int} (h1 : 1 ≤ least) (h4 : least ≤ 4) : 0 ≤ rdBegin ds least ∧ rdBegin ds least < ((rdRows ds least).length : Int) := by
  have := rdRows_len (ds := ds) h1 h4
  exact ⟨Int.emod_nonneg _ (by omega), Int.emod_lt_of_pos _ (by omega)⟩
theorem rdRows_ok {ds : List Int} {least : Int} {w : Nat} (hw : rdW ds least = (w : Int)) (h4 : w ≤ 4) : ∀ r ∈ rdRows ds least, isRow r (w : Int) = true ∧ 46 ∈ r := by
  intro r hr
  unfold rdRows at hr
  rw [cutG_butlast, hw] at hr
  exact ⟨rowsL_row w r ((List.dropLast_sublist _).subset hr), rowsL_blank w h4 r hr⟩
theorem fold_keeps {ds : List Int} {pl : List Row} {w : Nat} (hpl : ∀ i, i < 3 → isLet (pl.getD i []) = true) : ∀ (z : List (Int × Row)) (acc : Dic), (∀ p ∈ z, isRow p.2 (w : Int) = true ∧ 46 ∈ p.2) →
    ((acc.map (·.1)).Nodup ∧ ∀ p ∈ acc, isRow p.1 (w : Int) = true ∧ 46 ∈ p.1 ∧ isLet p.2 = true) →
    (((z.foldl (rdStep ds pl) acc).map (·.1)).Nodup ∧ ∀ p ∈ z.foldl (rdStep ds pl) acc, isRow p.1 (w : Int) = true ∧ 46 ∈ p.1 ∧ isLet p.2 = true)
  | [], acc, _, h => h
  | q :: z, acc, hz, h => by
    rw [List.foldl_cons]
    refine fold_keeps hpl z _ (fun p hp => hz p (List.mem_cons_of_mem _ hp)) ?_
    unfold rdStep
    split
    · refine ⟨put_nodup h.1 _ _, fun p hp => ?_⟩
      rcases put_mem hp with hp | rfl
      · exact h.2 p hp
      · have := hz q List.mem_cons_self
        refine ⟨this.1, this.2, hpl _ ?_⟩
        have := Int.emod_nonneg (q.1 / 5) (show (3 : Int) ≠ 0 by decide)
        have := Int.emod_lt_of_pos (q.1 / 5) (show (0 : Int) < 3 by decide)
        omega
    · exact h
theorem rdr_ok {ds : List Int} {pl : List Row} {least : Int} (h1 : 1 ≤ least) (h4 : least ≤ 4) (hpl : ∀ i, i < 3 → isLet (pl.getD i []) = true) : RdOk (rdr ds pl least) (rdW ds least).toNat := by
  have hw := rdW_range (ds := ds) h1 h4
  have hwn : rdW ds least = (((rdW ds least).toNat : Nat) : Int) := by omega
  have hb := rdBegin_range (ds := ds) h1 h4
  have hrows := rdRows_ok hwn (by omega)
  have hz : ∀ p ∈ rdZip ds least, isRow p.2 (((rdW ds least).toNat : Nat) : Int) = true ∧ 46 ∈ p.2 := by
    intro p hp
    have := (List.of_mem_zip hp).2
    rw [cutG_from _ hb.1, cutG_to _ hb.1] at this
    rcases List.mem_append.mp this with h | h
    · exact hrows _ (List.mem_of_mem_drop h)
    · exact hrows _ (List.mem_of_mem_take h)
  have hl := fold_keeps (ds := ds) hpl (rdZip ds least) [] hz ⟨List.nodup_nil, fun p hp => nomatch hp⟩
  have hl : ((rdLoop ds pl least).map (·.1)).Nodup ∧ _ := hl
  unfold rdr
  by_cases h : dEq (rdLoop ds pl least) [] = true
  · rw [if_pos h]
    have e := (dEq_nil _).mp h
    rw [e]
    have hr : (rdRows ds least).getD (rdBegin ds least).toNat [] ∈ rdRows ds least := by
      rw [List.getD_eq_getElem?_getD, List.getElem?_eq_getElem (by omega)]
      exact List.getElem_mem _
    have := hrows _ hr
    refine ⟨put_ne_nil _ _ _, by omega, by omega, put_nodup (r := []) List.nodup_nil _ _, fun p hp => ?_, fun p hp => ?_, fun p hp => ?_⟩
    · rcases put_mem hp with hp | rfl
      · cases hp
      · exact this.1
    · rcases put_mem hp with hp | rfl
      · cases hp
      · exact this.2
    · rcases put_mem hp with hp | rfl
      · cases hp
      · exact hpl 0 (by decide)
  · rw [if_neg h]
    exact ⟨fun e => h ((dEq_nil _).mpr e), by omega, by omega, hl.1, fun p hp => (hl.2 p hp).1, fun p hp => (hl.2 p hp).2.1, fun p hp => (hl.2 p hp).2.2⟩
/-! ### tapes by a cell -/
def tapeRow (w d : Int) : Row := (rowsL w).getD (Builtin.bitAnd (d % 16) (Builtin.bitOr (d / 16 % 16) (d / 256 % 2 * 15)) % ((rowsL w).length : Int)).toNat []
def tapeL (ns : List Int) (m w n : Int) : List Row := (digits ns m n 4096).map (tapeRow w)
theorem rowsL_pos (w : Int) : 0 < ((rowsL w).length : Int) := by
  rw [rowsL_len]
  have := Nat.pow_pos (n := w.toNat) (show 0 < 2 by decide)
  omega
theorem rowsL_le {w : Int} (h : w ≤ 4) : (rowsL w).length ≤ 16 := by
  rw [rowsL_len]
  exact Nat.pow_le_pow_right (show 1 ≤ 2 by decide) (show w.toNat ≤ 4 by omega)
theorem tapeRow_ok (w : Nat) (d : Int) : isRow (tapeRow w d) (w : Int) = true := by
  have hp := rowsL_pos w
  unfold tapeRow
  rw [List.getD_eq_getElem?_getD, List.getElem?_eq_getElem (by have := Int.emod_lt_of_pos (Builtin.bitAnd (d % 16) (Builtin.bitOr (d / 16 % 16) (d / 256 % 2 * 15))) hp; have := Int.emod_nonneg (Builtin.bitAnd (d % 16) (Builtin.bitOr (d / 16 % 16) (d / 256 % 2 * 15))) (show ((rowsL (w : Int)).length : Int) ≠ 0 by omega); omega)]
  exact rowsL_row w _ (List.getElem_mem _)
theorem tapeL_len (ns : List Int) (m w n : Int) : (tapeL ns m w n).length = n.toNat := by
  unfold tapeL
  rw [List.length_map, digits_len]
theorem tapeL_ok (ns : List Int) (m : Int) (w : Nat) {n : Int} (h : n ≤ 30) : TpOk (tapeL ns m w n) w := by
  refine ⟨by rw [tapeL_len]; omega, fun r hr => ?_⟩
  obtain ⟨d, _, rfl⟩ := List.mem_map.mp hr
  exact tapeRow_ok w d
/-! ### the law's own answers -/
theorem goes_alt {r o : Row} {w : Nat} (hr : isRow r (w : Int) = true) (ho : isRow o (w : Int) = true) :
    (decide ((r.length : Int) = (o.length : Int)) && (r.zip o).all fun p => decide ([p.1] = [46]) || decide ([p.2] = [111])) = goes r o := by
  rw [isRow_len hr, isRow_len ho, decide_eq_true rfl, Bool.true_and]
  have h1 := isRow_mem hr
  have h2 := isRow_mem ho
  unfold goes
  rw [List.not_any_eq_all_not, Bool.eq_iff_iff, List.all_eq_true, List.all_eq_true]
  refine forall_congr' fun p => forall_congr' fun hp => ?_
  have hm := List.of_mem_zip (a := p.1) (b := p.2) hp
  rcases h1 _ hm.1 with e | e <;> rcases h2 _ hm.2 with e' | e' <;> simp [e, e']
theorem dEq_self {rd : Dic} (h : (rd.map (·.1)).Nodup) : dEq rd rd = true := by
  unfold dEq
  rw [beq_self_eq_true, Bool.true_and, List.all_eq_true]
  intro p hp
  rw [look_nodup h p hp]
  simp
theorem TpOk.small {t : List Row} {w : Nat} (h : TpOk t w) : SmT t := fun r hr c hc => by
  rcases isRow_mem (h.row r hr) c hc with e | e <;> omega
/-! ### all rows, rows above, below -/
def genL : Nat → List Row
  | 0 => [[]]
  | n + 1 => (genL n).map (· ++ [46]) ++ (genL n).map (· ++ [111])
theorem rising_pw : ∀ {l : List Row}, l.Pairwise (fun a b => ¬ b < a) → rising l
  | [], _ => trivial
  | a :: r, h => ⟨(List.pairwise_cons.mp h).1, rising_pw (List.pairwise_cons.mp h).2⟩
theorem rows_perm : ∀ w : Nat, w ≤ 4 → (rowsL (w : Int)).Perm (genL w) := by
  intro w hw
  match w, hw with
  | 0, _ => decide +kernel
  | 1, _ => decide +kernel
  | 2, _ => decide +kernel
  | 3, _ => decide +kernel
  | 4, _ => decide +kernel
theorem rows_rising : ∀ w : Nat, w ≤ 4 → rising (rowsL (w : Int)) := by
  intro w hw
  refine rising_pw ?_
  match w, hw with
  | 0, _ => decide +kernel
  | 1, _ => decide +kernel
  | 2, _ => decide +kernel
  | 3, _ => decide +kernel
  | 4, _ => decide +kernel
theorem genL_len : ∀ n : Nat, n ≤ 4 → (genL n).length ≤ 16 := by decide +kernel
theorem genL_row : ∀ n : Nat, ∀ r ∈ genL n, r.length = n
  | 0, r, h => by simp [genL] at h; simp [h]
  | n + 1, r, h => by
    unfold genL at h
    rcases List.mem_append.mp h with h | h
    · obtain ⟨q, hq, rfl⟩ := List.mem_map.mp h
      simp [genL_row n q hq]
    · obtain ⟨q, hq, rfl⟩ := List.mem_map.mp h
      simp [genL_row n q hq]
def aboveL (r : Row) : List Row := (rowsL (r.length : Int)).filter (goes r)
def belowL (r : Row) : List Row := (rowsL (r.length : Int)).filter fun o => goes o r
theorem aboveL_row {r o : Row} (h : o ∈ aboveL r) : isRow o (r.length : Int) = true := rowsL_row _ _ (List.mem_filter.mp h).1
theorem belowL_row {r o : Row} (h : o ∈ belowL r) : isRow o (r.length : Int) = true := rowsL_row _ _ (List.mem_filter.mp h).1
theorem aboveL_len {r : Row} (h : r.length ≤ 4) : (aboveL r).length ≤ 16 := Nat.le_trans (List.length_filter_le _ _) (rowsL_le (by omega))
theorem belowL_len {r : Row} (h : r.length ≤ 4) : (belowL r).length ≤ 16 := Nat.le_trans (List.length_filter_le _ _) (rowsL_le (by omega))
def costOf (r o : Row) : Int := ((o.count 111 : Nat) : Int) - ((r.count 111 : Nat) : Int)
/-- a text -/
structure TxOk (x : Row) : Prop where
  len : x.length ≤ 30
  lt : ∀ c ∈ x, 97 ≤ c ∧ c ≤ 122
theorem TxOk.drop {x : Row} (h : TxOk x) (n : Nat) : TxOk (x.drop n) := ⟨by rw [List.length_drop]; have := h.len; omega, fun c hc => h.lt c (List.mem_of_mem_drop hc)⟩
theorem TxOk.take {x : Row} (h : TxOk x) (n : Nat) : TxOk (x.take n) := ⟨by rw [List.length_take]; have := h.len; omega, fun c hc => h.lt c (List.mem_of_mem_take hc)⟩
theorem TxOk.nil : TxOk [] := ⟨by decide, fun c hc => nomatch hc⟩
theorem letter_in {c : Nat} (h1 : 97 ≤ c) (h2 : c ≤ 122) : c ∈ ([97, 98, 99, 100, 101, 102, 103, 104, 105, 106, 107, 108, 109, 110, 111, 112, 113, 114, 115, 116, 117, 118, 119, 120, 121, 122] : Row) := by
  simp
  omega
theorem textOf_ok {rd : Dic} {w : Nat} (ok : RdOk rd w) {t : List Row} (h : t.length ≤ 30) : TxOk (textOf rd t) := by
  refine ⟨Nat.le_trans (textOf_len ok t) h, fun c hc => ?_⟩
  obtain ⟨l, hl, hc⟩ := List.mem_flatten.mp hc
  obtain ⟨r, _, rfl⟩ := List.mem_map.mp hl
  rcases mean_cases ok r with e | ⟨d, e, h1, h2⟩
  · rw [e] at hc
    cases hc
  · rw [e] at hc
    obtain rfl := List.mem_singleton.mp hc
    exact ⟨h1, h2⟩
def lawText (ds : List Int) (pl : List Row) : Row := (ds.map fun d => if decide (d / 26 < 23) then pl.getD (d / 26 % 3).toNat [] else [letters.getD (d % 26).toNat 0]).flatten
def lawTx (ns : List Int) (m : Int) (pl : List Row) (n : Int) : Row := lawText (digits ns m n 624) pl
theorem lawText_len {ds : List Int} {pl : List Row} (hpl : ∀ i, i < 3 → isLet (pl.getD i []) = true) : (lawText ds pl).length = ds.length := by
  unfold lawText
  rw [List.length_flatten, List.map_map]
  have : (ds.map (List.length ∘ fun d => if decide (d / 26 < 23) then pl.getD (d / 26 % 3).toNat [] else [letters.getD (d % 26).toNat 0])) = ds.map fun _ => 1 := List.map_congr_left fun d _ => by
    simp only [Function.comp]
    split
    · obtain ⟨c, e, _⟩ := isLet_one (hpl (d / 26 % 3).toNat (by omega))
      rw [e]
      rfl
    · rfl
  rw [this, sum_ones]
theorem lawText_ok {ds : List Int} {pl : List Row} (hpl : ∀ i, i < 3 → isLet (pl.getD i []) = true) (h : ds.length ≤ 30) : TxOk (lawText ds pl) := by
  refine ⟨by rw [lawText_len hpl]; exact h, fun c hc => ?_⟩
  obtain ⟨l, hl, hc⟩ := List.mem_flatten.mp hc
  obtain ⟨d, _, rfl⟩ := List.mem_map.mp hl
  split at hc
  · obtain ⟨c', e, h1, h2⟩ := isLet_one (hpl (d / 26 % 3).toNat (by omega))
    rw [e] at hc
    obtain rfl := List.mem_singleton.mp hc
    exact ⟨h1, h2⟩
  · obtain rfl := List.mem_singleton.mp hc
    obtain ⟨c', e, h1, h2⟩ := isLet_one (letters_at (d % 26).toNat (by omega))
    have e := List.cons.inj e
    rw [e.1]
    exact ⟨h1, h2⟩
theorem lawTx_len (ns : List Int) (m : Int) {pl : List Row} (hpl : ∀ i, i < 3 → isLet (pl.getD i []) = true) (n : Int) : (lawTx ns m pl n).length = n.toNat := by
  unfold lawTx
  rw [lawText_len hpl, digits_len]
theorem lawTx_ok (ns : List Int) (m : Int) {pl : List Row} (hpl : ∀ i, i < 3 → isLet (pl.getD i []) = true) {n : Int} (h : n ≤ 30) : TxOk (lawTx ns m pl n) := lawText_ok hpl (by rw [digits_len]; omega)
theorem scal_LS {xs : List Row} : Scal (uL uS xs) (.ow .sh) := scal_map fun _ => scal_sc
theorem scal_D {r : Dic} : Scal (uD r) (.ow .sh) := scal_map fun _ => scal_sc
/-! ### tapes turned, backwards, joined -/
theorem rev_inj {a b : Row} (h : a.reverse = b.reverse) : a = b := by rw [← List.reverse_reverse a, h, List.reverse_reverse]
def turnD (rd : Dic) : Dic := rd.map fun p => (p.1.reverse, p.2)
theorem isRow_rev {r : Row} {w : Int} : isRow r.reverse w = isRow r w := by
  unfold isRow
  rw [List.length_reverse, List.all_reverse]
theorem look_turn {rd : Dic} {r : Row} : look (turnD rd) r.reverse = look rd r := by
  unfold turnD
  induction rd with
  | nil => rfl
  | cons p rd ih =>
    rw [List.map_cons, look_cons, look_cons, ih]
    by_cases e : p.1 = r
    · rw [if_pos e, if_pos (by rw [e])]
    · rw [if_neg e, if_neg (fun z => e (rev_inj z))]
theorem mean_turn {rd : Dic} {r : Row} : mean (turnD rd) r.reverse = mean rd r := by
  unfold mean
  rw [look_turn]
theorem RdOk.turn {rd : Dic} {w : Nat} (h : RdOk rd w) : RdOk (turnD rd) w := by
  refine ⟨fun z => h.ne (List.map_eq_nil_iff.mp z), h.w1, h.w4, ?_, fun p hp => ?_, fun p hp => ?_, fun p hp => ?_⟩
  · unfold turnD
    rw [List.map_map]
    have : (fun p : Row × Row => p.1) ∘ (fun p : Row × Row => (p.1.reverse, p.2)) = List.reverse ∘ fun p : Row × Row => p.1 := rfl
    rw [this, ← List.map_map]
    exact List.Pairwise.map _ (fun a b (hab : a ≠ b) z => hab (rev_inj z)) h.nd
  all_goals
    obtain ⟨q, hq, rfl⟩ := List.mem_map.mp hp
  · rw [isRow_rev]
    exact h.row q hq
  · rw [List.mem_reverse]
    exact h.bl q hq
  · exact h.lt q hq
def turnT (t : List Row) : List Row := t.map List.reverse
theorem TpOk.turn {t : List Row} {w : Nat} (h : TpOk t w) : TpOk (turnT t) w := by
  refine ⟨by unfold turnT; rw [List.length_map]; exact h.len, fun r hr => ?_⟩
  obtain ⟨q, hq, rfl⟩ := List.mem_map.mp hr
  rw [isRow_rev]
  exact h.row q hq
theorem TpOk.rev {t : List Row} {w : Nat} (h : TpOk t w) : TpOk t.reverse w := ⟨by rw [List.length_reverse]; exact h.len, fun r hr => h.row r (List.mem_reverse.mp hr)⟩
theorem turn_put {rd : Dic} {w : Nat} (h : RdOk rd w) {n : Nat} {p : Row × Row} (hp : rd[n]? = some p) : putG (turnD (rd.take n)) p.1.reverse p.2 = turnD (rd.take (n + 1)) := by
  have hn : lookG (turnD (rd.take n)) p.1.reverse = none := by
    have e : look (turnD (rd.take n)) p.1.reverse = none := by
      rw [look_turn, look_none]
      intro q hq z
      have nd := h.nd
      rw [← List.take_append_drop n rd, List.map_append] at nd
      obtain ⟨hi, e2⟩ := List.getElem?_eq_some_iff.mp hp
      refine (List.nodup_append.mp nd).2.2 q.1 (List.mem_map_of_mem hq) p.1 (List.mem_map_of_mem ?_) z
      rw [List.drop_eq_getElem_cons hi, e2]
      exact List.mem_cons_self
    exact e
  rw [putG_new hn]
  unfold turnD
  rw [List.take_succ, hp, List.map_append]
  rfl
def catT (ts : List (List Row)) : List Row := ts.flatten
theorem mem_genL : ∀ (n : Nat) (q : Row), q.length = n → (∀ c ∈ q, c = 111 ∨ c = 46) → q ∈ genL n
  | 0, q, h, _ => by
    have : q = [] := List.length_eq_zero_iff.mp h
    rw [this]
    exact List.mem_singleton.mpr rfl
  | n + 1, q, h, hc => by
    have hn : q ≠ [] := by rintro rfl; cases h
    have e : q = q.dropLast ++ [q.getLast hn] := (List.dropLast_concat_getLast hn).symm
    have ih := mem_genL n q.dropLast (by rw [List.length_dropLast]; omega) fun c h => hc c ((List.dropLast_sublist _).subset h)
    unfold genL
    rcases hc _ (List.getLast_mem hn) with z | z
    · rw [z] at e
      rw [e]
      exact List.mem_append.mpr (.inr (List.mem_map.mpr ⟨_, ih, rfl⟩))
    · rw [z] at e
      rw [e]
      exact List.mem_append.mpr (.inl (List.mem_map.mpr ⟨_, ih, rfl⟩))
theorem mem_rowsL {q : Row} {w : Nat} (hw : w ≤ 4) (h : isRow q (w : Int) = true) : q ∈ rowsL (w : Int) :=
  (rows_perm w hw).symm.subset (mem_genL w q (isRow_len h) (isRow_mem h))
theorem textOf_app (rd : Dic) (a b : List Row) : textOf rd (a ++ b) = textOf rd a ++ textOf rd b := by
  unfold textOf
  rw [List.map_append, List.flatten_append]
theorem nodup_le {α : Type} [DecidableEq α] : ∀ (l m : List α), l.Nodup → (∀ x ∈ l, x ∈ m) → l.length ≤ m.length
  | [], m, _, _ => Nat.zero_le _
  | x :: l, m, nd, h => by
    obtain ⟨n1, n2⟩ := List.nodup_cons.mp nd
    have hx := h x List.mem_cons_self
    have := nodup_le l (m.erase x) n2 fun y hy => (List.mem_erase_of_ne (fun e : y = x => n1 (by rw [← e]; exact hy))).mpr (h y (List.mem_cons_of_mem _ hy))
    rw [List.length_erase_of_mem hx] at this
    have := List.length_pos_of_mem hx
    rw [List.length_cons]
    omega
theorem mean_rev {rd : Dic} {w : Nat} (ok : RdOk rd w) (r : Row) : (mean rd r).reverse = mean rd r := by
  rcases mean_cases ok r with e | ⟨c, e, _⟩
  · rw [e]; rfl
  · rw [e]; rfl
theorem textOf_rev {rd : Dic} {w : Nat} (ok : RdOk rd w) : ∀ t : List Row, textOf rd t.reverse = (textOf rd t).reverse
  | [] => rfl
  | r :: t => by
    rw [List.reverse_cons, textOf_app, textOf_rev ok t]
    show List.reverse (textOf rd t) ++ (mean rd r ++ []) = (mean rd r ++ textOf rd t).reverse
    rw [List.append_nil, List.reverse_append, mean_rev ok]
theorem RdOk.len16 {rd : Dic} {w : Nat} (h : RdOk rd w) : rd.length ≤ 16 := by
  have h1 := nodup_le (rd.map (·.1)) (rowsL (w : Int)) h.nd fun r hr => by
    obtain ⟨p, hp, rfl⟩ := List.mem_map.mp hr
    exact mem_rowsL h.w4 (h.row p hp)
  rw [List.length_map] at h1
  have h2 := rowsL_le (w := (w : Int)) (by have := h.w4; omega)
  omega
/-! loops over things that stand, while tables grow -/
section
open LamX
def ZG (T : List (Addr × Str)) (Hb H1 : Hp) (M1 : Addr → Prop) : Hp → (Addr → Prop) → Prop := fun H O => ZT T Hb H O ∧ ∀ a o, ¬ M1 a → H1 a = some o → H a = some o ∧ ¬ O a
variable {T : List (Addr × Str)} {F : Addr → Prop} {Z : Hp → (Addr → Prop) → Prop} {ρ : List Sl} {σ : L2.St} {H H' H1 H2 Hb : Hp} {M M1 : Addr → Prop} {d : Dt} {p : Pat} {te te2 : TE} {D : Ends} {tu tz : TS}
theorem ZG.mz : ∀ H O H' O', ZG T Hb H1 M1 H O → Lt H O H' O' → ZG T Hb H1 M1 H' O' := fun H O H' O' z l => ⟨ZT.mz _ _ _ _ z.1 l, fun a o n h => by
  obtain ⟨h1, h2⟩ := z.2 a o n h
  refine ⟨l.1 a o h2 h1, fun q => ?_⟩
  rcases l.2 a q with q | q
  · exact h2 q
  · rw [h1] at q; cases q⟩
theorem Ok.tabsG (ok : Ok F (ZG T Hb H1 M1) ρ σ H M) (hF : ∀ p ∈ T, F p.1) (hM : ∀ a, F a → M1 a) (x : ExT T H H') (t : Tabs T H') : ∃ M', (∀ a, M' a → M a) ∧ Ok F (ZG T Hb H1 M1) ρ σ H' M' := by
  obtain ⟨M', hs, hp, ok⟩ := ok.thin
  obtain ⟨as, nd, own, sl⟩ := ok.sl
  have t0 := ok.z.1.2.tabs
  have nt : ∀ a, Plain H a → ∀ p ∈ T, a ≠ p.1 := fun a ⟨o, e, n1, _⟩ p hp z => by
    obtain ⟨ps, h1, _⟩ := t0 p hp
    rw [z, h1] at e
    exact n1 ps (Option.some.inj e).symm
  refine ⟨M', hs, ⟨as, nd, own, sl.go (fun a o n h => ⟨x a o (fun p hp z => n (z ▸ ok.fr _ (hF p hp))) h, n⟩) fun a ha o h => x a o (nt a (sl.plain a ha)) h⟩, fun a ha => ?_, ok.fr, ⟨⟨?_, ?_⟩, fun a o n h => ?_⟩, ok.mz⟩
  · by_cases m : ∀ p ∈ T, a ≠ p.1
    · cases e : H a with
      | none => exact (ok.al a ha e).elim
      | some o => rw [x a o m e]; simp
    · intro e
      apply m
      rintro p hp rfl
      obtain ⟨ps, h1, _⟩ := t p hp
      rw [h1] at e; cases e
  · refine ⟨fun a o n m e => x a o m (ok.z.1.1.1 a o n m e), ok.z.1.1.2⟩
  · exact TabsO.of t fun a ha => (hp a ha).ext x t0
  · obtain ⟨k1, k2⟩ := ok.z.2 a o n h
    exact ⟨x a o (fun p hp z => n (z ▸ hM _ (hF p hp))) k1, k2⟩
theorem c_skipXG (ok : Ok F (ZG T Hb H1 M1) ρ σ H M) (hF : ∀ q ∈ T, F q.1) (hM : ∀ a, F a → M1 a) (h : EvX T M te σ H (uB true) .sh) (k : ∀ M' σ' H', Ok F (ZG T Hb H1 M1) ρ σ' H' M' → D.nx σ' H') : tIfS (tNot (tB te)) tu tNext D σ H :=
  h _ fun v bs H2 x t nd n w => by
    unfold Ow at w
    obtain ⟨_, rfl, _⟩ := w
    obtain ⟨M', _, ok'⟩ := ok.tabsG hF hM x t
    refine ⟨true, rfl, ?_⟩
    show (if (!true) = true then tu D σ H2 else tNext D σ H2)
    exact k _ _ _ ok'
/-- if not f(..) or not g(..): (never) -/
theorem c_skipXX (ok : Ok F (ZT T Hb) ρ σ H M) (hF : ∀ q ∈ T, F q.1) (h : EvX T M te σ H (uB true) .sh) (h2 : ∀ M' H', Ok F (ZT T Hb) ρ σ H' M' → EvX T M' te2 σ H' (uB true) .sh) (k : ∀ M' σ' H', Ok F (ZT T Hb) ρ σ' H' M' → D.nx σ' H') : tIfS (tOr (tNot (tB te)) (tNot (tB te2))) tu tNext D σ H :=
  h _ fun v bs H1 x t nd n w => by
    unfold Ow at w
    obtain ⟨_, rfl, _⟩ := w
    obtain ⟨M', _, ok'⟩ := ok.tabs hF x t
    refine ⟨true, rfl, ?_⟩
    refine h2 _ _ ok' _ fun v bs H2 x2 t2 nd n w => ?_
    unfold Ow at w
    obtain ⟨_, rfl, _⟩ := w
    obtain ⟨M', _, ok'⟩ := ok'.tabs hF x2 t2
    refine ⟨true, rfl, ?_⟩
    show (if (!true) = true then tu D σ H2 else tNext D σ H2)
    exact k _ _ _ ok'
theorem b_skipXX (ok : Ok F (ZT T Hb) ρ σ H M) (hF : ∀ q ∈ T, F q.1) (h : EvX T M te σ H (uB true) .sh) (h2 : ∀ M' H', Ok F (ZT T Hb) ρ σ H' M' → EvX T M' te2 σ H' (uB true) .sh) (k : ∀ M' σ' H', Ok F (ZT T Hb) ρ σ' H' M' → tz D σ' H') : tSeq (tIfS (tOr (tNot (tB te)) (tNot (tB te2))) tu tNext) tz D σ H := c_skipXX (D := { D with nx := tz D }) ok hF h h2 k
theorem c_forG {α : Type} {wi : TI} {g : TG} {js : List Nat} {l : List α} {u : α → List Sl → List Sl} (P : Nat → List Sl → Prop) (ok : Ok F (ZT T Hb) ρ σ H M) (src : EvJ GoM M wi g js σ H l u) (h0 : P 0 ρ)
    (turn : ∀ H1, ∀ i x ρ' M' σ' H', l[i]? = some x → P i ρ' → Ok F (ZG T Hb H1 M) (u x ρ') σ' H' M' → tu { D with nx := Nx F (ZG T Hb H1 M) (P (i + 1)), ct := Nx F (ZG T Hb H1 M) (P (i + 1)), bk := D.nx } σ' H')
    (done : ∀ ρ' M' σ' H', P l.length ρ' → Ok F (ZT T Hb) ρ' σ' H' M' → D.nx σ' H') : tFor wi g tu D σ H :=
  src H (Ex.refl H) _ fun J H1 Gd e1 gd0 stay S => by
    have ok0 := ok.ex e1
    have ok1 : Ok F (ZG T Hb H1 M) ρ σ H1 M := ⟨ok0.sl, ok0.al, ok0.fr, ⟨ok0.z, fun a o n h => ⟨h, fun q => n q.1⟩⟩, ZG.mz⟩
    have back : ∀ {ρ' σ' H' M'}, Ok F (ZG T Hb H1 M) ρ' σ' H' M' → Ok F (ZT T Hb) ρ' σ' H' M' := fun o => o.weak (fun _ _ z => z.1) ZT.mz
    refine ⟨fun i m σ' H' => m = l.length - i ∧ i ≤ l.length ∧ Nx F (ZG T Hb H1 M) (P i) σ' H', ⟨l.length, by simp, Nat.zero_le _, M, ρ, ok1, h0⟩, ?_⟩
    rintro i m σ' H' ⟨rfl, hi, M', ρ', ok', hp⟩
    have gd : Gd H' M' := stay _ _ _ _ (fun a o n h => by
      obtain ⟨k1, k2⟩ := ok'.z.2 a o n h
      exact ⟨k1, fun q => k2 ⟨q, fun hf => n (ok.fr a hf)⟩⟩) gd0
    by_cases hlt : i < l.length
    · refine .inr ⟨S.go i H' _ hlt gd, Nx F (ZG T Hb H1 M) (P (i + 1)), fun σ'' H'' c => ⟨l.length - (i + 1), by omega, rfl, hlt, c⟩, fun x H2 y => ?_⟩
      exact S.yld i H' _ x H2 σ' _ hlt gd y fun σ'' H'' e'' _ _ k => turn H1 i l[i] ρ' _ _ _ (by simp [hlt]) hp (k F _ _ ok')
    · have ei : i = l.length := by omega
      subst ei
      exact .inl ⟨S.stop H' _ gd, done _ _ _ _ hp (back ok')⟩
end
/-! the def that calls what it got: with what, and with what end -/
def GdP : Dt → Prop := fun d => ∃ (α : Type) (_ : DecidableEq α) (f : α → Dt) (sm : α → Prop) (n : Nat) (g : α → PyData) (xs : List α), d = uL f xs ∧ Eqd f sm n g ∧ (∀ x ∈ xs, sm x) ∧ n ≤ 60 ∧ xs.length ≤ 1000
def GrP : Dt → Prop := fun d => ∃ t : List Row, d = uL uS t ∧ SmT t ∧ t.length ≤ 1000
theorem gdP_S {t : List Row} (h : SmT t) (hl : t.length ≤ 1000) : GdP (uL uS t) := ⟨Row, inferInstance, uS, SmR, 0, dS, t, rfl, eqd_S, h, by decide, hl⟩
theorem gdP_LS {ts : List (List Row)} (h : ∀ t ∈ ts, SmT t) (hl : ts.length ≤ 1000) : GdP (uL (uL uS) ts) := ⟨List Row, inferInstance, uL uS, SmT, 1, _, ts, rfl, eqd_L eqd_S, h, by decide, hl⟩
theorem grP {t : List Row} (h : SmT t) (hl : t.length ≤ 1000) : GrP (uL uS t) := ⟨t, rfl, h, hl⟩
section
variable {K : PySem.W.Frag} {F : Addr → Prop} {Z : Hp → (Addr → Prop) → Prop} {ρ : List Sl} {σ : L2.St} {H : Hp} {M : Addr → Prop} {d d0 d1 d2 : Dt} {p p0 : Pat} {i j n : Nat} {to ta tb te : TE} {ds : List Dt} {W : Dt → Dt}
theorem ev_isiNT {n : String} {b : Bool} (ha : EvN M ta σ H .t ds) (hb : Ev tb σ H (.ty n)) (hk : kitB "tuple" n = some b) : Ev (tCB (rIsi K) (tCons ta (tCons tb tNil))) σ H (.bl b) :=
  ev_isi ha hb (fun v H1 _ hv => by obtain ⟨p, vs, rfl, h, _⟩ := hv; exact tyx_T (stof h)) (mon_N _ _ _) (.ty n) (kit_ty hk)
theorem p_listT {α : Type} {f : α → Dt} {xs : List α} (h : EvN M te σ H .t (xs.map f)) : EvP M (tCB (rListQ K) (tCons te tNil)) σ H (.node .l (xs.map f)) (.ow .sh) := fun H1 e Q q =>
  h H1 e _ fun v H2 e2 ⟨a, vs, hv, ho, hr⟩ => by
    subst hv
    exact ⟨a, vs, rfl, .inr (ST.q (stof ho)), fun p hp => q _ [p] _ (e2.trans (Ex.new hp)) (by simp) (by simpa using fresh_back e2 hp) (ow_mu.mpr ⟨p, _, rfl, upd_same, rfl, RpL.go (Go.add (Ex.new hp) (by simpa using hp)) hr⟩)⟩
theorem p_tup2O (h1 : EvP M ta σ H d1 p) (h2 : ∀ M', EvP M' tb σ H d2 p) : EvP M (tTup (tCons ta (tCons tb tNil))) σ H (.node .t [d1, d2]) (.ow p) := fun H0 e Q q =>
  h1 H0 e _ fun v1 bs1 H1 e1 nd1 n1 w1 => h2 (Mb M bs1) H1 (e.trans e1) _ fun v2 bs2 H2 e2 nd2 n2 w2 => ⟨sz_of (by simp), fun a ha => by
    have ha1 : H1 a = none := fresh_back e2 ha
    have m1 : ∀ x ∈ bs1, H2 x ≠ none := fun x hx z => w1.al x hx (fresh_back e2 z)
    have d12 : ∀ x ∈ bs1, x ∉ bs2 := fun x hx hx2 => w1.al x hx (n2 x hx2)
    refine q (.ref a) (a :: (bs1 ++ bs2)) _ ((e1.trans e2).trans (Ex.new ha)) ?_ (fun b hb => ?_) ?_
    · rw [List.nodup_cons]
      refine ⟨fun z => ?_, List.nodup_append.mpr ⟨nd1, nd2, fun x hx y hy z => d12 x hx (z ▸ hy)⟩⟩
      rcases List.mem_append.mp z with z | z
      · exact m1 a z ha
      · exact w2.al a z ha
    · rcases List.mem_cons.mp hb with rfl | hb
      · exact fresh_back e1 ha1
      · rcases List.mem_append.mp hb with hb | hb
        · exact n1 b hb
        · exact fresh_back e1 (n2 b hb)
    · unfold Ow
      refine ⟨a, [v1, v2], bs1 ++ bs2, rfl, upd_same, rfl, ?_⟩
      show OwF _ _ [d1, d2] [p, p] _ _
      unfold OwF
      refine ⟨p, [p], v1, [v2], bs1, bs2, rfl, rfl, rfl, w1.go (fun x o nx hx => ?_) (fun x hx o h => Ex.new ha _ _ (e2 _ _ h)), ?_⟩
      · have hx2 := e2 _ _ hx
        refine ⟨Ex.new ha _ _ hx2, fun z => ?_⟩
        rcases z with z | z
        · exact nx (.inl z)
        · rcases List.mem_cons.mp z with rfl | z
          · rw [ha] at hx2; cases hx2
          · rcases List.mem_append.mp z with z | z
            · exact nx (.inr z)
            · rw [n2 x z] at hx; cases hx
      · unfold OwF
        refine ⟨p, [], v2, [], bs2, [], rfl, rfl, by simp, w2.go (fun x o nx hx => ?_) (fun x hx o h => Ex.new ha _ _ h), by unfold OwF; exact ⟨rfl, rfl, rfl⟩⟩
        refine ⟨Ex.new ha _ _ hx, fun z => ?_⟩
        rcases z with z | z
        · exact nx (.inl (.inl z))
        · rcases List.mem_cons.mp z with rfl | z
          · rw [ha] at hx; cases hx
          · rcases List.mem_append.mp z with z | z
            · exact nx (.inl (.inr z))
            · exact nx (.inr z)⟩
theorem Rch.ixT (h : Rch to σ H M i d0 p0 (.node .t ds) (.ow p) W) (hb : Ev tb σ H (.int (n : Int))) (hd : ds[n]? = some d) : Rch (tOp (rIxT K) to tb) σ H M i d0 p0 d p (fun x => W (.node .t (ds.set n x))) := fun v0 bs0 e0 w0 nd => by
  obtain ⟨v, b, ev, w, nb, sub, put⟩ := h v0 bs0 e0 w0 nd
  unfold Ow at w
  obtain ⟨a, vs, cs, rfl, ho, rfl, f2⟩ := w
  have hn := (List.getElem?_eq_some_iff.mp hd).1
  obtain ⟨vj, bj, k1, k2, k3, k4, k5⟩ := f2.at n d p hd (by rw [List.getElem?_replicate, if_pos hn])
  have nc := List.nodup_cons.mp nb
  have hvl : n < vs.length := (List.getElem?_eq_some_iff.mp k1).1
  refine ⟨vj, bj, fun H1 e Q q => ev H1 e _ fun H2 e2 => hb H2 (e.trans e2) _ fun H3 e3 => ⟨a, vs, (n : Int), _, rfl, rfl, (stof (K := K) (((e.trans e2).trans e3) _ _ ho)).q, atI_getD V.non (by omega) (by omega), by rw [List.getD_eq_getElem?_getD, show ((n : Int)).toNat = n from rfl, k1]; exact q H3 (e2.trans e3)⟩, k2, k4 nc.2, fun x hx => sub x (List.mem_cons_of_mem _ (k3 x hx)), fun H1 d' g k w' =>
    put H1 _ g (fun x hx hxb => k x hx (fun z => hxb (List.mem_cons_of_mem _ (k3 x z)))) ?_⟩
  unfold Ow
  exact ⟨a, vs, cs, rfl, k a (sub a List.mem_cons_self) (fun z => nc.1 (k3 a z)) _ ho, rfl, by rw [List.length_set]; exact k5 H1 d' nc.2 g (fun x hx hxb => k x (sub x (List.mem_cons_of_mem _ hx)) hxb) w'⟩
end
section
variable {K : PySem.W.Frag} {F : Addr → Prop} {Z : Hp → (Addr → Prop) → Prop} {ρ : List Sl} {σ : L2.St} {H : Hp} {M : Addr → Prop} {α β : Type} {f : β → Dt} {i : Nat} {D : Ends} {tu tz : TS}
/-- for k, x in d.items(): a shared dict; nothing is returned within -/
theorem c_itemsS0 {κ : α → Key} {r : List (α × β)} {g1 g2 : TG} {js1 js2 : List Nat} {u1 : α → List Sl → List Sl} {u2 : β → List Sl → List Sl} (P : Addr → Nat → List Sl → Prop) (ok : Ok F Z ρ σ H M) (hi : ρ[i]? = some (st (uDK κ f r))) (thin : ThinL (ρ.set i .any)) (hf : ∀ x, NoD (f x))
    (t1 : ∀ x, Tgt (.sc (kV (κ x))) g1 js1 (u1 x)) (t2 : ∀ x, Tgt (f x) g2 js2 (u2 x))
    (h0 : ∀ a, P a 0 (ρ.set i (st (.sc (.ref a))))) (hP : ∀ a n ρ', P a n ρ' → ρ'[i]? = some (st (.sc (.ref a))))
    (turn : ∀ a Z' R' B', ∀ n x ρ' M' σ' H', r[n]? = some x → P a n ρ' → Ok F Z' (u2 x.2 (u1 x.1 ρ')) σ' H' M' → tu { nx := Nx F Z' (P a (n + 1)), rt := R', bk := B', ct := Nx F Z' (P a (n + 1)) } σ' H')
    (done : ∀ a ρ' M' σ' H', P a r.length ρ' → Ok F Z (ρ'.set i (st (uDK κ f r))) σ' H' M' → D.nx σ' H') : tLock (tFor (iItems (tVar i)) (gTup K 2 (gCons g1 (gCons g2 gNil))) tu) D σ H := by
  obtain ⟨a, vs, u, hv, hu, mt, hob, ha, L⟩ := ok.lockS hi rfl thin (by
    have := noDL_map (f := f) hf (r.map (·.2))
    rwa [List.map_map] at this)
  refine ⟨a, u, hu, mt, fun od => ?_⟩
  obtain ⟨ok1, r1, un⟩ := L od
  obtain ⟨rfl, hl⟩ := hob
  refine c_for (P a) ok1 (j_itemsL hv upd_same r1 ha t1 t2) (h0 a) ?_ ?_
  · intro Z' zz' n x ρ' M' σ' H' hx hp ok'
    exact turn a Z' _ _ n x ρ' M' σ' H' hx hp ok'
  · intro ρ' M' σ' H' hp ok'
    obtain ⟨e1, _, ok2⟩ := un _ _ _ _ ok' (hP _ _ _ hp)
    exact ⟨e1, done a _ _ _ _ hp ok2⟩
theorem b_itemsS0 {κ : α → Key} {r : List (α × β)} {g1 g2 : TG} {js1 js2 : List Nat} {u1 : α → List Sl → List Sl} {u2 : β → List Sl → List Sl} (P : Addr → Nat → List Sl → Prop) (ok : Ok F Z ρ σ H M) (hi : ρ[i]? = some (st (uDK κ f r))) (thin : ThinL (ρ.set i .any)) (hf : ∀ x, NoD (f x))
    (t1 : ∀ x, Tgt (.sc (kV (κ x))) g1 js1 (u1 x)) (t2 : ∀ x, Tgt (f x) g2 js2 (u2 x))
    (h0 : ∀ a, P a 0 (ρ.set i (st (.sc (.ref a))))) (hP : ∀ a n ρ', P a n ρ' → ρ'[i]? = some (st (.sc (.ref a))))
    (turn : ∀ a Z' R' B', ∀ n x ρ' M' σ' H', r[n]? = some x → P a n ρ' → Ok F Z' (u2 x.2 (u1 x.1 ρ')) σ' H' M' → tu { nx := Nx F Z' (P a (n + 1)), rt := R', bk := B', ct := Nx F Z' (P a (n + 1)) } σ' H')
    (done : ∀ a ρ' M' σ' H', P a r.length ρ' → Ok F Z (ρ'.set i (st (uDK κ f r))) σ' H' M' → tz D σ' H') : tSeq (tLock (tFor (iItems (tVar i)) (gTup K 2 (gCons g1 (gCons g2 gNil))) tu)) tz D σ H := c_itemsS0 (D := { D with nx := tz D }) P ok hi thin hf t1 t2 h0 hP turn done
end
theorem overB_cons {r o : Row} {t os : List Row} : overB (r :: t) (o :: os) = (goes r o && overB t os) := by
  unfold overB
  rw [List.zip_cons_cons, List.all_cons]
  have : decide (((r :: t).length : Int) = ((o :: os).length : Int)) = decide ((t.length : Int) = (os.length : Int)) := decide_eq_decide.mpr (by simp only [List.length_cons]; omega)
  rw [this]
  cases decide ((t.length : Int) = (os.length : Int)) <;> simp
def lSign (light : Bool) (a b : Nat) : Nat := if light then (if a = 111 ∧ b = 111 then 111 else 46) else (if a = 111 ∨ b = 111 then 111 else 46)
def laidR (light : Bool) (r q : Row) : Row := (r.zip q).map fun p => lSign light p.1 p.2
def laidT (light : Bool) (t o : List Row) : List Row := (t.zip o).map fun p => laidR light p.1 p.2
theorem flat_one {α : Type} {f : α → Row} {g : α → Nat} : ∀ {l : List α}, (∀ x ∈ l, f x = [g x]) → (l.map f).flatten = l.map g
  | [], _ => rfl
  | a :: l, h => by
    rw [List.map_cons, List.flatten_cons, List.map_cons, flat_one fun x hx => h x (List.mem_cons_of_mem _ hx), h a List.mem_cons_self]
    rfl
theorem laidR_row {light : Bool} {r q : Row} {w : Nat} (h : isRow r (w : Int) = true) (k : isRow q (w : Int) = true) : isRow (laidR light r q) (w : Int) = true := by
  rw [isRow_iff] at *
  unfold laidR
  rw [List.length_map, List.length_zip, h.1, k.1]
  refine ⟨by omega, fun c hc => ?_⟩
  obtain ⟨p, _, rfl⟩ := List.mem_map.mp hc
  unfold lSign
  cases light <;> simp only [Bool.false_eq_true, if_true, if_false] <;> split <;> simp
theorem laidT_ok {light : Bool} {t o : List Row} {w : Nat} (h : TpOk t w) (k : TpOk o w) : TpOk (laidT light t o) w := by
  have := h.len
  refine ⟨by unfold laidT; rw [List.length_map, List.length_zip]; omega, fun r hr => ?_⟩
  obtain ⟨p, hp, rfl⟩ := List.mem_map.mp hr
  have := List.of_mem_zip hp
  exact laidR_row (h.row _ this.1) (k.row _ this.2)
theorem laidT_len {light : Bool} {t o : List Row} (h : t.length = o.length) : (laidT light t o).length = t.length := by unfold laidT; rw [List.length_map, List.length_zip]; omega
theorem goes_iff {r q : Row} : goes r q = true ↔ ∀ p ∈ r.zip q, ¬ (p.1 = 111 ∧ p.2 = 46) := by
  unfold goes
  rw [Bool.not_eq_true', ← Bool.not_eq_true, List.any_eq_true]
  constructor
  · intro h p hp ⟨a, b⟩
    exact h ⟨p, hp, by rw [a, b]; decide⟩
  · rintro h ⟨p, hp, e⟩
    rw [Bool.and_eq_true, decide_eq_true_eq, decide_eq_true_eq] at e
    exact h p hp ⟨by simpa using e.1, by simpa using e.2⟩
theorem zip_laid {light : Bool} : ∀ {r q : Row} {p : Nat × Nat}, p ∈ r.zip (laidR light r q) → ∃ b, p.2 = lSign light p.1 b ∧ (p.1, b) ∈ r.zip q
  | [], q, p, h => by simp at h
  | a :: r, [], p, h => by simp [laidR] at h
  | a :: r, b :: q, p, h => by
    unfold laidR at h
    rw [List.zip_cons_cons, List.map_cons, List.zip_cons_cons] at h
    rcases List.mem_cons.mp h with rfl | h
    · exact ⟨b, rfl, List.mem_cons_self⟩
    · obtain ⟨b', e, hb⟩ := zip_laid (q := q) h
      exact ⟨b', e, List.mem_cons_of_mem _ hb⟩
theorem zip_laid2 {light : Bool} : ∀ {r q : Row} {p : Nat × Nat}, p ∈ (laidR light r q).zip q → ∃ a, p.1 = lSign light a p.2 ∧ (a, p.2) ∈ r.zip q
  | [], q, p, h => by simp [laidR] at h
  | a :: r, [], p, h => by simp at h
  | a :: r, b :: q, p, h => by
    unfold laidR at h
    rw [List.zip_cons_cons, List.map_cons, List.zip_cons_cons] at h
    rcases List.mem_cons.mp h with rfl | h
    · exact ⟨a, rfl, List.mem_cons_self⟩
    · obtain ⟨a', e, ha⟩ := zip_laid2 (q := q) h
      exact ⟨a', e, List.mem_cons_of_mem _ ha⟩
theorem goes_both {r q : Row} : goes r (laidR false r q) = true := goes_iff.mpr fun p hp ⟨h1, h2⟩ => by
  obtain ⟨b, e, _⟩ := zip_laid hp
  rw [h2, h1] at e
  simp [lSign] at e
theorem goes_light {r q : Row} : goes (laidR true r q) q = true := goes_iff.mpr fun p hp ⟨h1, h2⟩ => by
  obtain ⟨a, e, _⟩ := zip_laid2 hp
  rw [h1, h2] at e
  simp [lSign] at e
theorem over_both : ∀ {t o : List Row}, t.length = o.length → overB t (laidT false t o) = true
  | [], o, _ => by cases o <;> rfl
  | r :: t, [], h => by cases h
  | r :: t, q :: o, h => by
    unfold laidT
    rw [List.zip_cons_cons, List.map_cons, overB_cons, goes_both]
    exact over_both (by simpa using h)
theorem over_light : ∀ {t o : List Row}, t.length = o.length → overB (laidT true t o) o = true
  | [], o, h => by
    have : o = [] := List.length_eq_zero_iff.mp h.symm
    rw [this]; rfl
  | r :: t, [], h => by cases h
  | r :: t, q :: o, h => by
    unfold laidT
    rw [List.zip_cons_cons, List.map_cons, overB_cons, goes_light]
    exact over_light (by simpa using h)
theorem sign_comm (light : Bool) (a b : Nat) : lSign light a b = lSign light b a := by
  unfold lSign
  cases light
  · simp only [Bool.false_eq_true, if_false, Or.comm]
  · simp only [if_true, And.comm]
theorem laidR_comm (light : Bool) : ∀ r q : Row, laidR light r q = laidR light q r
  | [], q => by cases q <;> rfl
  | a :: r, [] => rfl
  | a :: r, b :: q => by
    have := laidR_comm light r q
    unfold laidR at this ⊢
    rw [List.zip_cons_cons, List.zip_cons_cons, List.map_cons, List.map_cons, this, sign_comm]
theorem laidT_comm (light : Bool) : ∀ t o : List Row, laidT light t o = laidT light o t
  | [], o => by cases o <;> rfl
  | r :: t, [] => rfl
  | r :: t, q :: o => by
    have := laidT_comm light t o
    unfold laidT at this ⊢
    rw [List.zip_cons_cons, List.zip_cons_cons, List.map_cons, List.map_cons, this, laidR_comm]
theorem laidR_abs1 : ∀ {r q : Row}, r.length = q.length → laidR false (laidR false r q) (laidR true r q) = laidR false r q
  | [], q, _ => by cases q <;> rfl
  | a :: r, [], h => by cases h
  | a :: r, b :: q, h => by
    have := laidR_abs1 (r := r) (q := q) (by simpa using h)
    unfold laidR at this ⊢
    simp only [List.zip_cons_cons, List.map_cons, this]
    congr 1
    unfold lSign
    by_cases h1 : a = 111 <;> by_cases h2 : b = 111 <;> simp [h1, h2]
theorem laidR_abs2 : ∀ {r q : Row}, r.length = q.length → laidR true (laidR false r q) (laidR true r q) = laidR true r q
  | [], q, _ => by cases q <;> rfl
  | a :: r, [], h => by cases h
  | a :: r, b :: q, h => by
    have := laidR_abs2 (r := r) (q := q) (by simpa using h)
    unfold laidR at this ⊢
    simp only [List.zip_cons_cons, List.map_cons, this]
    congr 1
    unfold lSign
    by_cases h1 : a = 111 <;> by_cases h2 : b = 111 <;> simp [h1, h2]
theorem laidT_abs {t o : List Row} {w : Nat} (b : Bool) : t.length = o.length → (∀ r ∈ t, isRow r (w : Int) = true) → (∀ r ∈ o, isRow r (w : Int) = true) → laidT b (laidT false t o) (laidT true t o) = laidT b t o := by
  induction t generalizing o with
  | nil => intro _ _ _; cases o <;> rfl
  | cons r t ih =>
    cases o with
    | nil => intro h; cases h
    | cons q o =>
      intro h h1 h2
      have e := ih (o := o) (by simpa using h) (fun x hx => h1 x (List.mem_cons_of_mem _ hx)) (fun x hx => h2 x (List.mem_cons_of_mem _ hx))
      have hl : r.length = q.length := by rw [isRow_len (h1 r List.mem_cons_self), isRow_len (h2 q List.mem_cons_self)]
      unfold laidT at e ⊢
      simp only [List.zip_cons_cons, List.map_cons, e]
      congr 1
      cases b
      · exact laidR_abs1 hl
      · exact laidR_abs2 hl
theorem laidR_self : ∀ {r : Row}, (∀ c ∈ r, c = 111 ∨ c = 46) → laidR false r r = r
  | [], _ => rfl
  | a :: r, h => by
    have := laidR_self (r := r) fun c hc => h c (List.mem_cons_of_mem _ hc)
    unfold laidR at this ⊢
    rw [List.zip_cons_cons, List.map_cons, this]
    congr 1
    unfold lSign
    rcases h a List.mem_cons_self with rfl | rfl <;> rfl
theorem laidT_self {t : List Row} {w : Nat} (h : ∀ r ∈ t, isRow r (w : Int) = true) : laidT false t t = t := by
  induction t with
  | nil => rfl
  | cons r t ih =>
    have := ih fun x hx => h x (List.mem_cons_of_mem _ hx)
    unfold laidT at this ⊢
    rw [List.zip_cons_cons, List.map_cons, this, laidR_self (isRow_mem (h r List.mem_cons_self))]
theorem textOf_turn (rd : Dic) : ∀ t : List Row, textOf (turnD rd) (turnT t) = textOf rd t
  | [] => rfl
  | r :: t => by
    show mean (turnD rd) r.reverse ++ textOf (turnD rd) (turnT t) = mean rd r ++ textOf rd t
    rw [mean_turn, textOf_turn rd t]
theorem turn_at {rd : Dic} {w : Nat} {p : Row × Row} (h : RdOk rd w) (hp : p ∈ rd) : look (turnD rd) p.1.reverse = some p.2 := by rw [look_turn]; exact look_nodup h.nd p hp
theorem revAt {t : List Row} : (List.range t.length).map (fun (i : Nat) => t.getD ((t.length : Int) - 1 - (i : Int)).toNat []) = t.reverse := by
  refine List.ext_getElem? fun i => ?_
  rw [List.getElem?_map]
  by_cases h : i < t.length
  · rw [List.getElem?_range h, List.getElem?_reverse h]
    show some (t.getD ((t.length : Int) - 1 - (i : Int)).toNat []) = _
    rw [show ((t.length : Int) - 1 - (i : Int)).toNat = t.length - 1 - i by omega, List.getD_eq_getElem?_getD, List.getElem?_eq_getElem (by omega)]
    rfl
  · rw [List.getElem?_eq_none (by rw [List.length_range]; omega), List.getElem?_eq_none (by rw [List.length_reverse]; omega)]
    rfl
theorem mirT {t : List Row} : Dt.node .l (t.map fun r => uS r.reverse) = uL uS (turnT t) := nd_map (f := uS) (g := List.reverse)
def rdq : Dic := [([46], [113])]
theorem q_ok : RdOk rdq 1 := ⟨by decide, by decide, by decide, by decide, by decide, by decide, by decide⟩
abbrev t15o : List Row := List.replicate 15 [111]
abbrev t15d : List Row := List.replicate 15 [46]
theorem t15_ok : ∀ s ∈ [t15o, [], t15d], TpOk s 1 := fun s hs => by
  simp only [List.mem_cons, List.not_mem_nil, or_false] at hs
  rcases hs with rfl | rfl | rfl
  · exact ⟨by decide, by decide⟩
  · exact ⟨by decide, fun r hr => nomatch hr⟩
  · exact ⟨by decide, by decide⟩
theorem t15_sm : SmT (t15o ++ t15d) := fun r hr => (List.mem_append.mp hr).elim ((t15_ok _ (by simp)).small r) ((t15_ok t15d (by simp)).small r)
end Ho
namespace Ho
open PySem PySem.Spec PyProof.Rows L2 Evl
local macro_rules | `(tactic| walk_at "sel") => `(tactic| first | exact ⟨rfl, rfl⟩ | exact Or.inl ⟨rfl, rfl⟩ | exact Or.inr ⟨rfl, rfl⟩ | exact Or.inr (Or.inl ⟨rfl, rfl⟩) | exact Or.inr (Or.inr ⟨rfl, rfl⟩) | exact Or.inr (Or.inr (Or.inl ⟨rfl, rfl⟩)) | exact Or.inr (Or.inr (Or.inr ⟨rfl, rfl⟩)))
local macro_rules | `(tactic| walk_at "exs") => `(tactic| first | assumption | exact Ex.refl _ | (refine' Ex.trans ?exa ?exb; (case' exb => assumption); walk_at "exs"))
local macro_rules | `(tactic| walk_at "fact") => `(tactic| first | assumption | exact slof (by assumption) | exact stof (by assumption) | (refine' exl ?fe ?fh; (case' fh => first | assumption | exact slof (by assumption)); walk_at "exs") | (refine' ext ?fe ?fh; (case' fh => first | assumption | exact stof (by assumption)); walk_at "exs") | (refine' exl ?fe ?fh; (case' fh => first | solve_by_elim | exact slof (by solve_by_elim)); walk_at "exs"))
local macro_rules | `(tactic| walk_at "facth") => `(tactic| first | assumption | (refine' exh ?fe ?fh; (case' fh => assumption); walk_at "exs") | (refine' exh ?fe ?fh; (case' fh => solve_by_elim); walk_at "exs"))
local macro_rules | `(tactic| walk_at "facta") => `(tactic| first | assumption | (refine' AG.ex ?fm ?fe ?fh; (case' fh => assumption); (case' fm => first | exact mkL | exact mkT); walk_at "exs"))
local macro_rules | `(tactic| walk_at "adm") => `(tactic| first | exact nin0 | exact nin1 (by first | assumption | exact Ne.symm (by assumption)) | exact nin2 (by first | assumption | exact Ne.symm (by assumption)) (by first | assumption | exact Ne.symm (by assumption)))
local macro_rules | `(tactic| walk_at "side") => `(tactic| first | assumption | omega | decide | (simp only [List.length_append, List.length_cons, List.length_nil, List.length_map, List.length_drop, List.length_take, List.length_range, List.mem_range, decide_eq_true_eq, Bool.and_eq_true] at *; omega) | trivial | solve_by_elim | (simp only [Bool.not_eq_true', Bool.not_eq_false', decide_eq_false_iff_not, decide_eq_true_eq, Bool.and_eq_true, Bool.or_eq_false_iff, Decidable.not_not, List.length_append, List.length_cons, List.length_nil, List.length_map, List.length_drop, List.length_take, List.length_range] at *; omega))
local macro_rules | `(tactic| walk_at "len") => `(tactic| first | assumption | omega | (simp only [List.length_zip, List.length_map, List.length_range, List.length_zipIdx, List.length_append, List.length_cons, List.length_nil, List.length_drop, List.length_take]; omega) | solve_by_elim)
local macro_rules | `(tactic| walk_at "rng") => `(tactic| first | omega | (constructor <;> omega) | assumption)
local macro_rules | `(tactic| walk_at "cmul") => `(tactic| first | exact .inr ⟨by decide, by decide⟩ | exact .inl ⟨by decide, by decide⟩ | exact .inl ⟨by omega, by omega⟩ | exact .inr ⟨by omega, by omega⟩)
local macro_rules | `(tactic| walk_at "cdiv") => `(tactic| first | exact ⟨by decide, by decide⟩ | exact ⟨by omega, by omega⟩)
local macro_rules | `(tactic| walk_at "cpow") => `(tactic| first | exact ⟨by decide, by decide, by decide⟩ | exact ⟨by omega, by omega, by decide⟩)
def topS (i : Nat) : Stmt := PySem.Challenge.pw_holetape_k09_shapes.main.body.getD i (.Pass ⟨0, 0, 0, 0⟩)
abbrev s__law_draw : Stmt := topS 34
abbrev N__law_draw : List Str := ["_law_cell", "_law_k", "_law_many", "_law_primes"]
theorem sc__law_draw : FnScope N__law_draw ["_law_cell", "_law_k", "_law_many"] (defScope s__law_draw) := ⟨rfl, rfl, rfl, by decide +kernel, rfl, by decide +kernel, by decide +kernel⟩
abbrev s__law_cell_at : Stmt := topS 35
abbrev N__law_cell_at : List Str := ["_law_script", "_law_k"]
theorem sc__law_cell_at : FnScope N__law_cell_at ["_law_script", "_law_k"] (defScope s__law_cell_at) := ⟨rfl, rfl, rfl, by decide +kernel, rfl, by decide +kernel, by decide +kernel⟩
abbrev s__law_digits : Stmt := topS 36
abbrev N__law_digits : List Str := ["_law_script", "_law_at", "_law_many", "_law_base", "_law_blend", "_law_cell", "_law_found", "_law_left", "_law_more", "_law_turn"]
theorem sc__law_digits : FnScope N__law_digits ["_law_script", "_law_at", "_law_many", "_law_base"] (defScope s__law_digits) := ⟨rfl, rfl, rfl, by decide +kernel, rfl, by decide +kernel, by decide +kernel⟩
abbrev s__law_pool : Stmt := topS 38
abbrev N__law_pool : List Str := ["_law_script", "_law_at", "_law_one"]
theorem sc__law_pool : FnScope N__law_pool ["_law_script", "_law_at"] (defScope s__law_pool) := ⟨rfl, rfl, rfl, by decide +kernel, rfl, by decide +kernel, by decide +kernel⟩
abbrev s__law_rows : Stmt := topS 37
abbrev N__law_rows : List Str := ["_law_width_here", "_law_found", "_law_number", "_law_at"]
theorem sc__law_rows : FnScope N__law_rows ["_law_width_here"] (defScope s__law_rows) := ⟨rfl, rfl, rfl, by decide +kernel, rfl, by decide +kernel, by decide +kernel⟩
abbrev s__law_reader : Stmt := topS 39
abbrev N__law_reader : List Str := ["_law_script", "_law_at", "_law_pool_here", "_law_least", "_law_begin", "_law_draws", "_law_found", "_law_number", "_law_row", "_law_rows_here", "_law_width_here"]
theorem sc__law_reader : FnScope N__law_reader ["_law_script", "_law_at", "_law_pool_here", "_law_least"] (defScope s__law_reader) := ⟨rfl, rfl, rfl, by decide +kernel, rfl, by decide +kernel, by decide +kernel⟩
abbrev s__law_tape : Stmt := topS 41
abbrev N__law_tape : List Str := ["_law_script", "_law_at", "_law_width_here", "_law_many", "_law_draw_here", "_law_fewer", "_law_found", "_law_rows_here"]
theorem sc__law_tape : FnScope N__law_tape ["_law_script", "_law_at", "_law_width_here", "_law_many"] (defScope s__law_tape) := ⟨rfl, rfl, rfl, by decide +kernel, rfl, by decide +kernel, by decide +kernel⟩
abbrev s__law_width : Stmt := topS 40
abbrev N__law_width : List Str := ["_law_reader_here"]
theorem sc__law_width : FnScope N__law_width ["_law_reader_here"] (defScope s__law_width) := ⟨rfl, rfl, rfl, by decide +kernel, rfl, by decide +kernel, by decide +kernel⟩
abbrev s_is_row : Stmt := topS 14
abbrev N_is_row : List Str := ["thing", "width", "sign"]
theorem sc_is_row : FnScope N_is_row ["thing", "width"] (defScope s_is_row) := ⟨rfl, rfl, rfl, by decide +kernel, rfl, by decide +kernel, by decide +kernel⟩
abbrev s_is_letter : Stmt := topS 15
abbrev N_is_letter : List Str := ["thing"]
theorem sc_is_letter : FnScope N_is_letter ["thing"] (defScope s_is_letter) := ⟨rfl, rfl, rfl, by decide +kernel, rfl, by decide +kernel, by decide +kernel⟩
abbrev s_width_of : Stmt := topS 16
abbrev N_width_of : List Str := ["reader", "first", "letter", "row", "width"]
theorem sc_width_of : FnScope N_width_of ["reader"] (defScope s_width_of) := ⟨rfl, rfl, rfl, by decide +kernel, rfl, by decide +kernel, by decide +kernel⟩
abbrev s_check_tape : Stmt := topS 17
abbrev N_check_tape : List Str := ["width", "tape", "place", "row"]
theorem sc_check_tape : FnScope N_check_tape ["width", "tape"] (defScope s_check_tape) := ⟨rfl, rfl, rfl, by decide +kernel, rfl, by decide +kernel, by decide +kernel⟩
abbrev s_joined : Stmt := topS 30
abbrev N_joined : List Str := ["reader", "tapes", "found", "tape", "width"]
theorem sc_joined : FnScope N_joined ["reader", "tapes"] (defScope s_joined) := ⟨rfl, rfl, rfl, by decide +kernel, rfl, by decide +kernel, by decide +kernel⟩
abbrev s_turned_reader : Stmt := topS 27
abbrev N_turned_reader : List Str := ["reader", "found", "letter", "row"]
theorem sc_turned_reader : FnScope N_turned_reader ["reader"] (defScope s_turned_reader) := ⟨rfl, rfl, rfl, by decide +kernel, rfl, by decide +kernel, by decide +kernel⟩
abbrev s__law_means : Stmt := topS 42
abbrev N__law_means : List Str := ["_law_reader_here", "_law_row"]
theorem sc__law_means : FnScope N__law_means ["_law_reader_here", "_law_row"] (defScope s__law_means) := ⟨rfl, rfl, rfl, by decide +kernel, rfl, by decide +kernel, by decide +kernel⟩
abbrev s__law_reads : Stmt := topS 43
abbrev N__law_reads : List Str := ["_law_reader_here", "_law_tape_here", "_law_row"]
theorem sc__law_reads : FnScope N__law_reads ["_law_reader_here", "_law_tape_here"] (defScope s__law_reads) := ⟨rfl, rfl, rfl, by decide +kernel, rfl, by decide +kernel, by decide +kernel⟩
abbrev s__law_mirror : Stmt := topS 44
abbrev N__law_mirror : List Str := ["_law_row", "_law_found", "_law_sign"]
theorem sc__law_mirror : FnScope N__law_mirror ["_law_row"] (defScope s__law_mirror) := ⟨rfl, rfl, rfl, by decide +kernel, rfl, by decide +kernel, by decide +kernel⟩
abbrev s__law_new : Stmt := topS 46
abbrev N__law_new : List Str := ["_law_ask", "_law_handed", "_law_due", "_law_kept", "_law_told"]
theorem sc__law_new : FnScope N__law_new ["_law_ask", "_law_handed", "_law_due"] (defScope s__law_new) := ⟨rfl, rfl, rfl, by decide +kernel, rfl, by decide +kernel, by decide +kernel⟩
abbrev s_meaning : Stmt := topS 20
abbrev N_meaning : List Str := ["reader", "row"]
theorem sc_meaning : FnScope N_meaning ["reader", "row"] (defScope s_meaning) := ⟨rfl, rfl, rfl, by decide +kernel, rfl, by decide +kernel, by decide +kernel⟩
abbrev s_text_of : Stmt := topS 21
abbrev N_text_of : List Str := ["reader", "tape", "row"]
theorem sc_text_of : FnScope N_text_of ["reader", "tape"] (defScope s_text_of) := ⟨rfl, rfl, rfl, by decide +kernel, rfl, by decide +kernel, by decide +kernel⟩
abbrev s_read_tape : Stmt := topS 23
abbrev N_read_tape : List Str := ["reader", "tape"]
theorem sc_read_tape : FnScope N_read_tape ["reader", "tape"] (defScope s_read_tape) := ⟨rfl, rfl, rfl, by decide +kernel, rfl, by decide +kernel, by decide +kernel⟩
abbrev s_turned : Stmt := topS 26
abbrev N_turned : List Str := ["reader", "tape", "row"]
theorem sc_turned : FnScope N_turned ["reader", "tape"] (defScope s_turned) := ⟨rfl, rfl, rfl, by decide +kernel, rfl, by decide +kernel, by decide +kernel⟩
abbrev s_backwards : Stmt := topS 28
abbrev N_backwards : List Str := ["reader", "tape"]
theorem sc_backwards : FnScope N_backwards ["reader", "tape"] (defScope s_backwards) := ⟨rfl, rfl, rfl, by decide +kernel, rfl, by decide +kernel, by decide +kernel⟩
abbrev s__law_turned_right : Stmt := topS 47
abbrev N__law_turned_right : List Str := ["_law_reader_here", "_law_tape_here", "_law_due", "_law_given", "_law_letter", "_law_mirrored", "_law_row", "_law_text", "_law_told", "_law_at"]
theorem sc__law_turned_right : FnScope N__law_turned_right ["_law_reader_here", "_law_tape_here"] (defScope s__law_turned_right) := ⟨rfl, rfl, rfl, by decide +kernel, rfl, by decide +kernel, by decide +kernel⟩
abbrev s__law_laid : Stmt := topS 45
abbrev N__law_laid : List Str := ["_law_one", "_law_other", "_law_light", "_law_a", "_law_b", "_law_found", "_law_many", "_law_mine", "_law_row", "_law_yours", "_law_sign"]
theorem sc__law_laid : FnScope N__law_laid ["_law_one", "_law_other", "_law_light"] (defScope s__law_laid) := ⟨rfl, rfl, rfl, by decide +kernel, rfl, by decide +kernel, by decide +kernel⟩
abbrev s_check_two : Stmt := topS 18
abbrev N_check_two : List Str := ["width", "one", "other"]
theorem sc_check_two : FnScope N_check_two ["width", "one", "other"] (defScope s_check_two) := ⟨rfl, rfl, rfl, by decide +kernel, rfl, by decide +kernel, by decide +kernel⟩
abbrev s_laid_rows : Stmt := topS 31
abbrev N_laid_rows : List Str := ["one", "other", "light", "mine", "yours"]
theorem sc_laid_rows : FnScope N_laid_rows ["one", "other", "light"] (defScope s_laid_rows) := ⟨rfl, rfl, rfl, by decide +kernel, rfl, by decide +kernel, by decide +kernel⟩
abbrev s_laid : Stmt := topS 32
abbrev N_laid : List Str := ["reader", "one", "other", "light", "mine", "yours"]
theorem sc_laid : FnScope N_laid ["reader", "one", "other", "light"] (defScope s_laid) := ⟨rfl, rfl, rfl, by decide +kernel, rfl, by decide +kernel, by decide +kernel⟩
abbrev s_goes_over : Stmt := topS 19
abbrev N_goes_over : List Str := ["row", "other", "one", "new"]
theorem sc_goes_over : FnScope N_goes_over ["row", "other"] (defScope s_goes_over) := ⟨rfl, rfl, rfl, by decide +kernel, rfl, by decide +kernel, by decide +kernel⟩
abbrev s_over : Stmt := topS 22
abbrev N_over : List Str := ["tape", "other", "one", "new"]
theorem sc_over : FnScope N_over ["tape", "other"] (defScope s_over) := ⟨rfl, rfl, rfl, by decide +kernel, rfl, by decide +kernel, by decide +kernel⟩
abbrev s_becomes : Stmt := topS 24
abbrev N_becomes : List Str := ["reader", "tape", "other"]
theorem sc_becomes : FnScope N_becomes ["reader", "tape", "other"] (defScope s_becomes) := ⟨rfl, rfl, rfl, by decide +kernel, rfl, by decide +kernel, by decide +kernel⟩
abbrev s__law_laid_right : Stmt := topS 49
abbrev N__law_laid_right : List Str := ["_law_reader_here", "_law_one", "_law_other", "_law_both", "_law_given", "_law_light", "_law_mine", "_law_yours"]
theorem sc__law_laid_right : FnScope N__law_laid_right ["_law_reader_here", "_law_one", "_law_other"] (defScope s__law_laid_right) := ⟨rfl, rfl, rfl, by decide +kernel, rfl, by decide +kernel, by decide +kernel⟩
abbrev s_is_whole : Stmt := topS 13
abbrev N_is_whole : List Str := ["thing"]
theorem sc_is_whole : FnScope N_is_whole ["thing"] (defScope s_is_whole) := ⟨rfl, rfl, rfl, by decide +kernel, rfl, by decide +kernel, by decide +kernel⟩
abbrev s_cut : Stmt := topS 29
abbrev N_cut : List Str := ["reader", "tape", "place"]
theorem sc_cut : FnScope N_cut ["reader", "tape", "place"] (defScope s_cut) := ⟨rfl, rfl, rfl, by decide +kernel, rfl, by decide +kernel, by decide +kernel⟩
abbrev s__law_cut_right : Stmt := topS 48
abbrev N__law_cut_right : List Str := ["_law_reader_here", "_law_tape_here", "_law_place", "_law_given", "_law_handed", "_law_parts", "_law_told"]
theorem sc__law_cut_right : FnScope N__law_cut_right ["_law_reader_here", "_law_tape_here", "_law_place"] (defScope s__law_cut_right) := ⟨rfl, rfl, rfl, by decide +kernel, rfl, by decide +kernel, by decide +kernel⟩
abbrev s_law : Stmt := topS 50
abbrev N_law : List Str := ["_law_script", "_law_by", "_law_draws", "_law_other", "_law_place", "_law_pool_here", "_law_reader_here", "_law_tape_here", "_law_width_here"]
theorem sc_law : FnScope N_law ["_law_script"] (defScope s_law) := ⟨rfl, rfl, rfl, by decide +kernel, rfl, by decide +kernel, by decide +kernel⟩
structure Txt (K : PySem.W.Frag) (mg : Str → Option Value) : Prop where
  z_abs : mg "abs" = none
  z_all : mg "all" = none
  z_any : mg "any" = none
  z_bool : mg "bool" = none
  z_dict : mg "dict" = none
  z_enumerate : mg "enumerate" = none
  z_int : mg "int" = none
  z_isinstance : mg "isinstance" = none
  z_len : mg "len" = none
  z_list : mg "list" = none
  z_max : mg "max" = none
  z_min : mg "min" = none
  z_range : mg "range" = none
  z_str : mg "str" = none
  z_sum : mg "sum" = none
  z_tuple : mg "tuple" = none
  z_zip : mg "zip" = none
  c_HOLE : ∃ t, mg "HOLE" = some (.str (S [111]) t)
  c_BLANK : ∃ t, mg "BLANK" = some (.str (S [46]) t)
  c_LETTERS : ∃ t, mg "LETTERS" = some (.str (S [97, 98, 99, 100, 101, 102, 103, 104, 105, 106, 107, 108, 109, 110, 111, 112, 113, 114, 115, 116, 117, 118, 119, 120, 121, 122]) t)
  c_WIDEST : ∃ t, mg "WIDEST" = some (.int 4 t)
  c_MOST : ∃ t, mg "MOST" = some (.int 30 t)
  d__law_draw : DefAt K mg "_law_draw" "_law_draw" s__law_draw ["_law_cell", "_law_k", "_law_many"]
  d__law_cell_at : DefAt K mg "_law_cell_at" "_law_cell_at" s__law_cell_at ["_law_script", "_law_k"]
  d__law_digits : DefAt K mg "_law_digits" "_law_digits" s__law_digits ["_law_script", "_law_at", "_law_many", "_law_base"]
  d__law_pool : DefAt K mg "_law_pool" "_law_pool" s__law_pool ["_law_script", "_law_at"]
  d__law_rows : DefAt K mg "_law_rows" "_law_rows" s__law_rows ["_law_width_here"]
  d__law_reader : DefAt K mg "_law_reader" "_law_reader" s__law_reader ["_law_script", "_law_at", "_law_pool_here", "_law_least"]
  d__law_tape : DefAt K mg "_law_tape" "_law_tape" s__law_tape ["_law_script", "_law_at", "_law_width_here", "_law_many"]
  d__law_width : DefAt K mg "_law_width" "_law_width" s__law_width ["_law_reader_here"]
  d_is_row : DefAt K mg "is_row" "is_row" s_is_row ["thing", "width"]
  d_is_letter : DefAt K mg "is_letter" "is_letter" s_is_letter ["thing"]
  d_width_of : DefAt K mg "width_of" "width_of" s_width_of ["reader"]
  d_check_tape : DefAt K mg "check_tape" "check_tape" s_check_tape ["width", "tape"]
  d_joined : DefAt K mg "joined" "joined" s_joined ["reader", "tapes"]
  d_turned_reader : DefAt K mg "turned_reader" "turned_reader" s_turned_reader ["reader"]
  d__law_means : DefAt K mg "_law_means" "_law_means" s__law_means ["_law_reader_here", "_law_row"]
  d__law_reads : DefAt K mg "_law_reads" "_law_reads" s__law_reads ["_law_reader_here", "_law_tape_here"]
  d__law_mirror : DefAt K mg "_law_mirror" "_law_mirror" s__law_mirror ["_law_row"]
  d__law_new : DefAt K mg "_law_new" "_law_new" s__law_new ["_law_ask", "_law_handed", "_law_due"]
  d_meaning : DefAt K mg "meaning" "meaning" s_meaning ["reader", "row"]
  d_text_of : DefAt K mg "text_of" "text_of" s_text_of ["reader", "tape"]
  d_read_tape : DefAt K mg "read_tape" "read_tape" s_read_tape ["reader", "tape"]
  d_turned : DefAt K mg "turned" "turned" s_turned ["reader", "tape"]
  d_backwards : DefAt K mg "backwards" "backwards" s_backwards ["reader", "tape"]
  d__law_turned_right : DefAt K mg "_law_turned_right" "_law_turned_right" s__law_turned_right ["_law_reader_here", "_law_tape_here"]
  d__law_laid : DefAt K mg "_law_laid" "_law_laid" s__law_laid ["_law_one", "_law_other", "_law_light"]
  d_check_two : DefAt K mg "check_two" "check_two" s_check_two ["width", "one", "other"]
  d_laid_rows : DefAt K mg "laid_rows" "laid_rows" s_laid_rows ["one", "other", "light"]
  d_laid : DefAtD K mg "laid" "laid" s_laid ["reader", "one", "other", "light"] [.bl false]
  d_goes_over : DefAt K mg "goes_over" "goes_over" s_goes_over ["row", "other"]
  d_over : DefAt K mg "over" "over" s_over ["tape", "other"]
  d_becomes : DefAt K mg "becomes" "becomes" s_becomes ["reader", "tape", "other"]
  d__law_laid_right : DefAt K mg "_law_laid_right" "_law_laid_right" s__law_laid_right ["_law_reader_here", "_law_one", "_law_other"]
  d_is_whole : DefAt K mg "is_whole" "is_whole" s_is_whole ["thing"]
  d_cut : DefAt K mg "cut" "cut" s_cut ["reader", "tape", "place"]
  d__law_cut_right : DefAt K mg "_law_cut_right" "_law_cut_right" s__law_cut_right ["_law_reader_here", "_law_tape_here", "_law_place"]
structure LmA where
  c0 : Addr
  P0 : Addr
  c1 : Addr
  P1 : Addr
  c2 : Addr
  P2 : Addr
abbrev TT (mL : LmA) : List (Addr × Str) := [(mL.P0, "_law_turned_right.<locals>.<lambda>"), (mL.P1, "_law_cut_right.<locals>.<lambda>"), (mL.P2, "_law_laid_right.<locals>.<lambda>")]
structure Lam (K : PySem.W.Frag) (mg : Str → Option Value) (base : Heap) (mL : LmA) : Prop where
  e0 : DefAtC K mg "_law_turned_right" "_law_turned_right" s__law_turned_right ["_law_reader_here", "_law_tape_here"] mL.c0
  t0 : LamX.TabB base mg mL.c0 mL.P0
  e1 : DefAtC K mg "_law_cut_right" "_law_cut_right" s__law_cut_right ["_law_reader_here", "_law_tape_here", "_law_place"] mL.c1
  t1 : LamX.TabB base mg mL.c1 mL.P1
  n0_1 : mL.P0 ≠ mL.P1
  e2 : DefAtC K mg "_law_laid_right" "_law_laid_right" s__law_laid_right ["_law_reader_here", "_law_one", "_law_other"] mL.c2
  t2 : LamX.TabB base mg mL.c2 mL.P2
  n0_2 : mL.P0 ≠ mL.P2
  n1_2 : mL.P1 ≠ mL.P2
theorem TT_mem0 (mL : LmA) : (mL.P0, ("_law_turned_right.<locals>.<lambda>" : Str)) ∈ TT mL := List.mem_cons_self
theorem TT_dist0 {K : PySem.W.Frag} {mg : Str → Option Value} {base : Heap} {mL : LmA} (L : Lam K mg base mL) : ∀ p ∈ TT mL, p = (mL.P0, ("_law_turned_right.<locals>.<lambda>" : Str)) ∨ mL.P0 ≠ p.1 := (List.forall_mem_cons.mpr ⟨.inl rfl, (List.forall_mem_cons.mpr ⟨.inr L.n0_1, (List.forall_mem_cons.mpr ⟨.inr L.n0_2, (fun _ h => nomatch h)⟩)⟩)⟩)
theorem TT_mem1 (mL : LmA) : (mL.P1, ("_law_cut_right.<locals>.<lambda>" : Str)) ∈ TT mL := (List.mem_cons_of_mem _ List.mem_cons_self)
theorem TT_dist1 {K : PySem.W.Frag} {mg : Str → Option Value} {base : Heap} {mL : LmA} (L : Lam K mg base mL) : ∀ p ∈ TT mL, p = (mL.P1, ("_law_cut_right.<locals>.<lambda>" : Str)) ∨ mL.P1 ≠ p.1 := (List.forall_mem_cons.mpr ⟨.inr (Ne.symm L.n0_1), (List.forall_mem_cons.mpr ⟨.inl rfl, (List.forall_mem_cons.mpr ⟨.inr L.n1_2, (fun _ h => nomatch h)⟩)⟩)⟩)
theorem TT_mem2 (mL : LmA) : (mL.P2, ("_law_laid_right.<locals>.<lambda>" : Str)) ∈ TT mL := (List.mem_cons_of_mem _ (List.mem_cons_of_mem _ List.mem_cons_self))
theorem TT_dist2 {K : PySem.W.Frag} {mg : Str → Option Value} {base : Heap} {mL : LmA} (L : Lam K mg base mL) : ∀ p ∈ TT mL, p = (mL.P2, ("_law_laid_right.<locals>.<lambda>" : Str)) ∨ mL.P2 ≠ p.1 := (List.forall_mem_cons.mpr ⟨.inr (Ne.symm L.n0_2), (List.forall_mem_cons.mpr ⟨.inr (Ne.symm L.n1_2), (List.forall_mem_cons.mpr ⟨.inl rfl, (fun _ h => nomatch h)⟩)⟩)⟩)
variable {P : PySem.Program} {wW : World} {K : PySem.W.Frag} {mg : Str → Option Value} {base : Heap}
variable {mL : LmA}
def R__law_draw (K : PySem.W.Frag) : List V → Hp → V → Prop := fun vs H z => ∃ (c m i : Int), AllP [isV (.int c), isV (.int m), isV (.int i)] vs H ∧ ((0 < i) ∧ True) ∧ z = .int (draw c m i)
def sp__law_draw (K : PySem.W.Frag) : Sp := spV  3 (R__law_draw K)
theorem ev__law_draw {K : PySem.W.Frag} {σ : L2.St} {H : Hp} {tr : TA} {E : XK} {c m i : Int} (h : EvAG tr σ H [isV (.int c), isV (.int m), isV (.int i)]) (p0 : 0 < i) : Ev (tCallO (sp__law_draw K) E tr) σ H (.int (draw c m i)) := ev_callG h rfl fun vs H1 e hp => ⟨c, m, i, hp, ⟨p0, trivial⟩, rfl⟩

theorem ok__law_draw (T : Txt K mg) : OkF P wW K mg base CX0 "_law_draw" 1 (sp__law_draw K) := by
  refine OkF.of T.d__law_draw sc__law_draw (fun vs H Q E h => h.1) (fun f cdv A outer s H vs Q E hr h => ?_)
  obtain ⟨-, z, H0, e0, ⟨c, m, i, ⟨v0, r0, rfl, rfl, ⟨v1, r1, rfl, rfl, ⟨v2, r2, rfl, rfl, rfl⟩⟩⟩, ⟨p0, -⟩, rfl⟩, k⟩ := h
  clear e0 H0
  have hu := hu_of hr
  refine ⟨_, (pss_cons (ps_set (i := 3) sc__law_draw.nd rfl (.inl rfl) (pe_tup (pa_cons pe_int (pa_cons pe_int (pa_cons pe_int (pa_cons pe_int (pa_cons pe_int (pa_cons pe_int (pa_cons pe_int (pa_cons pe_int (pa_cons pe_int (pa_cons pe_int (pa_cons pe_int (pa_cons pe_int (pa_cons pe_int (pa_cons pe_int (pa_cons pe_int (pa_cons pe_int pa_nil))))))))))))))))))
 (pss_one (ps_ret (pe_op op_mod (pe_op op_mod (pe_op op_add (pe_op op_mul (pv 0) pe_int) (pe_op op_mul (pv 1) pe_int)) (pe_ix (kix_tup (K := K)) (pv 3) (pe_op op_mod (pv 1) pe_int) (fun _ _ => rfl))) (pv 2))))), ?_⟩
  refine q_asgU (eu_tup (ea_cons ev_c (ea_cons ev_c (ea_cons ev_c (ea_cons ev_c (ea_cons ev_c (ea_cons ev_c (ea_cons ev_c (ea_cons ev_c (ea_cons ev_c (ea_cons ev_c (ea_cons ev_c (ea_cons ev_c (ea_cons ev_c (ea_cons ev_c (ea_cons ev_c (ea_cons ev_c ea_nil)))))))))))))))) (by simp)) fun p H1 hp e1 hP => ?_
  have hT : ST K H1 p (Ints primes) := stof hP
  have h16 : 0 ≤ m % 16 ∧ m % 16 < 16 := ⟨Int.emod_nonneg _ (by decide), Int.emod_lt_of_pos _ (by decide)⟩
  have hpos : 0 < primes.getD (m % 16).toNat 0 := primes_pos _ (by omega)
  have h16a := h16.1
  have h16b : m % 16 < (primes.length : Int) := h16.2
  exact s_ret2 (Ev.is (ev_mod (ev_mod (ev_add (ev_mul (ev_var rfl) ev_c (by walk_at "cmul")) (ev_mul (ev_var rfl) ev_c (by walk_at "cmul"))) (ev_ixT (0 : Int) (ev_var rfl) (by walk_at "fact") (ev_mod (ev_var rfl) ev_c (by walk_at "side")) (by walk_at "side") (by walk_at "side")) (by walk_at "side")) (ev_var rfl) (by walk_at "side")) rfl) (RetV.ex k e1)

def R__law_cell_at (K : PySem.W.Frag) : List V → Hp → V → Prop := fun vs H z => ∃ (ns : List Int) (m : Int), AllP [isL K (Ints ns), isV (.int m)] vs H ∧ ((0 ≤ m) ∧ True) ∧ z = .int (cellAt ns m)
def sp__law_cell_at (K : PySem.W.Frag) : Sp := spV  2 (R__law_cell_at K)
theorem ev__law_cell_at {K : PySem.W.Frag} {σ : L2.St} {H : Hp} {tr : TA} {E : XK} {ns : List Int} {m : Int} (h : EvAG tr σ H [isL K (Ints ns), isV (.int m)]) (p0 : 0 ≤ m) : Ev (tCallO (sp__law_cell_at K) E tr) σ H (.int (cellAt ns m)) := ev_callG h rfl fun vs H1 e hp => ⟨ns, m, hp, ⟨p0, trivial⟩, rfl⟩

theorem ok__law_cell_at (T : Txt K mg) : OkF P wW K mg base CX0 "_law_cell_at" 2 (sp__law_cell_at K) := by
  have O__law_draw : OkF P wW K mg base CX0 "_law_draw" 1 (sp__law_draw K) := ok__law_draw T
  refine OkF.of T.d__law_cell_at sc__law_cell_at (fun vs H Q E h => h.1) (fun f cdv A outer s H vs Q E hr h => ?_)
  obtain ⟨-, z, H0, e0, ⟨ns, m, ⟨v0, r0, rfl, ⟨a0, rfl, q0⟩, ⟨v1, r1, rfl, rfl, rfl⟩⟩, ⟨p0, -⟩, rfl⟩, k⟩ := h
  have h0 := exl e0 q0
  clear q0
  clear e0 H0
  have hu := hu_of hr
  refine ⟨_, (pss_cons (ps_if (pt_cmpR op_lt (pv 1) (pe_callB (kcb_lenQ (K := K)) (by rfl) T.z_len (by decide +kernel) (pa_cons (pv 0) pa_nil)) (nomark _))
  (pss_one (ps_ret (pe_callB cb_abs (by rfl) T.z_abs (by decide +kernel) (pa_cons (pe_ix (kix_list (K := K)) (pv 0) (pv 1) (fun _ _ => rfl)) pa_nil))))
  pss_nil)
 (pss_one (ps_ret (pe_callO O__law_draw hr (by rfl) pass0 (pa_cons (pe_op op_add (pe_callB cb_abs (by rfl) T.z_abs (by decide +kernel) (pa_cons (pe_callB (kcr_sum (K := K) rfl) (by rfl) T.z_sum (by decide +kernel) (pa_cons (pv 0) pa_nil)) pa_nil)) (pe_op op_mul pe_int (pv 1))) (pa_cons (pv 1) (pa_cons pe_int pa_nil))))))), ?_⟩
  refine q_when (et_test (ev_lt (ev_var rfl) (ev_lenQ (q_old (ev_var rfl) (by walk_at "fact"))))) (fun hb H1 e1 => ?_) (fun hb H1 e1 => ?_)
  · have hm : m < (ns.length : Int) := of_decide_eq_true hb
    refine s_ret2 (Ev.is (ev_abs (ev_ixQ (0 : Int) (q_old (ev_var rfl) (by walk_at "fact")) (ev_var rfl) (by walk_at "side") (by walk_at "side"))) ?_) (RetV.ex k e1)
    unfold cellAt
    rw [hb]
    rfl
  · refine s_ret2 (Ev.is (ev__law_draw (ag_V (ev_add (ev_abs (ev_sumV (q_old (ev_var rfl) (by walk_at "fact")))) (ev_mul ev_c (ev_var rfl) (by walk_at "cmul"))) (ag_V (ev_var rfl) (ag_V ev_c ag_nil))) (by walk_at "side")) ?_) (RetV.ex k e1)
    unfold cellAt
    rw [hb]
    rfl

def R__law_digits (K : PySem.W.Frag) : List V → Hp → List V → Prop := fun vs H z => ∃ (ns : List Int) (m n b : Int), AllP [isL K (Ints ns), isV (.int m), isV (.int n), isV (.int b)] vs H ∧ ((0 ≤ m) ∧ (0 ≤ n) ∧ (n ≤ 1000) ∧ (0 < b) ∧ (b < 1073741824) ∧ True) ∧ z = Ints (digits ns m n b)
def sp__law_digits (K : PySem.W.Frag) : Sp := spL  4 (R__law_digits K)
theorem ev__law_digits {K : PySem.W.Frag} {σ : L2.St} {H : Hp} {tr : TA} {E : XK} {ns : List Int} {m n b : Int} (h : EvAG tr σ H [isL K (Ints ns), isV (.int m), isV (.int n), isV (.int b)]) (p0 : 0 ≤ m) (p1 : 0 ≤ n) (p2 : n ≤ 1000) (p3 : 0 < b) (p4 : b < 1073741824) : EvL (tCallO (sp__law_digits K) E tr) σ H (Ints (digits ns m n b)) := el_callG h rfl fun vs H1 e hp => ⟨ns, m, n, b, hp, ⟨p0, p1, p2, p3, p4, trivial⟩, rfl⟩

theorem ok__law_digits (T : Txt K mg) : OkF P wW K mg base CX0 "_law_digits" 3 (sp__law_digits K) := by
  have O__law_cell_at : OkF P wW K mg base CX0 "_law_cell_at" 2 (sp__law_cell_at K) := ok__law_cell_at T
  have O__law_draw : OkF P wW K mg base CX0 "_law_draw" 1 (sp__law_draw K) := ok__law_draw T
  refine OkF.of T.d__law_digits sc__law_digits (fun vs H Q E h => h.1) (fun f cdv A outer s H vs Q E hr h => ?_)
  obtain ⟨-, z, H0, e0, ⟨ns, m, n, b, ⟨v0, r0, rfl, ⟨a0, rfl, q0⟩, ⟨v1, r1, rfl, rfl, ⟨v2, r2, rfl, rfl, ⟨v3, r3, rfl, rfl, rfl⟩⟩⟩⟩, ⟨p0, p1, p2, p3, p4, -⟩, rfl⟩, k⟩ := h
  have h0 := exl e0 q0
  clear q0
  clear e0 H0
  have hu := hu_of hr
  refine ⟨_, (pss_cons (ps_par (i := 5) (j := 6) rfl sc__law_digits.nd rfl rfl (by decide) rfl rfl (pa_cons (pe_callO O__law_cell_at hr (by rfl) pass0 (pa_cons (pv 0) (pa_cons (pv 1) pa_nil))) (pa_cons (pe_lst pa_nil) pa_nil)) (by rfl))
 (pss_cons (ps_set (i := 7) sc__law_digits.nd rfl (.inl rfl) (pe_op op_sub (pv 5) (pe_op op_pow pe_int pe_int)))
 (pss_cons (ps_for PassesOwn.never rfl (pi_range1 rfl T.z_range (pa_cons (pv 2) pa_nil)) (pg_name (i := 9) sc__law_digits.nd rfl (.inl rfl))
  (pss_one (ps_if (pt_cmpR op_ge (pv 5) (pe_op op_pow pe_int pe_int) (nomark _))
  (pss_cons (ps_expr (pe_bm PySem.F.plainAttrs_list PySem.F.slot_list_append PySem.F.type_list_append mt_append (pv 6) (pa_cons (pe_op op_mod (pv 7) (pv 3)) pa_nil)))
 (pss_one (ps_set (i := 7) sc__law_digits.nd rfl (.inl rfl) (pe_op op_fdiv (pv 7) (pv 3)))))
  (pss_cons (ps_set (i := 4) sc__law_digits.nd rfl (.inl rfl) (pe_callO O__law_draw hr (by rfl) pass0 (pa_cons (pe_op op_mul (pe_op op_add (pv 5) (pe_op op_mul pe_int (pv 9))) (pe_op op_add (pe_op op_add (pv 5) (pe_op op_mul pe_int (pv 9))) pe_int)) (pa_cons (pe_op op_add (pe_op op_mod (pv 9) pe_int) pe_int) (pa_cons pe_int pa_nil)))))
 (pss_cons (ps_set (i := 8) sc__law_digits.nd rfl (.inl rfl) (pe_callO O__law_draw hr (by rfl) pass0 (pa_cons (pe_op op_add (pe_op op_mul (pe_op op_add (pv 5) (pe_op op_mul pe_int (pv 9))) (pe_op op_add (pv 5) pe_int)) (pe_op op_mul pe_int (pv 9))) (pa_cons (pe_op op_add (pe_op op_mod (pv 9) pe_int) pe_int) (pa_cons pe_int pa_nil)))))
 (pss_one (ps_expr (pe_bm PySem.F.plainAttrs_list PySem.F.slot_list_append PySem.F.type_list_append mt_append (pv 6) (pa_cons (pe_op op_mod (pe_op op_add (pe_op op_mul (pv 4) pe_int) (pv 8)) (pv 3)) pa_nil)))))))))
 (pss_one (ps_ret (pv 6)))))), ?_⟩
  have hc0 := cellAt_nn ns m
  have hten : (10 : Int) ^ (18 : Int).toNat = 1000000000000000000 := by decide
  refine q_par (ag_V (ev__law_cell_at (ag_L (q_old (ev_var rfl) (by walk_at "fact")) (ag_V (ev_var rfl) ag_nil)) (by walk_at "side")) (ag_NL el_nil ag_nil)) fun v1 v2 H1 e1 h1 h2 => ?_
  obtain rfl := h1
  obtain ⟨p, rfl, hp0, hp⟩ := h2
  refine q_asg (Ev.is (ev_sub (ev_var rfl) (ev_pow ev_c ev_c (by walk_at "cpow"))) (by rw [hten])) fun H2 e2 => ?_
  refine q_for (s := [p]) (i_rng1 (ea_cons (ev_var rfl) ea_nil) (by walk_at "rng")) (by intro a ha; rw [List.mem_singleton.mp ha, e2 _ _ hp]; simp) fun H3 e3 => ⟨fun i σ' H' => ∃ x y z L, σ' = [some (.ref a0), some (.int m), some (.int n), some (.int b), x, some (.int (cellAt ns m)), some (.ref p), some (.int L), y, z] ∧
      (1000000000000000000 ≤ cellAt ns m → L = leftAt (cellAt ns m - 1000000000000000000) b i) ∧ Xb [p] H3 H' ∧ H' p = some (.lst (Ints ((List.range i).map (digit (cellAt ns m) b)))),
    ⟨none, none, none, _, rfl, fun _ => rfl, Xb.refl _ _, e3 _ _ (e2 _ _ hp)⟩, fun i σ' H' ⟨_, _, _, _, _, _, x, _⟩ => x, ?_, ?_⟩
  · rintro i t σ' H4 H5 hi ⟨x, y, z, L, rfl, hL, hx, hq⟩ e5
    have hit : t = i ∧ i < n.toNat := by
      obtain ⟨h1, h2⟩ := List.getElem?_eq_some_iff.mp hi
      rw [List.length_range] at h1
      rw [List.getElem_range] at h2
      exact ⟨h2.symm, h1⟩
    obtain ⟨rfl, hlt⟩ := hit
    have hq5 := e5 _ _ hq
    have hx5 := hx.ex e5
    have step : (List.range (t + 1)).map (digit (cellAt ns m) b) = (List.range t).map (digit (cellAt ns m) b) ++ [digit (cellAt ns m) b t] := by
      rw [List.range_succ, List.map_append]
      rfl
    have hsz : (Ints ((List.range t).map (digit (cellAt ns m) b))).length < 100000 := by
      rw [List.length_map, List.length_map, List.length_range]
      omega
    refine s_if (EvT.is (et_test (ev_ge (ev_var rfl) (ev_pow ev_c ev_c (by walk_at "cpow")))) (by rw [hten])) (fun hb H6 e6 => ?_) (fun hb H6 e6 => ?_)
    · have hbig : 1000000000000000000 ≤ cellAt ns m := of_decide_eq_true hb
      refine q_app (e6 _ _ hq5) (ev_var rfl) (ev_mod (ev_var rfl) (ev_var rfl) (by walk_at "side")) hsz fun H7 e7 => ?_
      refine s_asg (ev_fdiv (ev_var rfl) (ev_var rfl) (by walk_at "cdiv")) fun H8 e8 => ⟨_, _, _, _, rfl, fun _ => by rw [hL hbig]; rfl, ((hx5.ex (e6.trans e7)).upd (by simp)).ex e8, ?_⟩
      rw [step]
      refine e8 _ _ ?_
      rw [upd_same]
      unfold Ints
      rw [List.map_append]
      congr 3
      unfold digit
      rw [if_pos hbig, hL hbig]
      rfl
    · have hsm : ¬ 1000000000000000000 ≤ cellAt ns m := of_decide_eq_false hb
      have hsm' : cellAt ns m < 1000000000000000000 := by omega
      have ht1 : (t : Int) < 1000 := by omega
      refine q_asg (ev__law_draw (ag_V (ev_mul (ev_add (ev_var rfl) (ev_mul ev_c (ev_var rfl) (by walk_at "cmul"))) (ev_add (ev_add (ev_var rfl) (ev_mul ev_c (ev_var rfl) (by walk_at "cmul"))) ev_c) (by walk_at "cmul")) (ag_V (ev_add (ev_mod (ev_var rfl) ev_c (by walk_at "side")) ev_c) (ag_V ev_c ag_nil))) (by walk_at "side")) fun H7 e7 => ?_
      refine q_asg (ev__law_draw (ag_V (ev_add (ev_mul (ev_add (ev_var rfl) (ev_mul ev_c (ev_var rfl) (by walk_at "cmul"))) (ev_add (ev_var rfl) ev_c) (by walk_at "cmul")) (ev_mul ev_c (ev_var rfl) (by walk_at "cmul"))) (ag_V (ev_add (ev_mod (ev_var rfl) ev_c (by walk_at "side")) ev_c) (ag_V ev_c ag_nil))) (by walk_at "side")) fun H8 e8 => ?_
      refine s_app (e8 _ _ (e7 _ _ (e6 _ _ hq5))) (ev_var rfl) (ev_mod (ev_add (ev_mul (ev_var rfl) ev_c (by walk_at "cmul")) (ev_var rfl)) (ev_var rfl) (by walk_at "side")) hsz fun H9 e9 => ⟨_, _, _, _, rfl, fun h => absurd h hsm, (hx5.ex (((e6.trans e7).trans e8).trans e9)).upd (by simp), ?_⟩
      rw [step, upd_same]
      unfold Ints
      rw [List.map_append]
      congr 3
      unfold digit
      rw [if_neg hsm]
      rfl
  · rintro σ' H4 ⟨x, y, z, L, rfl, hL, hx, hq⟩
    have eH : Ex H H4 := Ex.xb0 ((e1.trans e2).trans e3) hx (fun a ha => by rw [List.mem_singleton.mp ha]; exact hp0)
    rw [List.length_range] at hq
    exact s_ret (ev_var rfl) fun H5 e5 => k p H5 hp0 (eH.trans e5) (e5 _ _ hq)

def R__law_pool (K : PySem.W.Frag) : List V → Hp → List V → Prop := fun vs H z => ∃ (ns : List Int) (m : Int), AllP [isL K (Ints ns), isV (.int m)] vs H ∧ ((0 ≤ m) ∧ True) ∧ z = Txts (pool ns m)
def sp__law_pool (K : PySem.W.Frag) : Sp := spL  2 (R__law_pool K)
theorem ev__law_pool {K : PySem.W.Frag} {σ : L2.St} {H : Hp} {tr : TA} {E : XK} {ns : List Int} {m : Int} (h : EvAG tr σ H [isL K (Ints ns), isV (.int m)]) (p0 : 0 ≤ m) : EvL (tCallO (sp__law_pool K) E tr) σ H (Txts (pool ns m)) := el_callG h rfl fun vs H1 e hp => ⟨ns, m, hp, ⟨p0, trivial⟩, rfl⟩

theorem ok__law_pool (T : Txt K mg) : OkF P wW K mg base CX0 "_law_pool" 4 (sp__law_pool K) := by
  have O__law_digits : OkF P wW K mg base CX0 "_law_digits" 3 (sp__law_digits K) := ok__law_digits T
  refine OkF.of T.d__law_pool sc__law_pool (fun vs H Q E h => h.1) (fun f cdv A outer s H vs Q E hr h => ?_)
  obtain ⟨-, z, H0, e0, ⟨ns, m, ⟨v0, r0, rfl, ⟨a0, rfl, q0⟩, ⟨v1, r1, rfl, rfl, rfl⟩⟩, ⟨p0, -⟩, rfl⟩, k⟩ := h
  have h0 := exl e0 q0
  clear q0
  clear e0 H0
  have hu := hu_of hr
  refine ⟨_, (pss_one (ps_ret (pe_lc (own := [("_law_one", 2)]) (g := gName 2) rfl sc__law_pool.nd (kpi_list (K := K) (pe_callO O__law_digits hr (by rfl) pass0 (pa_cons (pv 0) (pa_cons (pv 1) (pa_cons pe_int (pa_cons pe_int pa_nil)))))) (blkOk_by (N := N__law_pool) (sc := defScope s__law_pool) (by decide +kernel)) (fun _ _ _ _ _ => (pg_name (i := 2) sc__law_pool.nd rfl (.inl rfl))) (fun _ _ _ _ _ => pts_nil) (fun _ _ _ _ _ => (pe_ix ix_str pe_str (pv 2) (fun _ _ => rfl)))))), ?_⟩
  have hd := digits_mem (ns := ns) (k := m) (m := 3) (b := 26) (by decide)
  have hd0 : ∀ d ∈ digits ns m 3 26, 0 ≤ d := fun d h => (hd d h).1
  have hd1 : ∀ d ∈ digits ns m 3 26, d < (([97, 98, 99, 100, 101, 102, 103, 104, 105, 106, 107, 108, 109, 110, 111, 112, 113, 114, 115, 116, 117, 118, 119, 120, 121, 122] : Row).length : Int) := fun d h => (hd d h).2
  have hl : (digits ns m 3 26).length ≤ 40000 := by rw [digits_len]; decide
  refine s_retL2 (EvL.is (el_lc1 (i_list (qa_new (ev__law_digits (ag_L (q_old (ev_var rfl) (by walk_at "fact")) (ag_V (ev_var rfl) (ag_V ev_c (ag_V ev_c ag_nil)))) (by walk_at "side") (by walk_at "side") (by walk_at "side") (by walk_at "side") (by walk_at "side")))) (by walk_at "len") (fun _ => wipe_one _ _ _) (fun x1 hx1 H101 e101 => (ev_ixS (ev_cS (l := [97, 98, 99, 100, 101, 102, 103, 104, 105, 106, 107, 108, 109, 110, 111, 112, 113, 114, 115, 116, 117, 118, 119, 120, 121, 122]) (by decide +kernel)) (ev_var rfl) (by walk_at "side") (by walk_at "side") (by walk_at "side")))) ?_) k
  unfold pool Txts
  rw [List.map_map]
  rfl

def R__law_rows (K : PySem.W.Frag) : List V → Hp → List V → Prop := fun vs H z => ∃ (w : Int), AllP [isV (.int w)] vs H ∧ ((0 ≤ w) ∧ (w ≤ 4) ∧ True) ∧ z = Txts (rowsL w)
def sp__law_rows (K : PySem.W.Frag) : Sp := spL  1 (R__law_rows K)
theorem ev__law_rows {K : PySem.W.Frag} {σ : L2.St} {H : Hp} {tr : TA} {E : XK} {w : Int} (h : EvAG tr σ H [isV (.int w)]) (p0 : 0 ≤ w) (p1 : w ≤ 4) : EvL (tCallO (sp__law_rows K) E tr) σ H (Txts (rowsL w)) := el_callG h rfl fun vs H1 e hp => ⟨w, hp, ⟨p0, p1, trivial⟩, rfl⟩

theorem ok__law_rows (T : Txt K mg) : OkF P wW K mg base CX0 "_law_rows" 1 (sp__law_rows K) := by
  refine OkF.of T.d__law_rows sc__law_rows (fun vs H Q E h => h.1) (fun f cdv A outer s H vs Q E hr h => ?_)
  obtain ⟨-, z, H0, e0, ⟨w, ⟨v0, r0, rfl, rfl, rfl⟩, ⟨p0, p1, -⟩, rfl⟩, k⟩ := h
  clear e0 H0
  have hu := hu_of hr
  refine ⟨_, (pss_cons (ps_set (i := 1) sc__law_rows.nd rfl (.inl rfl) (pe_lst pa_nil))
 (pss_cons (ps_for PassesOwn.never rfl (pi_range1 rfl T.z_range (pa_cons (pe_op op_shl pe_int (pv 0)) pa_nil)) (pg_name (i := 2) sc__law_rows.nd rfl (.inr rfl))
  (pss_one (ps_expr (pe_bm PySem.F.plainAttrs_list PySem.F.slot_list_append PySem.F.type_list_append mt_append (pv 1) (pa_cons (kpe_joinQ (K := K) pe_str (pe_lc (own := [("_law_at", 3)]) (g := gName 3) rfl sc__law_rows.nd (pi_range1 rfl T.z_range (pa_cons (pv 0) pa_nil)) (blkOk_by (N := N__law_rows) (sc := defScope s__law_rows) (by decide +kernel)) (fun _ _ _ _ _ => (pg_name (i := 3) sc__law_rows.nd rfl (.inl rfl))) (fun _ _ _ _ _ => pts_nil) (fun _ _ _ _ _ => (pe_ifExp (pt_cmpR op_eq (pe_op op_and (pe_op op_shr (pv 2) (pe_op op_sub (pe_op op_sub (pv 0) pe_int) (pv 3))) pe_int) pe_int (nomark _)) pe_str pe_str)))) pa_nil)))))
 (pss_one (ps_ret (pv 1))))), ?_⟩
  have h2 : (2 : Int) ^ w.toNat ≤ 16 := by
    have : w = 0 ∨ w = 1 ∨ w = 2 ∨ w = 3 ∨ w = 4 := by omega
    rcases this with rfl | rfl | rfl | rfl | rfl <;> decide
  have h2' : (0 : Int) ≤ 2 ^ w.toNat := two_pow_nn _
  have hfl : ∀ n : Nat, (((List.range w.toNat).map (bitC n w)).flatten).length ≤ 100000 := fun n => by
    have := rowN_len w n
    unfold rowN at this
    omega
  refine q_asgL el_nil fun p H1 hp0 e1 hp => ?_
  refine q_for (s := [p]) (i_rng1 (ea_cons (ev_shl ev_c (ev_var rfl) (by walk_at "cpow")) ea_nil) (by walk_at "rng")) (by intro a ha; rw [List.mem_singleton.mp ha, hp]; simp) fun H2 e2 => ⟨fun i σ' H' => ∃ x y, σ' = [some (.int w), some (.ref p), x, y] ∧ Xb [p] H2 H' ∧ H' p = some (.lst (Txts ((List.range i).map (rowN w)))),
    ⟨none, none, rfl, Xb.refl _ _, e2 _ _ hp⟩, fun i σ' H' ⟨_, _, _, x, _⟩ => x, ?_, ?_⟩
  · rintro i t σ' H3 H4 hi ⟨x, y, rfl, hx, hq⟩ e4
    have hit : t = i ∧ i < (1 * 2 ^ w.toNat : Int).toNat := by
      obtain ⟨h1, h2⟩ := List.getElem?_eq_some_iff.mp hi
      rw [List.length_range] at h1
      rw [List.getElem_range] at h2
      exact ⟨h2.symm, h1⟩
    obtain ⟨rfl, hlt⟩ := hit
    have hfl' := hfl t
    refine s_app (e4 _ _ hq) (ev_var rfl) (Ev.is (ev_joinQ (ev_cS lit_nil) (q_new (el_lc1 (i_rng1 (ea_cons (ev_var rfl) ea_nil) (by walk_at "rng")) (by walk_at "len") (fun _ => wipe_one _ _ _) (fun x2 hx2 H102 e102 => (ev_ifS (et_test (ev_eqI (ev_and (ev_shr (ev_var rfl) (ev_sub (ev_sub (ev_var rfl) ev_c) (ev_var rfl)) (by walk_at "side")) ev_c) ev_c)) (fun hb3 => (ev_cS lit_o)) (fun hb3 => (ev_cS lit_dot)))))) (by walk_at "len")) rfl) (by simp only [List.length_map, List.length_range]; omega) fun H5 e5 => ⟨_, _, rfl, ((hx.ex e4).ex e5).upd (by simp), ?_⟩
    rw [upd_same, List.range_succ, List.map_append]
    unfold Txts
    rw [List.map_append]
    rfl
  · rintro σ' H3 ⟨x, y, rfl, hx, hq⟩
    have eH : Ex H H3 := Ex.xb0 (e1.trans e2) hx (fun a ha => by rw [List.mem_singleton.mp ha]; exact hp0)
    rw [List.length_range] at hq
    exact s_ret (ev_var rfl) fun H5 e5 => k p H5 hp0 (eH.trans e5) (e5 _ _ hq)

def R__law_reader (K : PySem.W.Frag) : List V → Hp → List (Key × V) → Prop := fun vs H z => ∃ (ns : List Int) (m : Int) (pl : List Row) (least : Int), AllP [isL K (Ints ns), isV (.int m), isL K (Txts pl), isV (.int least)] vs H ∧ ((0 ≤ m) ∧ (pl.length = 3) ∧ (1 ≤ least) ∧ (least ≤ 4) ∧ True) ∧ z = DS (reader ns m pl least)
def sp__law_reader (K : PySem.W.Frag) : Sp := spD  4 (R__law_reader K)
theorem ev__law_reader {K : PySem.W.Frag} {σ : L2.St} {H : Hp} {tr : TA} {E : XK} {ns : List Int} {m : Int} {pl : List Row} {least : Int} (h : EvAG tr σ H [isL K (Ints ns), isV (.int m), isL K (Txts pl), isV (.int least)]) (p0 : 0 ≤ m) (p1 : pl.length = 3) (p2 : 1 ≤ least) (p3 : least ≤ 4) : EvD (tCallO (sp__law_reader K) E tr) σ H (DS (reader ns m pl least)) := ed_callG h rfl fun vs H1 e hp => ⟨ns, m, pl, least, hp, ⟨p0, p1, p2, p3, trivial⟩, rfl⟩

theorem ok__law_reader (T : Txt K mg) : OkF P wW K mg base CX0 "_law_reader" 4 (sp__law_reader K) := by
  have O__law_digits : OkF P wW K mg base CX0 "_law_digits" 3 (sp__law_digits K) := ok__law_digits T
  have O__law_rows : OkF P wW K mg base CX0 "_law_rows" 1 (sp__law_rows K) := ok__law_rows T
  refine OkF.of T.d__law_reader sc__law_reader (fun vs H Q E h => h.1) (fun f cdv A outer s H vs Q E hr h => ?_)
  obtain ⟨-, z, H0, e0, ⟨ns, m, pl, least, ⟨v0, r0, rfl, ⟨a0, rfl, q0⟩, ⟨v1, r1, rfl, rfl, ⟨v2, r2, rfl, ⟨a2, rfl, q2⟩, ⟨v3, r3, rfl, rfl, rfl⟩⟩⟩⟩, ⟨p0, p1, p2, p3, -⟩, rfl⟩, k⟩ := h
  have h0 := exl e0 q0
  clear q0
  have h2 := exl e0 q2
  clear q2
  clear e0 H0
  have hu := hu_of hr
  refine ⟨_, (pss_cons (ps_par (i := 5) (j := 6) rfl sc__law_reader.nd rfl rfl (by decide) rfl rfl (pa_cons (pe_callO O__law_digits hr (by rfl) pass0 (pa_cons (pv 0) (pa_cons (pv 1) (pa_cons pe_int (pa_cons pe_int pa_nil))))) (pa_cons pe_dnewK pa_nil)) (by rfl))
 (pss_cons (ps_set (i := 10) sc__law_reader.nd rfl (.inl rfl) (pe_op op_add (pv 3) (pe_op op_mod (pe_ix (kix_list (K := K)) (pv 5) pe_int (fun _ _ => rfl)) (pe_op op_sub pe_int (pv 3)))))
 (pss_cons (ps_set (i := 9) sc__law_reader.nd rfl (.inl rfl) (pe_slice (ksl_list (K := K)) (pe_callO O__law_rows hr (by rfl) pass0 (pa_cons (pv 10) pa_nil)) po_none (po_some (pe_un un_neg pe_int))))
 (pss_cons (ps_set (i := 4) sc__law_reader.nd rfl (.inl rfl) (pe_op op_mod (pe_op op_fdiv (pe_ix (kix_list (K := K)) (pv 5) pe_int (fun _ _ => rfl)) pe_int) (pe_callB (kcb_lenQ (K := K)) (by rfl) T.z_len (by decide +kernel) (pa_cons (pv 9) pa_nil))))
 (pss_cons (ps_for PassesOwn.never rfl (kpi_zip (K := K) (by rfl) T.z_zip (pa_cons (pe_slice (ksl_list (K := K)) (pv 5) (po_some pe_int) po_none) (pa_cons (pe_op op_cat (pe_slice (ksl_list (K := K)) (pv 9) (po_some (pv 4)) po_none) (pe_slice (ksl_list (K := K)) (pv 9) po_none (po_some (pv 4)))) pa_nil))) (pg_tup rfl (pgs_cons (pg_name (i := 7) sc__law_reader.nd rfl (.inl rfl)) (pgs_cons (pg_name (i := 8) sc__law_reader.nd rfl (.inl rfl)) pgs_nil)))
  (pss_one (ps_if (pt_cmpR op_lt (pe_op op_mod (pv 7) pe_int) (pe_op op_add pe_int (pe_op op_mod (pe_op op_fdiv (pe_ix (kix_list (K := K)) (pv 5) pe_int (fun _ _ => rfl)) pe_int) pe_int)) (nomark _))
  (pss_one (ps_dput hu (pv 6) (pv 8) (pe_ix (kix_list (K := K)) (pv 2) (pe_op op_mod (pe_op op_fdiv (pv 7) pe_int) pe_int) (fun _ _ => rfl)) rfl))
  pss_nil)))
 (pss_cons (ps_if (pt_cmpR (op_eq_dict hr.units0) (pv 6) pe_dnewK (nomark _))
  (pss_one (ps_dput hu (pv 6) (pe_ix (kix_list (K := K)) (pv 9) (pv 4) (fun _ _ => rfl)) (pe_ix (kix_list (K := K)) (pv 2) pe_int (fun _ _ => rfl)) rfl))
  pss_nil)
 (pss_one (ps_ret (pv 6))))))))), ?_⟩
  refine q_par (ag_NL (ev__law_digits (ag_L (q_old (ev_var rfl) (by walk_at "fact")) (ag_V (ev_var rfl) (ag_V ev_c (ag_V ev_c ag_nil)))) (by walk_at "side") (by walk_at "side") (by walk_at "side") (by walk_at "side") (by walk_at "side")) (ag_ND ed_new ag_nil)) fun v1 v2 H1 e1 g1 g2 => ?_
  obtain ⟨p, rfl, hp0, hp⟩ := g1
  obtain ⟨d, rfl, hd0, hd⟩ := g2
  unfold reader at k
  have hlen : (digits ns m 17 1000).length = 17 := digits_len _ _ _ _
  generalize digits ns m 17 1000 = ds at *
  have hw := rdW_range (ds := ds) p2 p3
  have hw0 : 0 ≤ rdW ds least := by omega
  have hw4 := hw.2
  have hr := rdRows_len (ds := ds) p2 p3
  have hb := rdBegin_range (ds := ds) p2 p3
  have hb0 := hb.1
  have hb1 := hb.2
  have hpd : p ≠ d := ne_of hp hd (by intro z; cases z)
  refine q_asg (Ev.is (ev_add (ev_var rfl) (ev_mod (ev_ixQ (0 : Int) (q_old (ev_var rfl) (by walk_at "fact")) ev_c (by walk_at "side") (by walk_at "side")) (ev_sub ev_c (ev_var rfl)) (by walk_at "side"))) (show _ = V.int (rdW ds least) from rfl)) fun H2 e2 => ?_
  refine q_asgL (EvL.is (el_slQ (q_new (ev__law_rows (ag_V (ev_var rfl) ag_nil) (by walk_at "side") (by walk_at "side"))) eo_none (eo_some (ev_neg ev_c))) (show _ = Txts (rdRows ds least) from rfl)) fun rr H3 hr0 e3 hrr => ?_
  have hrd : rr ≠ d := ne_new (fresh_back e2 hr0) hd
  have hpos : 0 < ((rdRows ds least).length : Int) := by omega
  refine q_asg (Ev.is (ev_mod (ev_fdiv (ev_ixQ (0 : Int) (q_old (ev_var rfl) (by walk_at "fact")) ev_c (by walk_at "side") (by walk_at "side")) ev_c (by walk_at "cdiv")) (ev_lenQ (q_old (ev_var rfl) (by walk_at "fact"))) (by walk_at "side")) (show _ = V.int (rdBegin ds least) from rfl)) fun H4 e4 => ?_
  have hsum : (cutG (rdRows ds least) (some (rdBegin ds least)) none).length + (cutG (rdRows ds least) none (some (rdBegin ds least))).length ≤ 100000 := by
    rw [cutG_from _ hb0, cutG_to _ hb0, List.length_drop, List.length_take]
    omega
  have hd4 : H4 d = some (.dK []) := e4 _ _ (e3 _ _ (e2 _ _ hd))
  refine q_for (s := [d]) (i_zip (qa_new (el_slQ (q_old (ev_var rfl) (by walk_at "fact")) (eo_some ev_c) eo_none)) (qa_new (el_catH (h_new (el_slQ (q_old (ev_var rfl) (by walk_at "fact")) (eo_some (ev_var rfl)) eo_none)) (h_new (el_slQ (q_old (ev_var rfl) (by walk_at "fact")) eo_none (eo_some (ev_var rfl)))) (by walk_at "side")))) (by intro a ha; rw [List.mem_singleton.mp ha, hd4]; simp) fun H5 e5 => ⟨fun i σ' H' => ∃ x y, σ' = [some (.ref a0), some (.int m), some (.ref a2), some (.int least), some (.int (rdBegin ds least)), some (.ref p), some (.ref d), x, y, some (.ref rr), some (.int (rdW ds least))] ∧
      Xb [d] H5 H' ∧ H' d = some (.dK (DS (((rdZip ds least).take i).foldl (rdStep ds pl) []))) ∧ (((rdZip ds least).take i).foldl (rdStep ds pl) []).length ≤ i,
    ⟨none, none, rfl, Xb.refl _ _, e5 _ _ hd4, Nat.le_refl _⟩, fun i σ' H' ⟨_, _, _, x, _⟩ => x, ?_, ?_⟩
  · rintro i ⟨num, row⟩ σ' H6 H7 hi ⟨x, y, rfl, hx, hq, hl⟩ e7
    have hi : (rdZip ds least)[i]? = some (num, row) := hi
    have hmem := List.mem_of_getElem? hi
    have hilt := (List.getElem?_eq_some_iff.mp hi).1
    have hz17 : (rdZip ds least).length ≤ 17 := by
      have := List.length_zip (l₁ := cutG ds (some 1) none) (l₂ := cutG (rdRows ds least) (some (rdBegin ds least)) none ++ cutG (rdRows ds least) none (some (rdBegin ds least)))
      unfold rdZip
      rw [this, cutG_from _ (by decide), List.length_drop]
      omega
    have stp : ((rdZip ds least).take (i + 1)).foldl (rdStep ds pl) [] = rdStep ds pl (((rdZip ds least).take i).foldl (rdStep ds pl) []) (num, row) := by
      rw [List.take_succ, hi, List.foldl_append]
      rfl
    have a2d : a2 ≠ d := h2.ne hd0
    have hx7 := hx.ex e7
    have hpl7 : SL K H7 a2 (Txts pl) := hx7.l (nin1 a2d) (by walk_at "fact")
    have hds7 : SL K H7 p (Ints ds) := hx7.l (nin1 hpd) (by walk_at "fact")
    refine s_when (et_test (ev_lt (ev_mod (ev_var rfl) ev_c (by walk_at "side")) (ev_add ev_c (ev_mod (ev_fdiv (ev_ixQ (0 : Int) (q_old (ev_var rfl) (by walk_at "fact")) ev_c (by walk_at "side") (by walk_at "side")) ev_c (by walk_at "cdiv")) ev_c (by walk_at "side"))))) (fun hb H8 e8 => ?_) (fun hb H8 e8 => ?_)
    · have h3 := Int.emod_nonneg (num / 5) (show (3 : Int) ≠ 0 by decide)
      have h4 := Int.emod_lt_of_pos (num / 5) (show (0 : Int) < 3 by decide)
      refine s_dput (e8 _ _ (e7 _ _ hq)) (ev_ixQ ([] : Row) (q_old (ev_var rfl) (by walk_at "fact")) (ev_mod (ev_fdiv (ev_var rfl) ev_c (by walk_at "cdiv")) ev_c (by walk_at "side")) (by walk_at "side") (by walk_at "side")) (ev_var rfl) (ev_var rfl) (by omega) fun H9 e9 => ⟨_, _, rfl, ((hx7.ex e8).ex e9).upd (by simp), ?_, ?_⟩
      · rw [upd_same, stp, rdStep_T hb]
      · rw [stp, rdStep_T hb]
        exact Nat.le_trans (put_len _ _ _) (by omega)
    · refine ⟨_, _, rfl, hx7.ex e8, ?_, ?_⟩
      · rw [stp, rdStep_F hb]
        exact e8 _ _ (e7 _ _ hq)
      · rw [stp, rdStep_F hb]
        omega
  · rintro σ' H6 ⟨x, y, rfl, hx, hq, hl⟩
    have hq : H6 d = some (.dK (DS (((rdZip ds least).take (rdZip ds least).length).foldl (rdStep ds pl) []))) := hq
    rw [List.take_length] at hq
    have hl : (((rdZip ds least).take (rdZip ds least).length).foldl (rdStep ds pl) []).length ≤ (rdZip ds least).length := hl
    rw [List.take_length] at hl
    have hz17 : (rdZip ds least).length ≤ 17 := by
      have := List.length_zip (l₁ := cutG ds (some 1) none) (l₂ := cutG (rdRows ds least) (some (rdBegin ds least)) none ++ cutG (rdRows ds least) none (some (rdBegin ds least)))
      unfold rdZip
      rw [this, cutG_from _ (by decide), List.length_drop]
      omega
    have a2d : a2 ≠ d := h2.ne hd0
    have hx' : Xb [d] H1 H6 := Xb.ex0 (((e2.trans e3).trans e4).trans e5) hx
    have hpl6 : SL K H6 a2 (Txts pl) := hx'.l (nin1 a2d) (by walk_at "fact")
    have hrr6 : SL K H6 rr (Txts (rdRows ds least)) := (Xb.ex0 (e4.trans e5) hx).l (nin1 hrd) (slof hrr)
    have eH : Ex H H6 := Ex.xb0 e1 hx' (fun a ha => by rw [List.mem_singleton.mp ha]; exact hd0)
    refine q_when (et_test (ev_eqD (g_Dold (ev_var rfl) (by walk_at "facth")) (g_D ed_newS))) (fun hb H7 e7 => ?_) (fun hb H7 e7 => ?_)
    · refine q_dput (e7 _ _ hq) (ev_ixQ ([] : Row) (q_old (ev_var rfl) (by walk_at "fact")) ev_c (by walk_at "side") (by walk_at "side")) (ev_var rfl) (ev_ixQ ([] : Row) (q_old (ev_var rfl) (by walk_at "fact")) (ev_var rfl) (by walk_at "side") (by walk_at "side")) (by omega) fun H8 e8 => ?_
      refine s_ret (ev_var rfl) fun H9 e9 => k d H9 hd0 (Ex.xb0 eH ((Xb.upd (s := [d]) (p := d) (Ex.xb (e7.trans e8)) (by simp)).ex e9) (fun a ha => by rw [List.mem_singleton.mp ha]; exact hd0)) (e9 _ _ ?_)
      have hb : dEq (rdLoop ds pl least) [] = true := hb
      rw [upd_same]
      unfold rdr
      rw [if_pos hb]
      rfl
    · refine s_ret (ev_var rfl) fun H8 e8 => k d H8 hd0 ((eH.trans e7).trans e8) (e8 _ _ (e7 _ _ ?_))
      rw [hq]
      unfold rdr
      rw [if_neg (by rw [show dEq (rdLoop ds pl least) [] = false from hb]; decide)]
      rfl

def R__law_tape (K : PySem.W.Frag) : List V → Hp → List V → Prop := fun vs H z => ∃ (ns : List Int) (m : Int) (w n : Int), AllP [isL K (Ints ns), isV (.int m), isV (.int w), isV (.int n)] vs H ∧ ((0 ≤ m) ∧ (0 ≤ w) ∧ (w ≤ 4) ∧ (0 ≤ n) ∧ (n ≤ 100) ∧ True) ∧ z = Txts (tapeL ns m w n)
def sp__law_tape (K : PySem.W.Frag) : Sp := spL  4 (R__law_tape K)
theorem ev__law_tape {K : PySem.W.Frag} {σ : L2.St} {H : Hp} {tr : TA} {E : XK} {ns : List Int} {m : Int} {w n : Int} (h : EvAG tr σ H [isL K (Ints ns), isV (.int m), isV (.int w), isV (.int n)]) (p0 : 0 ≤ m) (p1 : 0 ≤ w) (p2 : w ≤ 4) (p3 : 0 ≤ n) (p4 : n ≤ 100) : EvL (tCallO (sp__law_tape K) E tr) σ H (Txts (tapeL ns m w n)) := el_callG h rfl fun vs H1 e hp => ⟨ns, m, w, n, hp, ⟨p0, p1, p2, p3, p4, trivial⟩, rfl⟩

theorem ok__law_tape (T : Txt K mg) : OkF P wW K mg base CX0 "_law_tape" 4 (sp__law_tape K) := by
  have O__law_digits : OkF P wW K mg base CX0 "_law_digits" 3 (sp__law_digits K) := ok__law_digits T
  have O__law_rows : OkF P wW K mg base CX0 "_law_rows" 1 (sp__law_rows K) := ok__law_rows T
  refine OkF.of T.d__law_tape sc__law_tape (fun vs H Q E h => h.1) (fun f cdv A outer s H vs Q E hr h => ?_)
  obtain ⟨-, z, H0, e0, ⟨ns, m, w, n, ⟨v0, r0, rfl, ⟨a0, rfl, q0⟩, ⟨v1, r1, rfl, rfl, ⟨v2, r2, rfl, rfl, ⟨v3, r3, rfl, rfl, rfl⟩⟩⟩⟩, ⟨p0, p1, p2, p3, p4, -⟩, rfl⟩, k⟩ := h
  have h0 := exl e0 q0
  clear q0
  clear e0 H0
  have hu := hu_of hr
  refine ⟨_, (pss_cons (ps_par (i := 7) (j := 6) rfl sc__law_tape.nd rfl rfl (by decide) rfl rfl (pa_cons (pe_callO O__law_rows hr (by rfl) pass0 (pa_cons (pv 2) pa_nil)) (pa_cons (pe_lst pa_nil) pa_nil)) (by rfl))
 (pss_cons (ps_for PassesOwn.never rfl (kpi_list (K := K) (pe_callO O__law_digits hr (by rfl) pass0 (pa_cons (pv 0) (pa_cons (pv 1) (pa_cons (pv 3) (pa_cons pe_int pa_nil)))))) (pg_name (i := 4) sc__law_tape.nd rfl (.inl rfl))
  (pss_cons (ps_set (i := 5) sc__law_tape.nd rfl (.inl rfl) (pe_op op_or (pe_op op_mod (pe_op op_fdiv (pv 4) pe_int) pe_int) (pe_op op_mul (pe_op op_mod (pe_op op_fdiv (pv 4) pe_int) pe_int) pe_int)))
 (pss_one (ps_expr (pe_bm PySem.F.plainAttrs_list PySem.F.slot_list_append PySem.F.type_list_append mt_append (pv 6) (pa_cons (pe_ix (kix_list (K := K)) (pv 7) (pe_op op_mod (pe_op op_and (pe_op op_mod (pv 4) pe_int) (pv 5)) (pe_callB (kcb_lenQ (K := K)) (by rfl) T.z_len (by decide +kernel) (pa_cons (pv 7) pa_nil))) (fun _ _ => rfl)) pa_nil))))))
 (pss_one (ps_ret (pv 6))))), ?_⟩
  have hpos := rowsL_pos w
  refine q_par (ag_NL (ev__law_rows (ag_V (ev_var rfl) ag_nil) (by walk_at "side") (by walk_at "side")) (ag_NL el_nil ag_nil)) fun v1 v2 H1 e1 g1 g2 => ?_
  obtain ⟨rr, rfl, hr0, hrr⟩ := g1
  obtain ⟨p, rfl, hp0, hp⟩ := g2
  have hrp : rr ≠ p := ne_of hrr hp (by
    intro z
    have z := congrArg List.length (HO.lst.inj z)
    have z : (Txts (rowsL w)).length = 0 := z
    unfold Txts at z
    rw [List.length_map] at z
    omega)
  refine q_for (s := [p]) (i_list (qa_new (ev__law_digits (ag_L (q_old (ev_var rfl) (by walk_at "fact")) (ag_V (ev_var rfl) (ag_V (ev_var rfl) (ag_V ev_c ag_nil)))) (by walk_at "side") (by walk_at "side") (by walk_at "side") (by walk_at "side") (by walk_at "side")))) (by intro a ha; rw [List.mem_singleton.mp ha, hp]; simp) fun H2 e2 => ⟨fun i σ' H' => ∃ x y, σ' = [some (.ref a0), some (.int m), some (.int w), some (.int n), x, y, some (.ref p), some (.ref rr)] ∧
      Xb [p] H2 H' ∧ H' p = some (.lst (Txts (((digits ns m n 4096).take i).map (tapeRow w)))),
    ⟨none, none, rfl, Xb.refl _ _, e2 _ _ hp⟩, fun i σ' H' ⟨_, _, _, x, _⟩ => x, ?_, ?_⟩
  · rintro i d σ' H3 H4 hi ⟨x, y, rfl, hx, hq⟩ e4
    have hx4 := hx.ex e4
    have hil := (List.getElem?_eq_some_iff.mp hi).1
    rw [digits_len] at hil
    have hrr4 : SL K H4 rr (Txts (rowsL w)) := hx4.l (nin1 hrp) (by walk_at "fact")
    refine q_asg (ev_or (ev_mod (ev_fdiv (ev_var rfl) ev_c (by walk_at "cdiv")) ev_c (by walk_at "side")) (ev_mul (ev_mod (ev_fdiv (ev_var rfl) ev_c (by walk_at "cdiv")) ev_c (by walk_at "side")) ev_c (by walk_at "cmul"))) fun H5 e5 => ?_
    have hix := Int.emod_nonneg (Builtin.bitAnd (d % 16) (Builtin.bitOr (d / 16 % 16) (d / 256 % 2 * 15))) (show ((rowsL w).length : Int) ≠ 0 by omega)
    have hix2 := Int.emod_lt_of_pos (Builtin.bitAnd (d % 16) (Builtin.bitOr (d / 16 % 16) (d / 256 % 2 * 15))) hpos
    refine s_app (e5 _ _ (e4 _ _ hq)) (ev_var rfl) (ev_ixQ ([] : Row) (q_old (ev_var rfl) (by walk_at "fact")) (ev_mod (ev_and (ev_mod (ev_var rfl) ev_c (by walk_at "side")) (ev_var rfl)) (ev_lenQ (q_old (ev_var rfl) (by walk_at "fact"))) (by walk_at "side")) (by walk_at "side") (by walk_at "side")) (by unfold Txts; simp only [List.length_map, List.length_take, digits_len]; omega) fun H6 e6 => ⟨_, _, rfl, ((hx4.ex e5).ex e6).upd (by simp), ?_⟩
    rw [upd_same, List.take_succ, hi, List.map_append]
    unfold Txts
    rw [List.map_append]
    rfl
  · rintro σ' H3 ⟨x, y, rfl, hx, hq⟩
    have eH : Ex H H3 := Ex.xb0 (e1.trans e2) hx (fun a ha => by rw [List.mem_singleton.mp ha]; exact hp0)
    have hq : H3 p = some (.lst (Txts (((digits ns m n 4096).take (digits ns m n 4096).length).map (tapeRow w)))) := hq
    rw [List.take_length] at hq
    exact s_ret (ev_var rfl) fun H5 e5 => k p H5 hp0 (eH.trans e5) (e5 _ _ hq)

def R__law_width (K : PySem.W.Frag) : List V → Hp → V → Prop := fun vs H z => ∃ (rd : Dic) (w : Nat), AllP [isD (DS rd)] vs H ∧ ((RdOk rd w) ∧ True) ∧ z = .int (w : Int)
def sp__law_width (K : PySem.W.Frag) : Sp := spV  1 (R__law_width K)
theorem ev__law_width {K : PySem.W.Frag} {σ : L2.St} {H : Hp} {tr : TA} {E : XK} {rd : Dic} {w : Nat} (h : EvAG tr σ H [isD (DS rd)]) (p0 : RdOk rd w) : Ev (tCallO (sp__law_width K) E tr) σ H (.int (w : Int)) := ev_callG h rfl fun vs H1 e hp => ⟨rd, w, hp, ⟨p0, trivial⟩, rfl⟩

theorem ok__law_width (T : Txt K mg) : OkF P wW K mg base CX0 "_law_width" 1 (sp__law_width K) := by
  refine OkF.of T.d__law_width sc__law_width (fun vs H Q E h => h.1) (fun f cdv A outer s H vs Q E hr h => ?_)
  obtain ⟨-, z, H0, e0, ⟨rd, w, ⟨v0, r0, rfl, ⟨a0, rfl, q0⟩, rfl⟩, ⟨p0, -⟩, rfl⟩, k⟩ := h
  have h0 := exh e0 q0
  clear q0
  clear e0 H0
  have hu := hu_of hr
  refine ⟨_, (pss_one (ps_ret (pe_callB cb_lenS (by rfl) T.z_len (by decide +kernel) (pa_cons (pe_ix (kix_list (K := K)) (pe_callTy (call_list_dK rfl) (by rfl) T.z_list (by decide +kernel) (pa_cons (pv 0) pa_nil)) pe_int (fun _ _ => rfl)) pa_nil)))), ?_⟩
  obtain ⟨p, rs, erd⟩ : ∃ p rs, rd = p :: rs := by
    cases rd with
    | nil => exact absurd rfl p0.ne
    | cons p rs => exact ⟨p, rs, rfl⟩
  have hp1 : p.1.length = w := rd_len p0 (by rw [erd]; exact List.mem_cons_self)
  have hw4 := p0.w4
  have h1 : ((rd.map (·.1)).getD (0 : Int).toNat []).length = w := by rw [erd]; exact hp1
  have h2 : ((rd.map (·.1)).getD (0 : Int).toNat []).length ≤ 100000 := by omega
  have h3 : (0 : Int) < ((rd.map (·.1)).length : Int) := by rw [List.length_map, erd, List.length_cons]; omega
  exact s_ret2 (Ev.is (ev_lenS (ev_ixQ ([] : Row) (q_new (el_keys (g_Dold (ev_var rfl) (by walk_at "facth")))) ev_c (by walk_at "side") (by walk_at "side")) (by walk_at "side")) (by rw [h1])) k

def R_is_row (K : PySem.W.Frag) : List V → Hp → V → Prop := fun vs H z => ∃ (r : Row) (w : Int), AllP [isV (VS r), isV (.int w)] vs H ∧ ((r.length ≤ 40000) ∧ True) ∧ z = .bl (isRow r w)
def sp_is_row (K : PySem.W.Frag) : Sp := spV  2 (R_is_row K)
theorem ev_is_row {K : PySem.W.Frag} {σ : L2.St} {H : Hp} {tr : TA} {E : XK} {r : Row} {w : Int} (h : EvAG tr σ H [isV (VS r), isV (.int w)]) (p0 : r.length ≤ 40000) : Ev (tCallO (sp_is_row K) E tr) σ H (.bl (isRow r w)) := ev_callG h rfl fun vs H1 e hp => ⟨r, w, hp, ⟨p0, trivial⟩, rfl⟩

theorem ok_is_row (T : Txt K mg) : OkF P wW K mg base CX0 "is_row" 1 (sp_is_row K) := by
  refine OkF.of T.d_is_row sc_is_row (fun vs H Q E h => h.1) (fun f cdv A outer s H vs Q E hr h => ?_)
  obtain ⟨-, z, H0, e0, ⟨r, w, ⟨v0, r0, rfl, rfl, ⟨v1, r1, rfl, rfl, rfl⟩⟩, ⟨p0, -⟩, rfl⟩, k⟩ := h
  clear e0 H0
  have hu := hu_of hr
  refine ⟨_, (pss_one (ps_ret (pe_and (pe_callB (kcall_isi (K := K)) (by rfl) T.z_isinstance (by decide +kernel) (pa_cons (pv 0) (pa_cons (pe_bltn (v := .ty "str") (by rfl) T.z_str (by decide +kernel) rfl) pa_nil))) (pe_and (pe_cmpR op_eq (pe_callB cb_lenS (by rfl) T.z_len (by decide +kernel) (pa_cons (pv 0) pa_nil)) (pv 1) (nomark _)) (pe_one (pe_callB (kcr_all (K := K) rfl) (by rfl) T.z_all (by decide +kernel) (pa_cons (pe_lc (own := [("sign", 2)]) (g := gName 2) rfl sc_is_row.nd (pi_str (pv 0)) (blkOk_by (N := N_is_row) (sc := defScope s_is_row) (by decide +kernel)) (fun _ _ _ _ _ => (pg_name (i := 2) sc_is_row.nd rfl (.inl rfl))) (fun _ _ _ _ _ => pts_nil) (fun _ _ _ _ _ => (pe_cmpR (kop_in (K := K)) (pv 2) (pe_tup (pa_cons (pe_gs (by rfl) T.c_HOLE) (pa_cons (pe_gs (by rfl) T.c_BLANK) pa_nil))) rfl))) pa_nil))))))), ?_⟩
  exact s_ret2 (Ev.is (ev_andV (ev_isiS (b := true) (ev_var rfl) ev_c (by decide +kernel)) (fun hb8 => (ev_andV (ev_eqI (ev_lenS (ev_var rfl) (by walk_at "side")) (ev_var rfl)) (fun hb7 => (ev_allQ (q_new (el_lc1 (i_str (ev_var rfl)) (by walk_at "len") (fun _ => wipe_one _ _ _) (fun x6 hx6 H106 e106 => (ev_inTS (l := [[111], [46]]) (ev_var rfl) (eu_tup (ea_cons ev_c (ea_cons ev_c ea_nil)) (by simp))))))))))) rfl) k

def R_is_letter (K : PySem.W.Frag) : List V → Hp → V → Prop := fun vs H z => ∃ (c : Nat), AllP [isV (VS [c])] vs H ∧ (True) ∧ z = .bl (isLet [c])
def sp_is_letter (K : PySem.W.Frag) : Sp := spV  1 (R_is_letter K)
theorem ev_is_letter {K : PySem.W.Frag} {σ : L2.St} {H : Hp} {tr : TA} {E : XK} {c : Nat} (h : EvAG tr σ H [isV (VS [c])])  : Ev (tCallO (sp_is_letter K) E tr) σ H (.bl (isLet [c])) := ev_callG h rfl fun vs H1 e hp => ⟨c, hp, trivial, rfl⟩

theorem ok_is_letter (T : Txt K mg) : OkF P wW K mg base CX0 "is_letter" 1 (sp_is_letter K) := by
  refine OkF.of T.d_is_letter sc_is_letter (fun vs H Q E h => h.1) (fun f cdv A outer s H vs Q E hr h => ?_)
  obtain ⟨-, z, H0, e0, ⟨c, ⟨v0, r0, rfl, rfl, rfl⟩, -, rfl⟩, k⟩ := h
  clear e0 H0
  have hu := hu_of hr
  refine ⟨_, (pss_one (ps_ret (pe_and (pe_callB (kcall_isi (K := K)) (by rfl) T.z_isinstance (by decide +kernel) (pa_cons (pv 0) (pa_cons (pe_bltn (v := .ty "str") (by rfl) T.z_str (by decide +kernel) rfl) pa_nil))) (pe_and (pe_cmpR op_eq (pe_callB cb_lenS (by rfl) T.z_len (by decide +kernel) (pa_cons (pv 0) pa_nil)) pe_int (nomark _)) (pe_one (pe_cmpR op_inC (pv 0) (pe_gs (by rfl) T.c_LETTERS) rfl)))))), ?_⟩
  exact s_ret2 (Ev.is (ev_andV (ev_isiS (b := true) (ev_var rfl) ev_c (by decide +kernel)) (fun hb10 => (ev_andV (ev_eqI (ev_lenS (ev_var rfl) (by walk_at "side")) ev_c) (fun hb9 => (ev_inC (ev_var rfl) ev_c))))) rfl) k

def R_width_of (K : PySem.W.Frag) : List V → Hp → V → Prop := fun vs H z => ∃ (rd : Dic) (w : Nat), AllP [isD (DS rd)] vs H ∧ ((RdOk rd w) ∧ True) ∧ z = .int (w : Int)
def sp_width_of (K : PySem.W.Frag) : Sp := spV  1 (R_width_of K)
theorem ev_width_of {K : PySem.W.Frag} {σ : L2.St} {H : Hp} {tr : TA} {E : XK} {rd : Dic} {w : Nat} (h : EvAG tr σ H [isD (DS rd)]) (p0 : RdOk rd w) : Ev (tCallO (sp_width_of K) E tr) σ H (.int (w : Int)) := ev_callG h rfl fun vs H1 e hp => ⟨rd, w, hp, ⟨p0, trivial⟩, rfl⟩

theorem ok_width_of (T : Txt K mg) : OkF P wW K mg base CX0 "width_of" 2 (sp_width_of K) := by
  have O_is_row : OkF P wW K mg base CX0 "is_row" 1 (sp_is_row K) := ok_is_row T
  have O_is_letter : OkF P wW K mg base CX0 "is_letter" 1 (sp_is_letter K) := ok_is_letter T
  refine OkF.of T.d_width_of sc_width_of (fun vs H Q E h => h.1) (fun f cdv A outer s H vs Q E hr h => ?_)
  obtain ⟨-, z, H0, e0, ⟨rd, w, ⟨v0, r0, rfl, ⟨a0, rfl, q0⟩, rfl⟩, ⟨p0, -⟩, rfl⟩, k⟩ := h
  have h0 := exh e0 q0
  clear q0
  clear e0 H0
  have hu := hu_of hr
  refine ⟨_, (pss_cons (ps_if (PW.pt (pw_or (pt_not (pt_val (pe_callB (kcall_isi (K := K)) (by rfl) T.z_isinstance (by decide +kernel) (pa_cons (pv 0) (pa_cons (pe_bltn (v := .ty "dict") (by rfl) T.z_dict (by decide +kernel) rfl) pa_nil))))) (pw_or1 (pt_cmpR (op_eq_dict hr.units0) (pv 0) pe_dnewK (nomark _)))))
  (pss_one ps_never)
  pss_nil)
 (pss_cons (ps_set (i := 1) sc_width_of.nd rfl (.inl rfl) (pe_ix (kix_list (K := K)) (pe_callTy (call_list_dK rfl) (by rfl) T.z_list (by decide +kernel) (pa_cons (pv 0) pa_nil)) pe_int (fun _ _ => rfl)))
 (pss_cons (ps_set (i := 4) sc_width_of.nd rfl (.inl rfl) (pe_ifExp (pt_val (pe_callB (kcall_isi (K := K)) (by rfl) T.z_isinstance (by decide +kernel) (pa_cons (pv 1) (pa_cons (pe_bltn (v := .ty "str") (by rfl) T.z_str (by decide +kernel) rfl) pa_nil)))) (pe_callB cb_lenS (by rfl) T.z_len (by decide +kernel) (pa_cons (pv 1) pa_nil)) pe_int))
 (pss_cons (ps_lock (ps_for PassesOwn.never rfl (pi_items (pv 0)) (pg_tup rfl (pgs_cons (pg_name (i := 3) sc_width_of.nd rfl (.inl rfl)) (pgs_cons (pg_name (i := 2) sc_width_of.nd rfl (.inl rfl)) pgs_nil)))
  (pss_one (ps_if (PW.pt (pw_or (pt_not (pt_chain op_le op_le pe_int (pv 4) (pe_gi (by rfl) T.c_WIDEST))) (pw_or (pt_not (pt_val (pe_callO O_is_row hr (by rfl) pass0 (pa_cons (pv 3) (pa_cons (pv 4) pa_nil))))) (pw_or (pt_cmpR op_ninC (pe_gs (by rfl) T.c_BLANK) (pv 3) rfl) (pw_or1 (pt_not (pt_val (pe_callO O_is_letter hr (by rfl) pass0 (pa_cons (pv 2) pa_nil)))))))))
  (pss_one ps_never)
  pss_nil))))
 (pss_one (ps_ret (pv 4))))))), ?_⟩
  have hl : 0 < rd.length := List.length_pos_iff.mpr p0.ne
  have hne : rd.map (·.1) ≠ [] := by simpa using p0.ne
  obtain ⟨p, rs, erd⟩ : ∃ p rs, rd = p :: rs := by
    cases rd with
    | nil => exact absurd rfl p0.ne
    | cons p rs => exact ⟨p, rs, rfl⟩
  have hp1 : p.1.length = w := rd_len p0 (by rw [erd]; exact List.mem_cons_self)
  have hw4 := p0.w4
  have h1 : ((rd.map (·.1)).getD (0 : Int).toNat []).length = w := by rw [erd]; exact hp1
  have h2 : ((rd.map (·.1)).getD (0 : Int).toNat []).length ≤ 100000 := by omega
  have h3 : (0 : Int) < ((rd.map (·.1)).length : Int) := by rw [List.length_map]; omega
  have hd0 : dEq rd [] = false := by rw [erd]; rfl
  refine q_skip (EvT.is (et_or (et_not (et_B (ev_isiD (b := true) (g_Dold (ev_var rfl) (by walk_at "facth")) ev_c (by decide +kernel)))) (fun hb11 => (et_test (ev_eqD (g_Dold (ev_var rfl) (by walk_at "facth")) (g_D ed_newS))))) (by rw [hd0]; rfl)) fun H1 e1 => ?_
  refine q_asg (ev_ixQ ([] : Row) (q_new (el_keys (g_Dold (ev_var rfl) (by walk_at "facth")))) ev_c (by walk_at "side") (by walk_at "side")) fun H2 e2 => ?_
  refine q_asg (Ev.is (ev_ifI (et_B (ev_isiS (b := true) (ev_var rfl) ev_c (by decide +kernel))) (fun hb12 => (ev_lenS (ev_var rfl) (by walk_at "side"))) (fun hb12 => ev_c)) (by rw [if_pos rfl, h1])) fun H3 e3 => ?_
  refine q_items (r := rd) (d := a0) (Pv := fun i σ' => ∃ x y, σ' = [some (.ref a0), some (VS ((rd.map (·.1)).getD (0 : Int).toNat [])), x, y, some (.int (w : Int))]) (by walk_at "facth") (fun od => ev_var rfl) ⟨none, none, rfl⟩ ?_ fun σ' H' e4 hp => ?_
  · rintro od i ⟨row, letter⟩ σ' H' hi ⟨x, y, rfl⟩ hx
    have hm := List.mem_of_getElem? hi
    obtain ⟨c, ec, hc1, hc2⟩ := isLet_one (p0.lt _ hm)
    have ec : letter = [c] := ec
    subst ec
    have hr := p0.row _ hm
    have hb : 46 ∈ row := p0.bl _ hm
    have hrl : row.length ≤ 40000 := by have := rd_len p0 hm; simp only at this; omega
    refine s_skip (EvT.is (et_or (et_not (et_test (ev_chain ev_c (ev_var rfl) ev_c))) (fun hb15 => (et_or (et_not (et_B (ev_is_row (ag_V (ev_var rfl) (ag_V (ev_var rfl) ag_nil)) (by walk_at "side")))) (fun hb14 => (et_or (et_test (ev_ninC ev_c (ev_var rfl))) (fun hb13 => (et_not (et_B (ev_is_letter (ag_V (ev_var rfl) ag_nil)))))))))) ?_) fun H4 e4 => ⟨hx.trans e4, some (VS [c]), some (VS row), rfl⟩
    have hw1 := p0.w1
    have hlt := p0.lt _ hm
    simp only at hr hlt
    simp only [hr, hlt, hb, decide_eq_true (show (1 : Int) ≤ (w : Int) by omega), decide_eq_true (show (w : Int) ≤ 4 by omega)]
    rfl
  · obtain ⟨x, y, rfl⟩ := hp
    exact s_ret2 (ev_var rfl) (RetV.ex k (by walk_at "exs"))

def R_check_tape (K : PySem.W.Frag) : List V → Hp → V → Prop := fun vs H z => ∃ (w : Nat) (t : List Row), AllP [isV (.int (w : Int)), isL K (Txts t)] vs H ∧ ((TpOk t w) ∧ (w ≤ 4) ∧ True) ∧ z = .non
def sp_check_tape (K : PySem.W.Frag) : Sp := spV  2 (R_check_tape K)
theorem ev_check_tape {K : PySem.W.Frag} {σ : L2.St} {H : Hp} {tr : TA} {E : XK} {w : Nat} {t : List Row} (h : EvAG tr σ H [isV (.int (w : Int)), isL K (Txts t)]) (p0 : TpOk t w) (p1 : w ≤ 4) : Ev (tCallO (sp_check_tape K) E tr) σ H (.non) := ev_callG h rfl fun vs H1 e hp => ⟨w, t, hp, ⟨p0, p1, trivial⟩, rfl⟩

theorem ok_check_tape (T : Txt K mg) : OkF P wW K mg base CX0 "check_tape" 2 (sp_check_tape K) := by
  have O_is_row : OkF P wW K mg base CX0 "is_row" 1 (sp_is_row K) := ok_is_row T
  refine OkF.of T.d_check_tape sc_check_tape (fun vs H Q E h => h.1) (fun f cdv A outer s H vs Q E hr h => ?_)
  obtain ⟨-, z, H0, e0, ⟨w, t, ⟨v0, r0, rfl, rfl, ⟨v1, r1, rfl, ⟨a1, rfl, q1⟩, rfl⟩⟩, ⟨p0, p1, -⟩, rfl⟩, k⟩ := h
  have h1 := exl e0 q1
  clear q1
  clear e0 H0
  have hu := hu_of hr
  refine ⟨_, (pss_cons (ps_if (pt_not (pt_val (pe_callB (kcall_isi (K := K)) (by rfl) T.z_isinstance (by decide +kernel) (pa_cons (pv 1) (pa_cons (pe_bltn (v := .ty "list") (by rfl) T.z_list (by decide +kernel) rfl) pa_nil)))))
  (pss_one ps_never)
  pss_nil)
 (pss_one (ps_for PassesOwn.never rfl (kpi_enum (K := K) (by rfl) T.z_enumerate (pa_cons (pv 1) pa_nil)) (pg_tup rfl (pgs_cons (pg_name (i := 2) sc_check_tape.nd rfl (.inl rfl)) (pgs_cons (pg_name (i := 3) sc_check_tape.nd rfl (.inl rfl)) pgs_nil)))
  (pss_one (ps_if (PW.pt (pw_or (pt_cmpR op_eq (pv 2) (pe_gi (by rfl) T.c_MOST) (nomark _)) (pw_or1 (pt_not (pt_val (pe_callO O_is_row hr (by rfl) pass0 (pa_cons (pv 3) (pa_cons (pv 0) pa_nil))))))))
  (pss_one ps_never)
  pss_nil))))), ?_⟩
  refine q_skip (EvT.is (et_not (et_B (ev_isiL (b := true) (q_old (ev_var rfl) (by walk_at "fact")) ev_c (by decide +kernel)))) rfl) fun H1 e1 => ?_
  refine s_for (s := []) (i_enum (qa_old (ev_var rfl) (by walk_at "fact") (by walk_at "adm"))) (by simp) fun H2 e2 => ⟨fun i σ' H' => Ex H2 H' ∧ ∃ x y, σ' = [some (.int (w : Int)), some (.ref a1), x, y], ⟨Ex.refl _, none, none, rfl⟩, fun i σ' H' p => Ex.xb p.1, ?_, fun σ' H' p => k H' ((e1.trans e2).trans p.1)⟩
  rintro i ⟨row, n⟩ σ' H' H3 hi ⟨hx, x, y, rfl⟩ e3
  obtain ⟨rfl, hi⟩ := zipIdx_at hi
  have hn := (List.getElem?_eq_some_iff.mp hi).1
  have hlen := p0.len
  have hr := p0.row row (List.mem_of_getElem? hi)
  have hrl : row.length ≤ 40000 := by have := isRow_len hr; omega
  refine s_skip (EvT.is (et_or (et_test (ev_eqI (ev_var rfl) ev_c)) (fun hb16 => (et_not (et_B (ev_is_row (ag_V (ev_var rfl) (ag_V (ev_var rfl) ag_nil)) (by walk_at "side")))))) ?_) fun H4 e4 => ⟨(hx.trans e3).trans e4, _, _, rfl⟩
  simp only [hr, decide_eq_false (show ¬ ((n : Int) = 30) by omega)]
  rfl

def R_joined (K : PySem.W.Frag) (mg : Str → Option Value) : (Addr → Prop) → List V → Hp → Dt → Pat → Prop := fun F vs H d p => ∃ (rd : Dic) (w : Nat) (ts : List (List Row)), AllP [isR F (uD rd), isR F (uL (uL uS) ts)] vs H ∧ ((RdOk rd w) ∧ (∀ t ∈ ts, TpOk t w) ∧ ((catT ts).length ≤ 30) ∧ True) ∧ d = (uL uS (catT ts)) ∧ p = (.ow .sh)
def sp_joined (K : PySem.W.Frag) (mg : Str → Option Value) : Sp := spR 2 (R_joined K mg)
theorem ev_joined {K : PySem.W.Frag} {mg : Str → Option Value} {σ : L2.St} {H : Hp} {tr : TA} {E : XK} {M : Addr → Prop} {rd : Dic} {w : Nat} {ts : List (List Row)} (al : Al M H) (h : EvAG tr σ H [isR M (uD rd), isR M (uL (uL uS) ts)]) (p0 : RdOk rd w) (p1 : ∀ t ∈ ts, TpOk t w) (p2 : (catT ts).length ≤ 30) : EvP M (tCallO (sp_joined K mg) E tr) σ H (uL uS (catT ts)) (.ow .sh) := p_callR al h rfl fun vs H1 hp => ⟨rd, w, ts, hp, ⟨p0, p1, p2, trivial⟩, rfl, rfl⟩
theorem eo_joined {K : PySem.W.Frag} {mg : Str → Option Value} {σ : L2.St} {H : Hp} {tr : TA} {E : XK} {M : Addr → Prop} {rd : Dic} {w : Nat} {ts : List (List Row)} (h : EvAG tr σ H [isR Mo (uD rd), isR Mo (uL (uL uS) ts)]) (p0 : RdOk rd w) (p1 : ∀ t ∈ ts, TpOk t w) (p2 : (catT ts).length ≤ 30) : EvP M (tCallO (sp_joined K mg) E tr) σ H (uL uS (catT ts)) (.ow .sh) := p_scal (ev_joined (Mo_al H) h p0 p1 p2) (scal_LS)

theorem ok_joined (T : Txt K mg) : OkF P wW K mg base CX0 "joined" 3 (sp_joined K mg) := by
  have O_width_of : OkF P wW K mg base CX0 "width_of" 2 (sp_width_of K) := ok_width_of T
  have O_check_tape : OkF P wW K mg base CX0 "check_tape" 2 (sp_check_tape K) := ok_check_tape T
  refine OkF.of T.d_joined sc_joined (fun vs H Q E h => h.1) (fun f cdv A outer s Hb vs Q E hr h => ?_)
  obtain ⟨-, F, d0, p0_, al, ⟨rd, w, ts, ⟨v0, r0, rfl, q0, ⟨v1, r1, rfl, q1, rfl⟩⟩, ⟨p0, p1, p2, -⟩, rfl, rfl⟩, k⟩ := h
  have ok : Ok F (fun H' O' => Lt Hb Mo H' O') [st (uD rd), st (uL (uL uS) ts), .una, .una, .una] _ Hb F := Ok.start al ⟨_, _, [], [], rfl, rfl, ow_sh.mpr ⟨rfl, q0⟩, ⟨_, _, [], [], rfl, rfl, ow_sh.mpr ⟨rfl, q1⟩, ⟨_, rfl, ⟨_, rfl, ⟨_, rfl, ⟨rfl, rfl⟩⟩⟩⟩⟩⟩
  have zz : ∀ (H' : Hp) (O' : Addr → Prop), Lt Hb Mo H' O' → Lt Hb Mo H' O' := fun _ _ z => z
  have hu := hu_of hr
  refine ⟨_, (pss_cons (ps_set (i := 4) sc_joined.nd rfl (.inl rfl) (pe_callO O_width_of hr (by rfl) pass0 (pa_cons (pv 0) pa_nil)))
 (pss_cons (ps_if (pt_not (pt_val (pe_callB (kcall_isi (K := K)) (by rfl) T.z_isinstance (by decide +kernel) (pa_cons (pv 1) (pa_cons (pe_bltn (v := .ty "list") (by rfl) T.z_list (by decide +kernel) rfl) pa_nil)))))
  (pss_one ps_never)
  pss_nil)
 (pss_cons (ps_for PassesOwn.never rfl (kpi_list (K := K) (pv 1)) (pg_name (i := 3) sc_joined.nd rfl (.inl rfl))
  (pss_one (ps_expr (pe_callO O_check_tape hr (by rfl) pass0 (pa_cons (pv 4) (pa_cons (pv 3) pa_nil))))))
 (pss_cons (ps_set (i := 2) sc_joined.nd rfl (.inl rfl) (pe_callB (cr_sumL (K := K) rfl) (by rfl) T.z_sum (by decide +kernel) (pa_cons (pv 1) (pa_cons (pe_lst pa_nil) pa_nil))))
 (pss_cons (ps_if (pt_cmpR op_gt (pe_callB (kcb_lenQ (K := K)) (by rfl) T.z_len (by decide +kernel) (pa_cons (pv 2) pa_nil)) (pe_gi (by rfl) T.c_MOST) (nomark _))
  (pss_one ps_never)
  pss_nil)
 (pss_one (ps_ret (pv 2)))))))), ?_⟩
  have hw := p0.w4
  have hz : ts.flatten.length ≤ 30 := p2
  refine b_asg (d := uI (w : Int)) ok (p_ev (ev_width_of (ag_D (ok.dd rfl) ag_nil) (by walk_at "side"))) fun M σ H ok => ?_
  refine b_skip ok (EvT.is (et_not (et_B (ev_isiNL (b := true) (ok.nn rfl) ev_c (by decide +kernel)))) rfl) fun M σ H ok => ?_
  refine b_for (fun i ρ => ∃ a, ρ = [st (uD rd), st (uL (uL uS) ts), .una, a, st (uI (w : Int))]) ok (j_listR (ok.r rfl)) ⟨_, rfl⟩ ?_ ?_
  · rintro Z1 z1 i t ρ M σ H hi ⟨a, rfl⟩ ok
    have ht := p1 t (List.mem_of_getElem? hi)
    have ok : Ok F Z1 [st (uD rd), st (uL (uL uS) ts), .una, st (uL uS t), st (uI (w : Int))] σ H M := ok
    exact c_drop ok (p_ev (ev_check_tape (ag_V (ok.ev rfl) (ag_L (ok.q rfl) ag_nil)) (by walk_at "side") (by walk_at "side"))) fun M σ H ok => ⟨_, _, ok, _, rfl⟩
  · rintro ρ M σ H ⟨a, rfl⟩ ok
    refine b_asg (d := uL uS ts.flatten) ok (p_sumL (ok.nx rfl rfl) (by omega)) fun M σ H ok => ?_
    refine b_skip ok (EvT.is (et_test (ev_gt (ev_lenQ (ok.q rfl)) ev_c)) (by rw [decide_eq_false (by omega)])) fun M σ H ok => ?_
    exact c_retv ok rfl k zz

def R_turned_reader (K : PySem.W.Frag) (mg : Str → Option Value) : (Addr → Prop) → List V → Hp → Dt → Pat → Prop := fun F vs H d p => ∃ (rd : Dic) (w : Nat), AllP [isR F (uD rd)] vs H ∧ ((RdOk rd w) ∧ (rd.length ≤ 1000) ∧ True) ∧ d = (uD (turnD rd)) ∧ p = (.ow .sh)
def sp_turned_reader (K : PySem.W.Frag) (mg : Str → Option Value) : Sp := spR 1 (R_turned_reader K mg)
theorem ev_turned_reader {K : PySem.W.Frag} {mg : Str → Option Value} {σ : L2.St} {H : Hp} {tr : TA} {E : XK} {M : Addr → Prop} {rd : Dic} {w : Nat} (al : Al M H) (h : EvAG tr σ H [isR M (uD rd)]) (p0 : RdOk rd w) (p1 : rd.length ≤ 1000) : EvP M (tCallO (sp_turned_reader K mg) E tr) σ H (uD (turnD rd)) (.ow .sh) := p_callR al h rfl fun vs H1 hp => ⟨rd, w, hp, ⟨p0, p1, trivial⟩, rfl, rfl⟩
theorem eo_turned_reader {K : PySem.W.Frag} {mg : Str → Option Value} {σ : L2.St} {H : Hp} {tr : TA} {E : XK} {M : Addr → Prop} {rd : Dic} {w : Nat} (h : EvAG tr σ H [isR Mo (uD rd)]) (p0 : RdOk rd w) (p1 : rd.length ≤ 1000) : EvP M (tCallO (sp_turned_reader K mg) E tr) σ H (uD (turnD rd)) (.ow .sh) := p_scal (ev_turned_reader (Mo_al H) h p0 p1) (scal_D)

theorem ok_turned_reader (T : Txt K mg) : OkF P wW K mg base CX0 "turned_reader" 3 (sp_turned_reader K mg) := by
  have O_width_of : OkF P wW K mg base CX0 "width_of" 2 (sp_width_of K) := ok_width_of T
  refine OkF.of T.d_turned_reader sc_turned_reader (fun vs H Q E h => h.1) (fun f cdv A outer s Hb vs Q E hr h => ?_)
  obtain ⟨-, F, d0, p0_, al, ⟨rd, w, ⟨v0, r0, rfl, q0, rfl⟩, ⟨p0, p1, -⟩, rfl, rfl⟩, k⟩ := h
  have ok : Ok F (fun H' O' => Lt Hb Mo H' O') [st (uD rd), .una, .una, .una] _ Hb F := Ok.start al ⟨_, _, [], [], rfl, rfl, ow_sh.mpr ⟨rfl, q0⟩, ⟨_, rfl, ⟨_, rfl, ⟨_, rfl, ⟨rfl, rfl⟩⟩⟩⟩⟩
  have zz : ∀ (H' : Hp) (O' : Addr → Prop), Lt Hb Mo H' O' → Lt Hb Mo H' O' := fun _ _ z => z
  have hu := hu_of hr
  refine ⟨_, (pss_cons (ps_expr (pe_callO O_width_of hr (by rfl) pass0 (pa_cons (pv 0) pa_nil)))
 (pss_cons (ps_set (i := 1) sc_turned_reader.nd rfl (.inl rfl) pe_dnewK)
 (pss_cons (ps_lock (ps_for PassesOwn.never rfl (pi_items (pv 0)) (pg_tup rfl (pgs_cons (pg_name (i := 3) sc_turned_reader.nd rfl (.inl rfl)) (pgs_cons (pg_name (i := 2) sc_turned_reader.nd rfl (.inl rfl)) pgs_nil)))
  (pss_one (ps_dput hu (pv 1) (pe_revS (pv 3)) (pv 2) rfl))))
 (pss_one (ps_ret (pv 1)))))), ?_⟩
  refine b_drop ok (p_ev (ev_width_of (ag_D (ok.dd rfl) ag_nil) (by walk_at "side"))) fun M σ H ok => ?_
  refine b_asg (d := uD []) ok (p_D (r := []) ed_new) fun M σ H ok => ?_
  refine b_itemsS (κ := fun x : Row => Sum.inr (S x)) (f := uS) (r := rd) (fun a n ρ => ∃ x y, ρ = [st (.sc (.ref a)), mu (uD (turnD (rd.take n))), x, y]) ok rfl ⟨thin_D, trivial⟩ (fun _ => noD_sc) zz (fun _ => tg_name) (fun _ => tg_name) (fun a => ⟨_, _, rfl⟩) (fun a n ρ ⟨_, _, e⟩ => by rw [e]; rfl) ?_ ?_
  · rintro a Z1 Hb1 R1 B1 zz1 kk n ⟨row, letter⟩ ρ M σ H hx ⟨x, y, rfl⟩ ok
    have hm := List.mem_of_getElem? hx
    have hrl : row.length ≤ 100000 := by have := rd_len p0 hm; have := p0.w4; simp only at *; omega
    have ok : Ok F Z1 [st (.sc (.ref a)), mu (uD (turnD (rd.take n))), st (uS letter), st (uS row)] σ H M := ok
    have hp := turn_put p0 hx
    exact c_putS (f := uS) (a := row.reverse) (b := letter) ok rfl (r_ev (ok.ev rfl)) (ev_revS (ok.ev rfl) (by walk_at "side")) (by unfold turnD; rw [List.length_map, List.length_take]; omega) fun M σ H ok => ⟨_, _, ok, _, _, by rw [hp]; rfl⟩
  · rintro a ρ M σ H ⟨x, y, rfl⟩ ok
    rw [List.take_length] at ok
    exact c_retv ok rfl k zz

def R__law_means (K : PySem.W.Frag) : List V → Hp → V → Prop := fun vs H z => ∃ (rd : Dic) (r : Row), AllP [isD (DS rd), isV (VS r)] vs H ∧ (True) ∧ z = VS (mean rd r)
def sp__law_means (K : PySem.W.Frag) : Sp := spV  2 (R__law_means K)
theorem ev__law_means {K : PySem.W.Frag} {σ : L2.St} {H : Hp} {tr : TA} {E : XK} {rd : Dic} {r : Row} (h : EvAG tr σ H [isD (DS rd), isV (VS r)])  : Ev (tCallO (sp__law_means K) E tr) σ H (VS (mean rd r)) := ev_callG h rfl fun vs H1 e hp => ⟨rd, r, hp, trivial, rfl⟩

theorem ok__law_means (T : Txt K mg) : OkF P wW K mg base CX0 "_law_means" 1 (sp__law_means K) := by
  refine OkF.of T.d__law_means sc__law_means (fun vs H Q E h => h.1) (fun f cdv A outer s H vs Q E hr h => ?_)
  obtain ⟨-, z, H0, e0, ⟨rd, r, ⟨v0, r0, rfl, ⟨a0, rfl, q0⟩, ⟨v1, r1, rfl, rfl, rfl⟩⟩, -, rfl⟩, k⟩ := h
  have h0 := exh e0 q0
  clear q0
  clear e0 H0
  have hu := hu_of hr
  refine ⟨_, (pss_one (ps_ret (pe_ifExp (pt_cmp (pc_din hu (pv 1) (pv 0))) (pe_dget hu (pv 0) (pv 1) (fun _ _ => rfl)) pe_str))), ?_⟩
  refine s_ret2 (Ev.is (ev_ifS (et_B (ev_din (ev_var rfl) (ev_var rfl) (by walk_at "facth"))) (fun hb17 => (ev_dget (ev_var rfl) (by walk_at "facth") (ev_var rfl) (by walk_at "side"))) (fun hb17 => (ev_cS lit_nil))) ?_) k
  unfold mean
  cases look rd r <;> rfl

def R__law_reads (K : PySem.W.Frag) : List V → Hp → V → Prop := fun vs H z => ∃ (rd : Dic) (w : Nat) (t : List Row), AllP [isD (DS rd), isL K (Txts t)] vs H ∧ ((RdOk rd w) ∧ (t.length ≤ 30) ∧ True) ∧ z = VS (textOf rd t)
def sp__law_reads (K : PySem.W.Frag) : Sp := spV  2 (R__law_reads K)
theorem ev__law_reads {K : PySem.W.Frag} {σ : L2.St} {H : Hp} {tr : TA} {E : XK} {rd : Dic} {w : Nat} {t : List Row} (h : EvAG tr σ H [isD (DS rd), isL K (Txts t)]) (p0 : RdOk rd w) (p1 : t.length ≤ 30) : Ev (tCallO (sp__law_reads K) E tr) σ H (VS (textOf rd t)) := ev_callG h rfl fun vs H1 e hp => ⟨rd, w, t, hp, ⟨p0, p1, trivial⟩, rfl⟩

theorem ok__law_reads (T : Txt K mg) : OkF P wW K mg base CX0 "_law_reads" 2 (sp__law_reads K) := by
  have O__law_means : OkF P wW K mg base CX0 "_law_means" 1 (sp__law_means K) := ok__law_means T
  refine OkF.of T.d__law_reads sc__law_reads (fun vs H Q E h => h.1) (fun f cdv A outer s H vs Q E hr h => ?_)
  obtain ⟨-, z, H0, e0, ⟨rd, w, t, ⟨v0, r0, rfl, ⟨a0, rfl, q0⟩, ⟨v1, r1, rfl, ⟨a1, rfl, q1⟩, rfl⟩⟩, ⟨p0, p1, -⟩, rfl⟩, k⟩ := h
  have h0 := exh e0 q0
  clear q0
  have h1 := exl e0 q1
  clear q1
  clear e0 H0
  have hu := hu_of hr
  refine ⟨_, (pss_one (ps_ret (kpe_joinQ (K := K) pe_str (pe_lc (own := [("_law_row", 2)]) (g := gName 2) rfl sc__law_reads.nd (kpi_list (K := K) (pv 1)) (blkOk_by (N := N__law_reads) (sc := defScope s__law_reads) (by decide +kernel)) (fun _ _ _ _ _ => (pg_name (i := 2) sc__law_reads.nd rfl (.inl rfl))) (fun _ _ _ _ _ => pts_nil) (fun _ _ _ _ _ => (pe_callO O__law_means hr (by rfl) pass0 (pa_cons (pv 0) (pa_cons (pv 2) pa_nil)))))))), ?_⟩
  have hz : (t.map (mean rd)).flatten.length ≤ 100000 := by have := textOf_len p0 t; omega
  exact s_ret2 (Ev.is (ev_joinQ (ev_cS lit_nil) (q_new (el_lc1 (i_list (qa_old (ev_var rfl) (by walk_at "fact") trivial)) (by walk_at "len") (fun _ => wipe_one _ _ _) (fun x18 hx18 H118 e118 => (ev__law_means (ag_D (g_Dold (ev_var rfl) (by walk_at "facth")) (ag_V (ev_var rfl) ag_nil)))))) (by walk_at "len")) rfl) k

def R__law_mirror (K : PySem.W.Frag) (mg : Str → Option Value) : (Addr → Prop) → List V → Hp → Dt → Pat → Prop := fun F vs H d p => ∃ (r : Row), AllP [isR F (uS r)] vs H ∧ ((r.length ≤ 100) ∧ True) ∧ d = (Dt.sc (VS r.reverse)) ∧ p = .sh
def sp__law_mirror (K : PySem.W.Frag) (mg : Str → Option Value) : Sp := spR 1 (R__law_mirror K mg)
theorem ev__law_mirror {K : PySem.W.Frag} {mg : Str → Option Value} {σ : L2.St} {H : Hp} {tr : TA} {E : XK} {r : Row} (h : EvAG tr σ H [isR Mo (uS r)]) (p0 : r.length ≤ 100) : Ev (tCallO (sp__law_mirror K mg) E tr) σ H (VS r.reverse) := ev_p (M := Mo) (p := .sh) (p_callR (Mo_al H) h rfl fun vs H1 hp => ⟨r, hp, ⟨p0, trivial⟩, rfl, rfl⟩)

theorem ok__law_mirror (T : Txt K mg) : OkF P wW K mg base CX0 "_law_mirror" 1 (sp__law_mirror K mg) := by
  refine OkF.of T.d__law_mirror sc__law_mirror (fun vs H Q E h => h.1) (fun f cdv A outer s Hb vs Q E hr h => ?_)
  obtain ⟨-, F, d0, p0_, al, ⟨r, ⟨v0, r0, rfl, q0, rfl⟩, ⟨p0, -⟩, rfl, rfl⟩, k⟩ := h
  have ok : Ok F (fun H' O' => Lt Hb Mo H' O') [st (uS r), .una, .una] _ Hb F := Ok.start al ⟨_, _, [], [], rfl, rfl, ow_sh.mpr ⟨rfl, q0⟩, ⟨_, rfl, ⟨_, rfl, ⟨rfl, rfl⟩⟩⟩⟩
  have zz : ∀ (H' : Hp) (O' : Addr → Prop), Lt Hb Mo H' O' → Lt Hb Mo H' O' := fun _ _ z => z
  have hu := hu_of hr
  refine ⟨_, (pss_cons (ps_set (i := 1) sc__law_mirror.nd rfl (.inl rfl) pe_str)
 (pss_cons (ps_for PassesOwn.never rfl (pi_str (pv 0)) (pg_name (i := 2) sc__law_mirror.nd rfl (.inl rfl))
  (pss_one (ps_set (i := 1) sc__law_mirror.nd rfl (.inl rfl) (pe_op op_addS (pv 2) (pv 1)))))
 (pss_one (ps_ret (pv 1))))), ?_⟩
  refine b_asg (d := uS []) ok (p_ev (ev_cS lit_nil)) fun M σ H ok => ?_
  refine b_for (fun i ρ => ∃ a, ρ = [st (uS r), st (uS (r.take i).reverse), a]) ok (j_str (ok.ev rfl)) ⟨_, rfl⟩ ?_ ?_
  · rintro Z1 z1 i c ρ M σ H hi ⟨a, rfl⟩ ok
    have hi0 : r[i]? = some c := hi
    have ok : Ok F Z1 [st (uS r), st (uS (r.take i).reverse), st (uS [c])] σ H M := ok
    refine c_asg (d := uS ([c] ++ (r.take i).reverse)) ok (p_ev (ev_addS (ok.ev rfl) (ok.ev rfl) (by simp; omega))) fun M σ H ok => ⟨_, _, ok, _, by
      rw [show (r.take (i + 1)).reverse = [c] ++ (r.take i).reverse by rw [List.take_succ, hi0]; simp]
      rfl⟩
  · rintro ρ M σ H ⟨a, rfl⟩ ok
    have ok : Ok F _ [st (uS r), st (uS (r.take r.length).reverse), a] σ H M := ok
    rw [List.take_length] at ok
    exact c_ret ok (p_ev (ok.ev rfl)) k zz


theorem gv__law_new (T : Txt K mg) (A : Around) (outer : List Env) {kk : Nat} {g : Addr} {cdv : Value} {q : Str} : GivesN P wW K mg base A outer kk N__law_new "_law_new" (defScope s__law_new) g cdv (defBody s__law_new) "_law_ask" q (NewT GdP GrP) := by
  intro f c' s Hb Q tl w1 w2 hr hact hc0 h
  obtain ⟨F, d1, d2, al, q1, q2, gd, gr, hct, k⟩ := h
  have ok : Ok F (fun H' O' => Lt Hb Mo H' O') [st (.sc (.ref f)), st d1, st d2, .una, .una] _ Hb F := Ok.start al ⟨_, _, [], [], rfl, rfl, ow_sh.mpr ⟨rfl, by unfold Rp; rfl⟩, ⟨_, _, [], [], rfl, rfl, ow_sh.mpr ⟨rfl, q1⟩, ⟨_, _, [], [], rfl, rfl, ow_sh.mpr ⟨rfl, q2⟩, ⟨_, rfl, ⟨_, rfl, ⟨rfl, rfl⟩⟩⟩⟩⟩⟩
  have zz : ∀ (H' : Hp) (O' : Addr → Prop), Lt Hb Mo H' O' → Lt Hb Mo H' O' := fun _ _ z => z
  have hu := hu_of hr
  refine ⟨_, (pss_cons (ps_par (i := 3) (j := 4) rfl sc__law_new.nd rfl rfl (by decide) rfl rfl (pa_cons (pe_callTy (kct_list (K := K)) (by rfl) T.z_list (by decide +kernel) (pa_cons (pv 1) pa_nil)) (pa_cons (hact (pv 1) rfl) pa_nil)) (by rfl))
 (pss_cons (ps_if (PW.pt (pw_or (pt_not (pt_val (pe_callB (kcall_isi (K := K)) (by rfl) T.z_isinstance (by decide +kernel) (pa_cons (pv 4) (pa_cons (pe_bltn (v := .ty "list") (by rfl) T.z_list (by decide +kernel) rfl) pa_nil))))) (pw_or (pt_cmpR (kop_neD (K := K) hr.units) (pv 4) (pv 2) (nomark _)) (pw_or1 (pt_cmpR (kop_neD (K := K) hr.units) (pv 1) (pv 3) (nomark _))))))
  (pss_one (ps_ret pe_bl))
  pss_nil)
 (pss_cons (ps_expr (pe_bm PySem.F.plainAttrs_list PySem.F.slot_list_append PySem.F.type_list_append mt_append (pv 4) (pa_cons pe_str pa_nil)))
 (pss_one (ps_ret (pe_and (pe_cmpR (kop_eqD (K := K) hr.units) (hact (pv 1) rfl) (pv 2) (nomark _)) (pe_one (pe_cmpR (kop_eqD (K := K) hr.units) (pv 1) (pv 3) (nomark _))))))))), ?_⟩
  obtain ⟨α, hdec, f_, sm, n, g_, xs, rfl, E, hsm, hn, hl⟩ := gd
  obtain ⟨t, rfl, ht, htl⟩ := gr
  have hn' : n + 1 ≤ 64 := by omega
  refine b_par (d := uL f_ xs) (d2 := uL uS t) ok (p_list (ok.nx rfl rfl)) (fun M σ H ok => (p_scal (p_act (ok.at0 rfl) ((zz _ _ ok.z).out _ _ hc0) (ok.ro rfl) (fun H1 e v r Q q => hct H1 ((zz _ _ ok.z).out.trans e) v r Q q)) scal_LS)) fun M σ H ok => ?_
  refine b_skip ok (EvT.is (et_or (et_not (et_B (ev_isiNL (b := true) (ok.nn rfl) ev_c (by decide +kernel)))) (fun hb2 => (et_or (et_test (ev_neLS (ok.q rfl) (ok.q rfl) ht ht)) (fun hb1 => (et_test (ev_neE (x := xs) (y := xs) (eqd_L E) (ok.ro rfl) (ok.ro rfl) hsm hsm hn')))))) (by simp)) fun M σ H ok => ?_
  refine b_app (f := uS) (x := [46]) ok rfl (r_ev (ev_cS lit_dot)) (by omega) fun M σ H ok => ?_
  exact c_ret ok (EvP.is (p_ev (ev_andV (ev_eqLS (q_p (M := Mo) (p_scal (p_act (ok.at0 rfl) ((zz _ _ ok.z).out _ _ hc0) (ok.ro rfl) (fun H1 e v r Q q => hct H1 ((zz _ _ ok.z).out.trans e) v r Q q)) scal_LS)) (ok.q rfl) ht ht) (fun hb3 => (ev_eqE (x := xs) (y := xs) (eqd_L E) (ok.ro rfl) (ok.ro rfl) hsm hsm hn')))) (by simp)) k zz

def R_meaning (K : PySem.W.Frag) : List V → Hp → V → Prop := fun vs H z => ∃ (rd : Dic) (r : Row), AllP [isD (DS rd), isV (VS r)] vs H ∧ (True) ∧ z = VS (mean rd r)
def sp_meaning (K : PySem.W.Frag) : Sp := spV  2 (R_meaning K)
theorem ev_meaning {K : PySem.W.Frag} {σ : L2.St} {H : Hp} {tr : TA} {E : XK} {rd : Dic} {r : Row} (h : EvAG tr σ H [isD (DS rd), isV (VS r)])  : Ev (tCallO (sp_meaning K) E tr) σ H (VS (mean rd r)) := ev_callG h rfl fun vs H1 e hp => ⟨rd, r, hp, trivial, rfl⟩

theorem ok_meaning (T : Txt K mg) : OkF P wW K mg base CX0 "meaning" 1 (sp_meaning K) := by
  refine OkF.of T.d_meaning sc_meaning (fun vs H Q E h => h.1) (fun f cdv A outer s H vs Q E hr h => ?_)
  obtain ⟨-, z, H0, e0, ⟨rd, r, ⟨v0, r0, rfl, ⟨a0, rfl, q0⟩, ⟨v1, r1, rfl, rfl, rfl⟩⟩, -, rfl⟩, k⟩ := h
  have h0 := exh e0 q0
  clear q0
  clear e0 H0
  have hu := hu_of hr
  refine ⟨_, (pss_one (ps_ret (pe_dget2 hu (pv 0) (pv 1) pe_str ⟨rfl, rfl, rfl, rfl⟩))), ?_⟩
  exact s_ret2 (Ev.is (ev_get2 (ev_var rfl) (by walk_at "facth") (ev_var rfl) (ev_cS lit_nil)) rfl) k

def R_text_of (K : PySem.W.Frag) : List V → Hp → V → Prop := fun vs H z => ∃ (rd : Dic) (w : Nat) (t : List Row), AllP [isD (DS rd), isL K (Txts t)] vs H ∧ ((RdOk rd w) ∧ (t.length ≤ 40000) ∧ True) ∧ z = VS (textOf rd t)
def sp_text_of (K : PySem.W.Frag) : Sp := spV  2 (R_text_of K)
theorem ev_text_of {K : PySem.W.Frag} {σ : L2.St} {H : Hp} {tr : TA} {E : XK} {rd : Dic} {w : Nat} {t : List Row} (h : EvAG tr σ H [isD (DS rd), isL K (Txts t)]) (p0 : RdOk rd w) (p1 : t.length ≤ 40000) : Ev (tCallO (sp_text_of K) E tr) σ H (VS (textOf rd t)) := ev_callG h rfl fun vs H1 e hp => ⟨rd, w, t, hp, ⟨p0, p1, trivial⟩, rfl⟩

theorem ok_text_of (T : Txt K mg) : OkF P wW K mg base CX0 "text_of" 2 (sp_text_of K) := by
  have O_meaning : OkF P wW K mg base CX0 "meaning" 1 (sp_meaning K) := ok_meaning T
  refine OkF.of T.d_text_of sc_text_of (fun vs H Q E h => h.1) (fun f cdv A outer s H vs Q E hr h => ?_)
  obtain ⟨-, z, H0, e0, ⟨rd, w, t, ⟨v0, r0, rfl, ⟨a0, rfl, q0⟩, ⟨v1, r1, rfl, ⟨a1, rfl, q1⟩, rfl⟩⟩, ⟨p0, p1, -⟩, rfl⟩, k⟩ := h
  have h0 := exh e0 q0
  clear q0
  have h1 := exl e0 q1
  clear q1
  clear e0 H0
  have hu := hu_of hr
  refine ⟨_, (pss_one (ps_ret (kpe_joinQ (K := K) pe_str (pe_lc (own := [("row", 2)]) (g := gName 2) rfl sc_text_of.nd (kpi_list (K := K) (pv 1)) (blkOk_by (N := N_text_of) (sc := defScope s_text_of) (by decide +kernel)) (fun _ _ _ _ _ => (pg_name (i := 2) sc_text_of.nd rfl (.inl rfl))) (fun _ _ _ _ _ => pts_nil) (fun _ _ _ _ _ => (pe_callO O_meaning hr (by rfl) pass0 (pa_cons (pv 0) (pa_cons (pv 2) pa_nil)))))))), ?_⟩
  have hz : (t.map (mean rd)).flatten.length ≤ 100000 := by have := textOf_len p0 t; omega
  exact s_ret2 (Ev.is (ev_joinQ (ev_cS lit_nil) (q_new (el_lc1 (i_list (qa_old (ev_var rfl) (by walk_at "fact") trivial)) (by walk_at "len") (fun _ => wipe_one _ _ _) (fun x22 hx22 H122 e122 => (ev_meaning (ag_D (g_Dold (ev_var rfl) (by walk_at "facth")) (ag_V (ev_var rfl) ag_nil)))))) (by walk_at "len")) rfl) k

def R_read_tape (K : PySem.W.Frag) : List V → Hp → V → Prop := fun vs H z => ∃ (rd : Dic) (w : Nat) (t : List Row), AllP [isD (DS rd), isL K (Txts t)] vs H ∧ ((RdOk rd w) ∧ (TpOk t w) ∧ True) ∧ z = VS (textOf rd t)
def sp_read_tape (K : PySem.W.Frag) : Sp := spV  2 (R_read_tape K)
theorem ev_read_tape {K : PySem.W.Frag} {σ : L2.St} {H : Hp} {tr : TA} {E : XK} {rd : Dic} {w : Nat} {t : List Row} (h : EvAG tr σ H [isD (DS rd), isL K (Txts t)]) (p0 : RdOk rd w) (p1 : TpOk t w) : Ev (tCallO (sp_read_tape K) E tr) σ H (VS (textOf rd t)) := ev_callG h rfl fun vs H1 e hp => ⟨rd, w, t, hp, ⟨p0, p1, trivial⟩, rfl⟩

theorem ok_read_tape (T : Txt K mg) : OkF P wW K mg base CX0 "read_tape" 3 (sp_read_tape K) := by
  have O_check_tape : OkF P wW K mg base CX0 "check_tape" 2 (sp_check_tape K) := ok_check_tape T
  have O_text_of : OkF P wW K mg base CX0 "text_of" 2 (sp_text_of K) := ok_text_of T
  have O_width_of : OkF P wW K mg base CX0 "width_of" 2 (sp_width_of K) := ok_width_of T
  refine OkF.of T.d_read_tape sc_read_tape (fun vs H Q E h => h.1) (fun f cdv A outer s H vs Q E hr h => ?_)
  obtain ⟨-, z, H0, e0, ⟨rd, w, t, ⟨v0, r0, rfl, ⟨a0, rfl, q0⟩, ⟨v1, r1, rfl, ⟨a1, rfl, q1⟩, rfl⟩⟩, ⟨p0, p1, -⟩, rfl⟩, k⟩ := h
  have h0 := exh e0 q0
  clear q0
  have h1 := exl e0 q1
  clear q1
  clear e0 H0
  have hu := hu_of hr
  refine ⟨_, (pss_cons (ps_expr (pe_callO O_check_tape hr (by rfl) pass0 (pa_cons (pe_callO O_width_of hr (by rfl) pass0 (pa_cons (pv 0) pa_nil)) (pa_cons (pv 1) pa_nil))))
 (pss_one (ps_ret (pe_callO O_text_of hr (by rfl) pass0 (pa_cons (pv 0) (pa_cons (pv 1) pa_nil)))))), ?_⟩
  have hw := p0.w4
  have hl : t.length ≤ 40000 := by have := p1.len; omega
  refine q_drop (ev_check_tape (ag_V (ev_width_of (ag_D (g_Dold (ev_var rfl) (by walk_at "facth")) ag_nil) (by walk_at "side")) (ag_L (q_old (ev_var rfl) (by walk_at "fact")) ag_nil)) (by walk_at "side") (by walk_at "side")) fun H1 e1 => ?_
  exact s_ret2 (ev_text_of (ag_D (g_Dold (ev_var rfl) (by walk_at "facth")) (ag_L (q_old (ev_var rfl) (by walk_at "fact")) ag_nil)) (by walk_at "side") (by walk_at "side")) (RetV.ex k e1)

def R_turned (K : PySem.W.Frag) (mg : Str → Option Value) : (Addr → Prop) → List V → Hp → Dt → Pat → Prop := fun F vs H d p => ∃ (rd : Dic) (w : Nat) (t : List Row), AllP [isR F (uD rd), isR F (uL uS t)] vs H ∧ ((RdOk rd w) ∧ (TpOk t w) ∧ True) ∧ d = (uL uS (turnT t)) ∧ p = (.ow .sh)
def sp_turned (K : PySem.W.Frag) (mg : Str → Option Value) : Sp := spR 2 (R_turned K mg)
theorem ev_turned {K : PySem.W.Frag} {mg : Str → Option Value} {σ : L2.St} {H : Hp} {tr : TA} {E : XK} {M : Addr → Prop} {rd : Dic} {w : Nat} {t : List Row} (al : Al M H) (h : EvAG tr σ H [isR M (uD rd), isR M (uL uS t)]) (p0 : RdOk rd w) (p1 : TpOk t w) : EvP M (tCallO (sp_turned K mg) E tr) σ H (uL uS (turnT t)) (.ow .sh) := p_callR al h rfl fun vs H1 hp => ⟨rd, w, t, hp, ⟨p0, p1, trivial⟩, rfl, rfl⟩
theorem eo_turned {K : PySem.W.Frag} {mg : Str → Option Value} {σ : L2.St} {H : Hp} {tr : TA} {E : XK} {M : Addr → Prop} {rd : Dic} {w : Nat} {t : List Row} (h : EvAG tr σ H [isR Mo (uD rd), isR Mo (uL uS t)]) (p0 : RdOk rd w) (p1 : TpOk t w) : EvP M (tCallO (sp_turned K mg) E tr) σ H (uL uS (turnT t)) (.ow .sh) := p_scal (ev_turned (Mo_al H) h p0 p1) (scal_LS)

theorem ok_turned (T : Txt K mg) : OkF P wW K mg base CX0 "turned" 3 (sp_turned K mg) := by
  have O_check_tape : OkF P wW K mg base CX0 "check_tape" 2 (sp_check_tape K) := ok_check_tape T
  have O_width_of : OkF P wW K mg base CX0 "width_of" 2 (sp_width_of K) := ok_width_of T
  refine OkF.of T.d_turned sc_turned (fun vs H Q E h => h.1) (fun f cdv A outer s Hb vs Q E hr h => ?_)
  obtain ⟨-, F, d0, p0_, al, ⟨rd, w, t, ⟨v0, r0, rfl, q0, ⟨v1, r1, rfl, q1, rfl⟩⟩, ⟨p0, p1, -⟩, rfl, rfl⟩, k⟩ := h
  have ok : Ok F (fun H' O' => Lt Hb Mo H' O') [st (uD rd), st (uL uS t), .una] _ Hb F := Ok.start al ⟨_, _, [], [], rfl, rfl, ow_sh.mpr ⟨rfl, q0⟩, ⟨_, _, [], [], rfl, rfl, ow_sh.mpr ⟨rfl, q1⟩, ⟨_, rfl, ⟨rfl, rfl⟩⟩⟩⟩
  have zz : ∀ (H' : Hp) (O' : Addr → Prop), Lt Hb Mo H' O' → Lt Hb Mo H' O' := fun _ _ z => z
  have hu := hu_of hr
  refine ⟨_, (pss_cons (ps_expr (pe_callO O_check_tape hr (by rfl) pass0 (pa_cons (pe_callO O_width_of hr (by rfl) pass0 (pa_cons (pv 0) pa_nil)) (pa_cons (pv 1) pa_nil))))
 (pss_one (ps_ret (pe_lc (own := [("row", 2)]) (g := gName 2) rfl sc_turned.nd (kpi_list (K := K) (pv 1)) (blkOk_by (N := N_turned) (sc := defScope s_turned) (by decide +kernel)) (fun _ _ _ _ _ => (pg_name (i := 2) sc_turned.nd rfl (.inl rfl))) (fun _ _ _ _ _ => pts_nil) (fun _ _ _ _ _ => (pe_revS (pv 2))))))), ?_⟩
  have hw := p0.w4
  have hl := p1.len
  have hr : ∀ r ∈ t, r.length ≤ 100000 := fun r hr => by have := isRow_len (p1.row r hr); omega
  refine b_drop ok (p_ev (ev_check_tape (ag_V (ev_width_of (ag_D (ok.dd rfl) ag_nil) (by walk_at "side")) (ag_L (ok.q rfl) ag_nil)) (by walk_at "side") (by walk_at "side"))) fun M σ H ok => ?_
  exact c_ret ok (EvP.is (p_lc1 ok (j_listN (ok.nx rfl rfl)) (by walk_at "len") (by simp) (fun x23 hx23 M σ H ok => (p_ev (ev_revS (ok.ev rfl) (by walk_at "side"))))) (by unfold turnT; show _ = Dt.node .l ((t.map List.reverse).map uS); rw [List.map_map]; rfl)) k zz

def R_backwards (K : PySem.W.Frag) (mg : Str → Option Value) : (Addr → Prop) → List V → Hp → Dt → Pat → Prop := fun F vs H d p => ∃ (rd : Dic) (w : Nat) (t : List Row), AllP [isR F (uD rd), isR F (uL uS t)] vs H ∧ ((RdOk rd w) ∧ (TpOk t w) ∧ True) ∧ d = (uL uS t.reverse) ∧ p = (.ow .sh)
def sp_backwards (K : PySem.W.Frag) (mg : Str → Option Value) : Sp := spR 2 (R_backwards K mg)
theorem ev_backwards {K : PySem.W.Frag} {mg : Str → Option Value} {σ : L2.St} {H : Hp} {tr : TA} {E : XK} {M : Addr → Prop} {rd : Dic} {w : Nat} {t : List Row} (al : Al M H) (h : EvAG tr σ H [isR M (uD rd), isR M (uL uS t)]) (p0 : RdOk rd w) (p1 : TpOk t w) : EvP M (tCallO (sp_backwards K mg) E tr) σ H (uL uS t.reverse) (.ow .sh) := p_callR al h rfl fun vs H1 hp => ⟨rd, w, t, hp, ⟨p0, p1, trivial⟩, rfl, rfl⟩
theorem eo_backwards {K : PySem.W.Frag} {mg : Str → Option Value} {σ : L2.St} {H : Hp} {tr : TA} {E : XK} {M : Addr → Prop} {rd : Dic} {w : Nat} {t : List Row} (h : EvAG tr σ H [isR Mo (uD rd), isR Mo (uL uS t)]) (p0 : RdOk rd w) (p1 : TpOk t w) : EvP M (tCallO (sp_backwards K mg) E tr) σ H (uL uS t.reverse) (.ow .sh) := p_scal (ev_backwards (Mo_al H) h p0 p1) (scal_LS)

theorem ok_backwards (T : Txt K mg) : OkF P wW K mg base CX0 "backwards" 3 (sp_backwards K mg) := by
  have O_check_tape : OkF P wW K mg base CX0 "check_tape" 2 (sp_check_tape K) := ok_check_tape T
  have O_width_of : OkF P wW K mg base CX0 "width_of" 2 (sp_width_of K) := ok_width_of T
  refine OkF.of T.d_backwards sc_backwards (fun vs H Q E h => h.1) (fun f cdv A outer s Hb vs Q E hr h => ?_)
  obtain ⟨-, F, d0, p0_, al, ⟨rd, w, t, ⟨v0, r0, rfl, q0, ⟨v1, r1, rfl, q1, rfl⟩⟩, ⟨p0, p1, -⟩, rfl, rfl⟩, k⟩ := h
  have ok : Ok F (fun H' O' => Lt Hb Mo H' O') [st (uD rd), st (uL uS t)] _ Hb F := Ok.start al ⟨_, _, [], [], rfl, rfl, ow_sh.mpr ⟨rfl, q0⟩, ⟨_, _, [], [], rfl, rfl, ow_sh.mpr ⟨rfl, q1⟩, ⟨rfl, rfl⟩⟩⟩
  have zz : ∀ (H' : Hp) (O' : Addr → Prop), Lt Hb Mo H' O' → Lt Hb Mo H' O' := fun _ _ z => z
  have hu := hu_of hr
  refine ⟨_, (pss_cons (ps_expr (pe_callO O_check_tape hr (by rfl) pass0 (pa_cons (pe_callO O_width_of hr (by rfl) pass0 (pa_cons (pv 0) pa_nil)) (pa_cons (pv 1) pa_nil))))
 (pss_one (ps_ret (kpe_revL (K := K) (pv 1))))), ?_⟩
  have hw := p0.w4
  refine b_drop ok (p_ev (ev_check_tape (ag_V (ev_width_of (ag_D (ok.dd rfl) ag_nil) (by walk_at "side")) (ag_L (ok.q rfl) ag_nil)) (by walk_at "side") (by walk_at "side"))) fun M σ H ok => ?_
  exact c_ret ok (p_revL (ok.nx rfl rfl)) k zz

def R__law_turned_right (K : PySem.W.Frag) (mg : Str → Option Value) : (Addr → Prop) → List V → Hp → Dt → Pat → Prop := fun F vs H d p => ∃ (rd : Dic) (w : Nat) (t : List Row), AllP [isR F (uD rd), isR F (uL uS t)] vs H ∧ ((RdOk rd w) ∧ (TpOk t w) ∧ True) ∧ d = (Dt.sc (.bl true)) ∧ p = .sh
def sp__law_turned_right (K : PySem.W.Frag) (mg : Str → Option Value) (mL : LmA) : Sp := spT (TT mL) 2 (R__law_turned_right K mg)
theorem ev__law_turned_right {K : PySem.W.Frag} {mg : Str → Option Value} {σ : L2.St} {H : Hp} {tr : TA} {E : XK} {M : Addr → Prop} {mL : LmA} {rd : Dic} {w : Nat} {t : List Row} (al_ : Al M H) (hF_ : ∀ q ∈ TT mL, M q.1) (tT_ : LamX.Tabs (TT mL) H) (h_ : EvAG tr σ H [isR M (uD rd), isR M (uL uS t)]) (p0 : RdOk rd w) (p1 : TpOk t w) : EvX (TT mL) M (tCallO (sp__law_turned_right K mg mL) E tr) σ H (Dt.sc (.bl true)) .sh := x_call al_ hF_ tT_ h_ rfl fun vs H1 hp => ⟨rd, w, t, hp, ⟨p0, p1, trivial⟩, rfl, rfl⟩

theorem ok__law_turned_right (T : Txt K mg) (L : Lam K mg base mL) : OkF P wW K mg base CX0 "_law_turned_right" 7 (sp__law_turned_right K mg mL) := by
  have O_turned_reader : OkF P wW K mg base CX0 "turned_reader" 3 (sp_turned_reader K mg) := ok_turned_reader T
  have O__law_reads : OkF P wW K mg base CX0 "_law_reads" 2 (sp__law_reads K) := ok__law_reads T
  have O__law_mirror : OkF P wW K mg base CX0 "_law_mirror" 1 (sp__law_mirror K mg) := ok__law_mirror T
  obtain ⟨g_, fd_, hm_, ⟨⟨oc_, od_, kV_, doc_, pm_, an_, cdv_, ct_, osl_, rfl, lk_, hcd_⟩, kp_⟩, bn_⟩ := T.d__law_new.ex
  have O_read_tape : OkF P wW K mg base CX0 "read_tape" 3 (sp_read_tape K) := ok_read_tape T
  have O_turned : OkF P wW K mg base CX0 "turned" 3 (sp_turned K mg) := ok_turned T
  have O_backwards : OkF P wW K mg base CX0 "backwards" 3 (sp_backwards K mg) := ok_backwards T
  refine OkF.ofC L.e0 sc__law_turned_right (fun vs H Q E h => h.1) (fun f A outer s Hb vs Q E hr h => ?_)
  obtain ⟨-, F, d0, p0_, al, hFT, tT, ⟨rd, w, t, ⟨v0, r0, rfl, q0, ⟨v1, r1, rfl, q1, rfl⟩⟩, ⟨p0, p1, -⟩, rfl, rfl⟩, k⟩ := h
  have ok : Ok F (ZT (TT mL) Hb) [st (uD rd), st (uL uS t), .una, .una, .una, .una, .una, .una, .una, .una] _ Hb F := Ok.startT al tT ⟨_, _, [], [], rfl, rfl, ow_sh.mpr ⟨rfl, q0⟩, ⟨_, _, [], [], rfl, rfl, ow_sh.mpr ⟨rfl, q1⟩, ⟨_, rfl, ⟨_, rfl, ⟨_, rfl, ⟨_, rfl, ⟨_, rfl, ⟨_, rfl, ⟨_, rfl, ⟨_, rfl, ⟨rfl, rfl⟩⟩⟩⟩⟩⟩⟩⟩⟩⟩⟩
  have zt : ∀ (H' : Hp) (O' : Addr → Prop), ZT (TT mL) Hb H' O' → ZT (TT mL) Hb H' O' := fun _ _ z => z
  have hu := hu_of hr
  refine ⟨_, (pss_cons (ps_asg (pe_tup (pa_cons (pe_callTy ct_dict (by rfl) T.z_dict (by decide +kernel) (pa_cons (pv 0) pa_nil)) (pa_cons (pe_callO O__law_reads hr (by rfl) pass0 (pa_cons (pv 0) (pa_cons (pv 1) pa_nil))) pa_nil))) (pg_tup rfl (pgs_cons (pg_name (i := 3) sc__law_turned_right.nd rfl (.inr rfl)) (pgs_cons (pg_name (i := 7) sc__law_turned_right.nd rfl (.inl rfl)) pgs_nil))))
 (pss_cons (ps_setLc (i := 5) (own := [("_law_row", 6)]) (g := gName 6) rfl sc__law_turned_right.nd rfl rfl (sw_true rfl rfl rfl (by decide +kernel)) (kpi_list (K := K) (pv 1)) (blkOk_by (N := N__law_turned_right) (sc := defScope s__law_turned_right) (by decide +kernel)) (fun _ _ _ _ _ => (pg_name (i := 6) sc__law_turned_right.nd rfl (.inl rfl))) (fun _ _ _ _ _ => pts_nil) (fun _ _ _ _ _ => (pe_callO O__law_mirror hr (by rfl) pass0 (pa_cons (pv 6) pa_nil))))
 (pss_cons (ps_set (i := 8) sc__law_turned_right.nd rfl (.inl rfl) (pe_callO O_turned_reader hr (by rfl) pass0 (pa_cons (pv 3) pa_nil)))
 (pss_cons (ps_if (PW.pt (pw_or (pt_not (pt_val (pe_callB (kcall_isi (K := K)) (by rfl) T.z_isinstance (by decide +kernel) (pa_cons (pv 8) (pa_cons (pe_bltn (v := .ty "dict") (by rfl) T.z_dict (by decide +kernel) rfl) pa_nil))))) (pw_or (pt_cmpR (op_ne_dict hr.units0) (pv 3) (pv 0) (nomark _)) (pw_or1 (pt_cmpR op_ne (pe_callB cb_lenD (by rfl) T.z_len (by decide +kernel) (pa_cons (pv 8) pa_nil)) (pe_callB cb_lenD (by rfl) T.z_len (by decide +kernel) (pa_cons (pv 0) pa_nil)) (nomark _))))))
  (pss_one (ps_ret pe_bl))
  pss_nil)
 (pss_cons (ps_lock (ps_for PassesOwn.never rfl (pi_items (pv 0)) (pg_tup rfl (pgs_cons (pg_name (i := 6) sc__law_turned_right.nd rfl (.inl rfl)) (pgs_cons (pg_name (i := 4) sc__law_turned_right.nd rfl (.inl rfl)) pgs_nil)))
  (pss_one (ps_if (PW.pt (pw_or (pt_cmp (pc_dnotin hu (pe_callO O__law_mirror hr (by rfl) pass0 (pa_cons (pv 6) pa_nil)) (pv 8))) (pw_or1 (pt_cmpR op_ne (pe_dget hu (pv 8) (pe_callO O__law_mirror hr (by rfl) pass0 (pa_cons (pv 6) pa_nil)) (fun _ _ => rfl)) (pv 4) (nomark _)))))
  (pss_one (ps_ret pe_bl))
  pss_nil))))
 (pss_cons (ps_if (pt_not (pt_val (pe_lamcall3 (k := 3) (by rfl) hm_ kp_ lk_ hcd_ bn_ sc__law_new rfl (Or.inl rfl) (fun A outer => gv__law_new T A outer) L.t0 rfl rfl (hr.mono (by decide)) (lamS1_by (sc := defScope s__law_turned_right) (y := "_law_some") (by decide +kernel)) (show ("_law_some" : Str) ∉ N__law_turned_right from by decide +kernel) rfl (fun _ _ _ _ _ _ => rfl) (fun A outer s H f c' hr => (pe_callO O_turned hr (by rfl) pass0 (pa_cons (pv 3) (pa_cons (pv 10) pa_nil)))) (pe_callTy (kct_list (K := K)) (by rfl) T.z_list (by decide +kernel) (pa_cons (pv 1) pa_nil)) (pv 5))))
  (pss_one (ps_ret pe_bl))
  pss_nil)
 (pss_cons (ps_setLc (i := 2) (own := [("_law_at", 9)]) (g := gName 9) rfl sc__law_turned_right.nd rfl rfl (sw_true rfl rfl rfl (by decide +kernel)) (pi_range1 rfl T.z_range (pa_cons (pe_callB (kcb_lenQ (K := K)) (by rfl) T.z_len (by decide +kernel) (pa_cons (pv 1) pa_nil)) pa_nil)) (blkOk_by (N := N__law_turned_right) (sc := defScope s__law_turned_right) (by decide +kernel)) (fun _ _ _ _ _ => (pg_name (i := 9) sc__law_turned_right.nd rfl (.inl rfl))) (fun _ _ _ _ _ => pts_nil) (fun _ _ _ _ _ => (pe_ix (kix_list (K := K)) (pv 1) (pe_op op_sub (pe_op op_sub (pe_callB (kcb_lenQ (K := K)) (by rfl) T.z_len (by decide +kernel) (pa_cons (pv 1) pa_nil)) pe_int) (pv 9)) (fun _ _ => rfl))))
 (pss_cons (ps_if (pt_not (pt_val (pe_lamcall3 (k := 3) (by rfl) hm_ kp_ lk_ hcd_ bn_ sc__law_new rfl (Or.inl rfl) (fun A outer => gv__law_new T A outer) L.t0 rfl rfl (hr.mono (by decide)) (lamS1_by (sc := defScope s__law_turned_right) (y := "_law_some") (by decide +kernel)) (show ("_law_some" : Str) ∉ N__law_turned_right from by decide +kernel) rfl (fun _ _ _ _ _ _ => rfl) (fun A outer s H f c' hr => (pe_callO O_backwards hr (by rfl) pass0 (pa_cons (pv 3) (pa_cons (pv 10) pa_nil)))) (pe_callTy (kct_list (K := K)) (by rfl) T.z_list (by decide +kernel) (pa_cons (pv 1) pa_nil)) (pv 2))))
  (pss_one (ps_ret pe_bl))
  pss_nil)
 (pss_cons (ps_if (PW.pt (pw_or (pt_cmpR op_ne (pe_callO O_read_tape hr (by rfl) pass0 (pa_cons (pv 8) (pa_cons (pv 5) pa_nil))) (pv 7) (nomark _)) (pw_or1 (pt_cmpR op_ne (pe_callO O_read_tape hr (by rfl) pass0 (pa_cons (pv 3) (pa_cons (pe_callO O_backwards hr (by rfl) pass0 (pa_cons (pv 3) (pa_cons (pe_callTy (kct_list (K := K)) (by rfl) T.z_list (by decide +kernel) (pa_cons (pv 1) pa_nil)) pa_nil))) pa_nil))) (pe_callO O__law_mirror hr (by rfl) pass0 (pa_cons (pv 7) pa_nil)) (nomark _)))))
  (pss_one (ps_ret pe_bl))
  pss_nil)
 (pss_cons (ps_dput hu (pv 8) pe_str pe_str rfl)
 (pss_one (ps_ret (pe_cmpR op_eq (pe_callB cb_lenD (by rfl) T.z_len (by decide +kernel) (pa_cons (pe_callO O_turned_reader hr (by rfl) pass0 (pa_cons (pv 3) pa_nil)) pa_nil)) (pe_callB cb_lenD (by rfl) T.z_len (by decide +kernel) (pa_cons (pv 0) pa_nil)) (nomark _)))))))))))))), ?_⟩
  have hw := p0.w4
  have hl := p1.len
  have h16 := p0.len16
  have htr : ∀ r ∈ t, r.length ≤ 4 := fun r hr => by have := isRow_len (p1.row r hr); omega
  have hsm := p1.small
  have hsmT := p1.turn.small
  have hsmR := p1.rev.small
  have hTl : (turnT t).length = t.length := by unfold turnT; rw [List.length_map]
  have hRl : t.reverse.length = t.length := List.length_reverse
  refine b_tup2 (d1 := uD rd) (d2 := uS (textOf rd t)) ok (p_D (ed_dict (ok.dd rfl))) (fun M σ H ok => (p_ev (ev__law_reads (ag_D (ok.dd rfl) (ag_L (ok.q rfl) ag_nil)) p0 (by omega)))) fun M σ H ok => ?_
  have hxl : (textOf rd t).length ≤ t.length := textOf_len p0 t
  have hxr : textOf rd t.reverse = (textOf rd t).reverse := textOf_rev p0 t
  have hxt : textOf (turnD rd) (turnT t) = textOf rd t := textOf_turn rd t
  refine b_asg (d := uL uS (turnT t)) ok (EvP.is (p_lc1 ok (j_listN (ok.nx rfl rfl)) (by omega) (by simp) (fun x1 hx1 M σ H ok => (p_ev (ev__law_mirror (ag_R (ok.ro rfl) ag_nil) (by have := htr x1 hx1; omega))))) mirT) fun M σ H ok => ?_
  refine b_asg (d := uD (turnD rd)) ok (eo_turned_reader (ag_R (ok.ro rfl) ag_nil) p0 (by omega)) fun M σ H ok => ?_
  have hdl : (turnD rd).length = rd.length := by unfold turnD; rw [List.length_map]
  refine b_skip ok (EvT.is (et_or (et_not (et_B (ev_isiD (b := true) (ok.dd rfl) ev_c (by decide +kernel)))) (fun hb26 => (et_or (et_test (ev_neD (ok.dd rfl) (ok.dd rfl))) (fun hb25 => (et_test (ev_neI (ev_lenDS (ok.dd rfl)) (ev_lenDS (ok.dd rfl)))))))) (by simp [dEq_self p0.nd, hdl])) fun M σ H ok => ?_
  have ok : Ok F (ZT (TT mL) Hb) [st (uD rd), st (uL uS t), .una, mu (uD rd), .una, mu (uL uS (turnT t)), .una, st (uS (textOf rd t)), mu (uD (turnD rd)), .una] σ H M := ok
  obtain ⟨M, ok⟩ := ok.share 5 rfl
  refine b_itemsS0 (κ := fun x : Row => Sum.inr (S x)) (f := uS) (r := rd) (fun a n ρ => ∃ x y, ρ = [st (.sc (.ref a)), st (uL uS t), .una, mu (uD rd), x, st (uL uS (turnT t)), y, st (uS (textOf rd t)), mu (uD (turnD rd)), .una]) ok rfl ⟨thin_sh (noD_uL (fun _ => noD_sc) _), thin_D, thin_sh (noD_uL (fun _ => noD_sc) _), thin_sc, thin_D, trivial⟩ (fun _ => noD_sc) (fun _ => tg_name) (fun _ => tg_name) (fun a => ⟨_, _, rfl⟩) (by rintro a n ρ ⟨x, y, rfl⟩; rfl) ?_ ?_
  · rintro a Z1 R1 B1 n ⟨row, letter⟩ ρ M σ H hx ⟨x, y, rfl⟩ ok
    have hm := List.mem_of_getElem? hx
    have hrl : row.length ≤ 100 := by have := rd_len p0 hm; simp only at *; omega
    have ok : Ok F Z1 [st (.sc (.ref a)), st (uL uS t), .una, mu (uD rd), st (uS letter), st (uL uS (turnT t)), st (uS row), st (uS (textOf rd t)), mu (uD (turnD rd)), .una] σ H M := ok
    have hlk : look (turnD rd) row.reverse = some letter := turn_at p0 hm
    have hlg : lookG (turnD rd) row.reverse = some letter := hlk
    exact c_skip ok (EvT.is (et_or (et_B (ev_dninS (ev__law_mirror (ag_R (ok.ro rfl) ag_nil) hrl) (ok.nn rfl))) (fun hb4 => (et_test (ev_neS (ev_dgetG (ok.dd rfl) (ev__law_mirror (ag_R (ok.ro rfl) ag_nil) hrl) (by rw [hlk]; rfl)) (ok.ev rfl))))) (by simp [hlk, hlg])) fun M σ H ok => ⟨_, _, ok, _, _, rfl⟩
  · rintro a ρ M σ H ⟨x, y, rfl⟩ ok
    have ok : Ok F (ZT (TT mL) Hb) [st (uD rd), st (uL uS t), .una, mu (uD rd), x, st (uL uS (turnT t)), y, st (uS (textOf rd t)), mu (uD (turnD rd)), .una] σ H M := ok
    refine b_skipX ok hFT (x_lam3 (T := TT mL) ok hFT (TT_mem0 mL) (TT_dist0 L) (gdP_S hsm (by omega)) (grP hsmT (by omega)) (fun M H ok => (r_o (r_p ok.al (p_list (ok.nx rfl rfl))))) (fun M H ok => (ok.ro rfl)) (fun H v ok => (eo_turned (ag_R (ok.ro rfl) (ag_R (ok.ro rfl) ag_nil)) p0 p1))) fun M σ H ok => ?_
    refine b_asg (d := uL uS t.reverse) ok (EvP.is (p_lc1 ok (j_rng1 (ea_cons (ev_lenQ (ok.q rfl)) ea_nil) (by omega)) (by simp; omega) (by simp) (fun x5 hx5 M σ H ok => (p_ev (ev_ixQ ([] : Row) (ok.q rfl) (ev_sub (ev_sub (ev_lenQ (ok.q rfl)) ev_c) (ok.ev rfl)) (by have := List.mem_range.mp hx5; simp at this; omega) (by have := List.mem_range.mp hx5; simp at this; omega))))) (by rw [← revAt]; exact nd_map (f := uS) (g := fun (i : Nat) => t.getD ((t.length : Int) - 1 - (i : Int)).toNat []))) fun M σ H ok => ?_
    obtain ⟨M, ok⟩ := ok.share 2 rfl
    refine b_skipX ok hFT (x_lam3 (T := TT mL) ok hFT (TT_mem0 mL) (TT_dist0 L) (gdP_S hsm (by omega)) (grP hsmR (by omega)) (fun M H ok => (r_o (r_p ok.al (p_list (ok.nx rfl rfl))))) (fun M H ok => (ok.ro rfl)) (fun H v ok => (eo_backwards (ag_R (ok.ro rfl) (ag_R (ok.ro rfl) ag_nil)) p0 p1))) fun M σ H ok => ?_
    refine b_skip ok (EvT.is (et_or (et_test (ev_neS (ev_read_tape (ag_D (ok.dd rfl) (ag_L (ok.q rfl) ag_nil)) p0.turn p1.turn) (ok.ev rfl))) (fun hb6 => (et_test (ev_neS (ev_read_tape (ag_D (ok.dd rfl) (ag_L (q_p (M := Mo) (eo_backwards (ag_R (ok.ro rfl) (ag_R (r_o (r_p ok.al (p_list (ok.nx rfl rfl)))) ag_nil)) p0 p1)) ag_nil)) p0 p1.rev) (ev__law_mirror (ag_R (ok.ro rfl) ag_nil) (by omega)))))) (by rw [hxt, hxr]; simp)) fun M σ H ok => ?_
    refine b_putS (f := uS) (r := turnD rd) (a := [120]) (b := [120]) ok rfl (r_ev (ev_cS (l := [120]) (by decide +kernel))) (ev_cS (l := [120]) (by decide +kernel)) (by omega) fun M σ H ok => ?_
    exact c_retZ ok (EvP.is (p_ev (ev_eqI (ev_lenDS (d_n (n_p ok.al (eo_turned_reader (ag_R (ok.ro rfl) ag_nil) p0 (by omega))))) (ev_lenDS (ok.dd rfl)))) (by rw [hdl]; simp)) k zt

def R__law_laid (K : PySem.W.Frag) (mg : Str → Option Value) : (Addr → Prop) → List V → Hp → Dt → Pat → Prop := fun F vs H d p => ∃ (t o : List Row) (light : Bool) (w : Nat), AllP [isR F (uL uS t), isR F (uL uS o), isR F (uB light)] vs H ∧ ((TpOk t w) ∧ (TpOk o w) ∧ (w ≤ 4) ∧ True) ∧ d = (uL uS (laidT light t o)) ∧ p = (.ow .sh)
def sp__law_laid (K : PySem.W.Frag) (mg : Str → Option Value) : Sp := spR 3 (R__law_laid K mg)
theorem ev__law_laid {K : PySem.W.Frag} {mg : Str → Option Value} {σ : L2.St} {H : Hp} {tr : TA} {E : XK} {M : Addr → Prop} {t o : List Row} {light : Bool} {w : Nat} (al : Al M H) (h : EvAG tr σ H [isR M (uL uS t), isR M (uL uS o), isR M (uB light)]) (p0 : TpOk t w) (p1 : TpOk o w) (p2 : w ≤ 4) : EvP M (tCallO (sp__law_laid K mg) E tr) σ H (uL uS (laidT light t o)) (.ow .sh) := p_callR al h rfl fun vs H1 hp => ⟨t, o, light, w, hp, ⟨p0, p1, p2, trivial⟩, rfl, rfl⟩
theorem eo__law_laid {K : PySem.W.Frag} {mg : Str → Option Value} {σ : L2.St} {H : Hp} {tr : TA} {E : XK} {M : Addr → Prop} {t o : List Row} {light : Bool} {w : Nat} (h : EvAG tr σ H [isR Mo (uL uS t), isR Mo (uL uS o), isR Mo (uB light)]) (p0 : TpOk t w) (p1 : TpOk o w) (p2 : w ≤ 4) : EvP M (tCallO (sp__law_laid K mg) E tr) σ H (uL uS (laidT light t o)) (.ow .sh) := p_scal (ev__law_laid (Mo_al H) h p0 p1 p2) (scal_LS)

theorem ok__law_laid (T : Txt K mg) : OkF P wW K mg base CX0 "_law_laid" 1 (sp__law_laid K mg) := by
  refine OkF.of T.d__law_laid sc__law_laid (fun vs H Q E h => h.1) (fun f cdv A outer s Hb vs Q E hr h => ?_)
  obtain ⟨-, F, d0, p0_, al, ⟨t, o, light, w, ⟨v0, r0, rfl, q0, ⟨v1, r1, rfl, q1, ⟨v2, r2, rfl, q2, rfl⟩⟩⟩, ⟨p0, p1, p2, -⟩, rfl, rfl⟩, k⟩ := h
  have ok : Ok F (fun H' O' => Lt Hb Mo H' O') [st (uL uS t), st (uL uS o), st (uB light), .una, .una, .una, .una, .una, .una, .una, .una] _ Hb F := Ok.start al ⟨_, _, [], [], rfl, rfl, ow_sh.mpr ⟨rfl, q0⟩, ⟨_, _, [], [], rfl, rfl, ow_sh.mpr ⟨rfl, q1⟩, ⟨_, _, [], [], rfl, rfl, ow_sh.mpr ⟨rfl, q2⟩, ⟨_, rfl, ⟨_, rfl, ⟨_, rfl, ⟨_, rfl, ⟨_, rfl, ⟨_, rfl, ⟨_, rfl, ⟨_, rfl, ⟨rfl, rfl⟩⟩⟩⟩⟩⟩⟩⟩⟩⟩⟩⟩
  have zz : ∀ (H' : Hp) (O' : Addr → Prop), Lt Hb Mo H' O' → Lt Hb Mo H' O' := fun _ _ z => z
  have hu := hu_of hr
  refine ⟨_, (pss_cons (ps_set (i := 5) sc__law_laid.nd rfl (.inl rfl) (pe_lst pa_nil))
 (pss_cons (ps_for PassesOwn.never rfl (kpi_zip (K := K) (by rfl) T.z_zip (pa_cons (pv 0) (pa_cons (pv 1) pa_nil))) (pg_tup rfl (pgs_cons (pg_name (i := 7) sc__law_laid.nd rfl (.inl rfl)) (pgs_cons (pg_name (i := 9) sc__law_laid.nd rfl (.inl rfl)) pgs_nil)))
  (pss_cons (ps_set (i := 8) sc__law_laid.nd rfl (.inl rfl) pe_str)
 (pss_cons (ps_for PassesOwn.never rfl (pi_zipSS (by rfl) T.z_zip (pa_cons (pv 7) (pa_cons (pv 9) pa_nil))) (pg_tup rfl (pgs_cons (pg_name (i := 3) sc__law_laid.nd rfl (.inl rfl)) (pgs_cons (pg_name (i := 4) sc__law_laid.nd rfl (.inl rfl)) pgs_nil)))
  (pss_cons (ps_set (i := 6) sc__law_laid.nd rfl (.inl rfl) (pe_callB (kcb_lenQ (K := K)) (by rfl) T.z_len (by decide +kernel) (pa_cons (pe_lc (own := [("_law_sign", 10)]) (g := gName 10) rfl sc__law_laid.nd (kpi_tup (K := K) (pe_tup (pa_cons (pv 3) (pa_cons (pv 4) pa_nil)))) (blkOk_by (N := N__law_laid) (sc := defScope s__law_laid) (by decide +kernel)) (fun _ _ _ _ _ => (pg_name (i := 10) sc__law_laid.nd rfl (.inl rfl))) (fun _ _ _ _ _ => (pts_one (pt_cmpR op_eq (pv 10) pe_str (nomark _)))) (fun _ _ _ _ _ => (pv 10))) pa_nil)))
 (pss_one (ps_augS (i := 8) sc__law_laid.nd rfl (.inl rfl) (pe_ifExp (PW.pt (pw_or (pt_cmpR op_eq (pv 6) pe_int (nomark _)) (pw_or1 (PW.pt (pw_and (pt_cmpR op_eq (pv 6) pe_int (nomark _)) (pw_and1 (pt_not (pt_val (pv 2))))))))) pe_str pe_str)))))
 (pss_one (ps_expr (pe_bm PySem.F.plainAttrs_list PySem.F.slot_list_append PySem.F.type_list_append mt_append (pv 5) (pa_cons (pv 8) pa_nil)))))))
 (pss_one (ps_ret (pv 5))))), ?_⟩
  have hl := p0.len
  refine b_asg (d := uL uS []) ok (p_lst (ds := []) rs_nil (by simp)) fun M σ H ok => ?_
  refine b_for (fun i ρ => ∃ a b d e f g, ρ = [st (uL uS t), st (uL uS o), st (uB light), a, b, mu (uL uS (((t.zip o).take i).map fun p => laidR light p.1 p.2)), d, e, f, g, .una]) ok (j_zip (ok.r rfl) (ok.r rfl)) ⟨_, _, _, _, _, _, rfl⟩ ?_ ?_
  · rintro Z1 z1 i ⟨r, q⟩ ρ M σ H hi ⟨a, b, d, e, f, g, rfl⟩ ok
    have hi0 : (t.zip o)[i]? = some (r, q) := hi
    have hm := List.of_mem_zip (List.mem_of_getElem? hi0)
    have hrl := isRow_len (p0.row r hm.1)
    have hil := (List.getElem?_eq_some_iff.mp hi0).1
    rw [List.length_zip] at hil
    have ok : Ok F Z1 [st (uL uS t), st (uL uS o), st (uB light), a, b, mu (uL uS (((t.zip o).take i).map fun p => laidR light p.1 p.2)), d, st (uS r), f, st (uS q), .una] σ H M := ok
    refine b_asg (d := uS []) ok (p_ev (ev_cS lit_nil)) fun M σ H ok => ?_
    refine b_for (fun j ρ => ∃ a b d, ρ = [st (uL uS t), st (uL uS o), st (uB light), a, b, mu (uL uS (((t.zip o).take i).map fun p => laidR light p.1 p.2)), d, st (uS r), st (uS (((r.zip q).take j).map fun p => lSign light p.1 p.2)), st (uS q), .una]) ok (j_zipSS (ok.ev rfl) (ok.ev rfl)) ⟨_, _, _, rfl⟩ ?_ ?_
    · rintro Z2 z2 j ⟨x, y⟩ ρ M σ H hj ⟨a, b, d, rfl⟩ ok
      have hj0 : (r.zip q)[j]? = some (x, y) := hj
      have hjl := (List.getElem?_eq_some_iff.mp hj0).1
      rw [List.length_zip] at hjl
      have ok : Ok F Z2 [st (uL uS t), st (uL uS o), st (uB light), st (uS [x]), st (uS [y]), mu (uL uS (((t.zip o).take i).map fun p => laidR light p.1 p.2)), d, st (uS r), st (uS (((r.zip q).take j).map fun p => lSign light p.1 p.2)), st (uS q), .una] σ H M := ok
      refine b_asg (d := uI (([[x], [y]].filter fun s => decide (s = [111])).length : Int)) ok (p_ev (ev_lenQ (q_p (p_lc (f := uS) (l := [[x], [y]]) ok (EvJ.e (j_tupR (f := uS) (l := [[x], [y]]) (r_p ok.al (p_tup (rs_cons (r_ev (ok.ev rfl)) (rs_cons (r_ev (ok.ev rfl)) rs_nil)) (by simp))))) (by simp) (by simp) (fun x2 hx2 M σ H ok => (et_test (ev_eqS (ok.ev rfl) (ev_cS lit_o)))) (fun x2 hx2 hy2 M σ H ok => (p_ev (ok.ev rfl))))))) fun M σ H ok => ?_
      have e1 : ((r.zip q).take (j + 1)).map (fun p => lSign light p.1 p.2) = ((r.zip q).take j).map (fun p => lSign light p.1 p.2) ++ [lSign light x y] := by
        rw [List.take_succ, hj0, List.map_append]
        rfl
      refine c_augS (a := ((r.zip q).take j).map fun p => lSign light p.1 p.2) (b := [lSign light x y]) ok rfl (Ev.is (ev_ifS (et_or (et_test (ev_eqI (ok.ev rfl) ev_c)) (fun hb33 => (et_and (et_test (ev_eqI (ok.ev rfl) ev_c)) (fun hb32 => (et_not (et_B (ok.ev rfl))))))) (fun hb34 => (ev_cS lit_o)) (fun hb34 => (ev_cS lit_dot))) ?_) (by rw [List.length_map, List.length_take, List.length_zip]; simp; omega) fun M σ H ok => ⟨_, _, ok, _, _, _, by rw [e1]; rfl⟩
      by_cases h1 : x = 111 <;> by_cases h2 : y = 111 <;> cases light <;> simp [h1, h2, lSign]
    · rintro ρ M σ H ⟨a, b, d, rfl⟩ ok
      have ok : Ok F Z1 [st (uL uS t), st (uL uS o), st (uB light), a, b, mu (uL uS (((t.zip o).take i).map fun p => laidR light p.1 p.2)), d, st (uS r), st (uS (((r.zip q).take (r.zip q).length).map fun p => lSign light p.1 p.2)), st (uS q), .una] σ H M := ok
      rw [List.take_length] at ok
      refine c_app (f := uS) (x := laidR light r q) ok rfl (r_ev (ok.ev rfl)) (by rw [List.length_map, List.length_take]; omega) fun M σ H ok => ⟨_, _, ok, a, b, d, st (uS r), st (uS (laidR light r q)), st (uS q), ?_⟩
      have e1 : ((t.zip o).take (i + 1)).map (fun p => laidR light p.1 p.2) = ((t.zip o).take i).map (fun p => laidR light p.1 p.2) ++ [laidR light r q] := by
        rw [List.take_succ, hi0, List.map_append]
        rfl
      rw [e1]
      rfl
  · rintro ρ M σ H ⟨a, b, d, e, f, g, rfl⟩ ok
    have ok : Ok F _ [st (uL uS t), st (uL uS o), st (uB light), a, b, mu (uL uS (((t.zip o).take (t.zip o).length).map fun p => laidR light p.1 p.2)), d, e, f, g, .una] σ H M := ok
    rw [List.take_length] at ok
    exact c_retv ok rfl k zz

def R_check_two (K : PySem.W.Frag) : List V → Hp → V → Prop := fun vs H z => ∃ (w : Nat) (t o : List Row), AllP [isV (.int (w : Int)), isL K (Txts t), isL K (Txts o)] vs H ∧ ((TpOk t w) ∧ (TpOk o w) ∧ (w ≤ 4) ∧ (t.length = o.length) ∧ True) ∧ z = .non
def sp_check_two (K : PySem.W.Frag) : Sp := spV  3 (R_check_two K)
theorem ev_check_two {K : PySem.W.Frag} {σ : L2.St} {H : Hp} {tr : TA} {E : XK} {w : Nat} {t o : List Row} (h : EvAG tr σ H [isV (.int (w : Int)), isL K (Txts t), isL K (Txts o)]) (p0 : TpOk t w) (p1 : TpOk o w) (p2 : w ≤ 4) (p3 : t.length = o.length) : Ev (tCallO (sp_check_two K) E tr) σ H (.non) := ev_callG h rfl fun vs H1 e hp => ⟨w, t, o, hp, ⟨p0, p1, p2, p3, trivial⟩, rfl⟩

theorem ok_check_two (T : Txt K mg) : OkF P wW K mg base CX0 "check_two" 3 (sp_check_two K) := by
  have O_check_tape : OkF P wW K mg base CX0 "check_tape" 2 (sp_check_tape K) := ok_check_tape T
  refine OkF.of T.d_check_two sc_check_two (fun vs H Q E h => h.1) (fun f cdv A outer s H vs Q E hr h => ?_)
  obtain ⟨-, z, H0, e0, ⟨w, t, o, ⟨v0, r0, rfl, rfl, ⟨v1, r1, rfl, ⟨a1, rfl, q1⟩, ⟨v2, r2, rfl, ⟨a2, rfl, q2⟩, rfl⟩⟩⟩, ⟨p0, p1, p2, p3, -⟩, rfl⟩, k⟩ := h
  have h1 := exl e0 q1
  clear q1
  have h2 := exl e0 q2
  clear q2
  clear e0 H0
  have hu := hu_of hr
  refine ⟨_, (pss_cons (ps_expr (pe_callO O_check_tape hr (by rfl) pass0 (pa_cons (pv 0) (pa_cons (pv 1) pa_nil))))
 (pss_cons (ps_expr (pe_callO O_check_tape hr (by rfl) pass0 (pa_cons (pv 0) (pa_cons (pv 2) pa_nil))))
 (pss_one (ps_if (pt_cmpR op_ne (pe_callB (kcb_lenQ (K := K)) (by rfl) T.z_len (by decide +kernel) (pa_cons (pv 1) pa_nil)) (pe_callB (kcb_lenQ (K := K)) (by rfl) T.z_len (by decide +kernel) (pa_cons (pv 2) pa_nil)) (nomark _))
  (pss_one ps_never)
  pss_nil)))), ?_⟩
  refine q_drop (ev_check_tape (ag_V (ev_var rfl) (ag_L (q_old (ev_var rfl) (by walk_at "fact")) ag_nil)) (by walk_at "side") (by walk_at "side")) fun H1 e1 => ?_
  refine q_drop (ev_check_tape (ag_V (ev_var rfl) (ag_L (q_old (ev_var rfl) (by walk_at "fact")) ag_nil)) (by walk_at "side") (by walk_at "side")) fun H2 e2 => ?_
  refine s_skip (EvT.is (et_test (ev_neI (ev_lenQ (q_old (ev_var rfl) (by walk_at "fact"))) (ev_lenQ (q_old (ev_var rfl) (by walk_at "fact"))))) ?_) fun H3 e3 => k H3 ((e1.trans e2).trans e3)
  rw [p3]
  simp

def R_laid_rows (K : PySem.W.Frag) (mg : Str → Option Value) : (Addr → Prop) → List V → Hp → Dt → Pat → Prop := fun F vs H d p => ∃ (r q : Row) (light : Bool), AllP [isR F (uS r), isR F (uS q), isR F (uB light)] vs H ∧ ((r.length ≤ 1000) ∧ True) ∧ d = (Dt.sc (VS (laidR light r q))) ∧ p = .sh
def sp_laid_rows (K : PySem.W.Frag) (mg : Str → Option Value) : Sp := spR 3 (R_laid_rows K mg)
theorem ev_laid_rows {K : PySem.W.Frag} {mg : Str → Option Value} {σ : L2.St} {H : Hp} {tr : TA} {E : XK} {r q : Row} {light : Bool} (h : EvAG tr σ H [isR Mo (uS r), isR Mo (uS q), isR Mo (uB light)]) (p0 : r.length ≤ 1000) : Ev (tCallO (sp_laid_rows K mg) E tr) σ H (VS (laidR light r q)) := ev_p (M := Mo) (p := .sh) (p_callR (Mo_al H) h rfl fun vs H1 hp => ⟨r, q, light, hp, ⟨p0, trivial⟩, rfl, rfl⟩)

theorem ok_laid_rows (T : Txt K mg) : OkF P wW K mg base CX0 "laid_rows" 1 (sp_laid_rows K mg) := by
  refine OkF.of T.d_laid_rows sc_laid_rows (fun vs H Q E h => h.1) (fun f cdv A outer s Hb vs Q E hr h => ?_)
  obtain ⟨-, F, d0, p0_, al, ⟨r, q, light, ⟨v0, r0, rfl, q0, ⟨v1, r1, rfl, q1, ⟨v2, r2, rfl, q2, rfl⟩⟩⟩, ⟨p0, -⟩, rfl, rfl⟩, k⟩ := h
  have ok : Ok F (fun H' O' => Lt Hb Mo H' O') [st (uS r), st (uS q), st (uB light), .una, .una] _ Hb F := Ok.start al ⟨_, _, [], [], rfl, rfl, ow_sh.mpr ⟨rfl, q0⟩, ⟨_, _, [], [], rfl, rfl, ow_sh.mpr ⟨rfl, q1⟩, ⟨_, _, [], [], rfl, rfl, ow_sh.mpr ⟨rfl, q2⟩, ⟨_, rfl, ⟨_, rfl, ⟨rfl, rfl⟩⟩⟩⟩⟩⟩
  have zz : ∀ (H' : Hp) (O' : Addr → Prop), Lt Hb Mo H' O' → Lt Hb Mo H' O' := fun _ _ z => z
  have hu := hu_of hr
  refine ⟨_, (pss_cons (ps_if (pt_val (pv 2))
  (pss_one (ps_ret (kpe_joinQ (K := K) pe_str (pe_lc (own := [("mine", 3), ("yours", 4)]) (g := gTup K 2 (gCons (gName 3) (gCons (gName 4) gNil))) rfl sc_laid_rows.nd (pi_zipSS (by rfl) T.z_zip (pa_cons (pv 0) (pa_cons (pv 1) pa_nil))) (blkOk_by (N := N_laid_rows) (sc := defScope s_laid_rows) (by decide +kernel)) (fun _ _ _ _ _ => (pg_tup rfl (pgs_cons (pg_name (i := 3) sc_laid_rows.nd rfl (.inl rfl)) (pgs_cons (pg_name (i := 4) sc_laid_rows.nd rfl (.inl rfl)) pgs_nil)))) (fun _ _ _ _ _ => pts_nil) (fun _ _ _ _ _ => (pe_ifExp (pt_cmpR op_eq (pe_op op_addS (pv 3) (pv 4)) (pe_op op_mulS (pe_gs (by rfl) T.c_HOLE) pe_int) (nomark _)) (pe_gs (by rfl) T.c_HOLE) (pe_gs (by rfl) T.c_BLANK)))))))
  pss_nil)
 (pss_one (ps_ret (kpe_joinQ (K := K) pe_str (pe_lc (own := [("mine", 3), ("yours", 4)]) (g := gTup K 2 (gCons (gName 3) (gCons (gName 4) gNil))) rfl sc_laid_rows.nd (pi_zipSS (by rfl) T.z_zip (pa_cons (pv 0) (pa_cons (pv 1) pa_nil))) (blkOk_by (N := N_laid_rows) (sc := defScope s_laid_rows) (by decide +kernel)) (fun _ _ _ _ _ => (pg_tup rfl (pgs_cons (pg_name (i := 3) sc_laid_rows.nd rfl (.inl rfl)) (pgs_cons (pg_name (i := 4) sc_laid_rows.nd rfl (.inl rfl)) pgs_nil)))) (fun _ _ _ _ _ => pts_nil) (fun _ _ _ _ _ => (pe_ifExp (pt_cmpR op_inC (pe_gs (by rfl) T.c_HOLE) (pe_op op_addS (pv 3) (pv 4)) rfl) (pe_gs (by rfl) T.c_HOLE) (pe_gs (by rfl) T.c_BLANK)))))))), ?_⟩
  have hz : (r.zip q).length ≤ 1000 := by rw [List.length_zip]; omega
  have e1 : ((r.zip q).map fun p => if decide ([p.1] ++ [p.2] = (List.replicate (2 : Int).toNat [111]).flatten) = true then [111] else [46]).flatten = laidR true r q := by
    unfold laidR
    refine flat_one fun p _ => ?_
    unfold lSign
    by_cases h1 : p.1 = 111 <;> by_cases h2 : p.2 = 111 <;> simp [h1, h2]
  have e2 : ((r.zip q).map fun p => if decide (111 ∈ [p.1] ++ [p.2]) = true then [111] else [46]).flatten = laidR false r q := by
    unfold laidR
    refine flat_one fun p _ => ?_
    unfold lSign
    by_cases h1 : p.1 = 111 <;> by_cases h2 : p.2 = 111 <;> simp [h1, h2, eq_comm]
  refine b_when (b := light) ok (et_B (ok.ev rfl)) (fun hb M σ H ok => ?_) (fun hb M σ H ok => ?_)
  · subst hb
    exact c_ret ok (EvP.is (p_ev (ev_joinQ (ev_cS lit_nil) (q_p (p_lc1 ok (j_zipSS (ok.ev rfl) (ok.ev rfl)) (by omega) (by simp) (fun x1 hx1 M σ H ok => (p_ev (ev_ifS (et_test (ev_eqS (ev_addS (ok.ev rfl) (ok.ev rfl) (by simp)) (ev_mulS (a := [111]) ev_c ev_c (by decide) (by decide) (by decide)))) (fun hb2 => ev_c) (fun hb2 => ev_c)))))) (by rw [e1]; unfold laidR; rw [List.length_map]; omega))) (by rw [e1])) k zz
  · subst hb
    exact c_ret ok (EvP.is (p_ev (ev_joinQ (ev_cS lit_nil) (q_p (p_lc1 ok (j_zipSS (ok.ev rfl) (ok.ev rfl)) (by omega) (by simp) (fun x3 hx3 M σ H ok => (p_ev (ev_ifS (et_test (ev_inC ev_c (ev_addS (ok.ev rfl) (ok.ev rfl) (by simp)))) (fun hb4 => ev_c) (fun hb4 => ev_c)))))) (by rw [e2]; unfold laidR; rw [List.length_map]; omega))) (by rw [e2])) k zz

def R_laid (K : PySem.W.Frag) (mg : Str → Option Value) : (Addr → Prop) → List V → Hp → Dt → Pat → Prop := fun F vs H d p => ∃ (rd : Dic) (w : Nat) (t o : List Row) (light : Bool), AllP [isR F (uD rd), isR F (uL uS t), isR F (uL uS o), isR F (uB light)] vs H ∧ ((RdOk rd w) ∧ (TpOk t w) ∧ (TpOk o w) ∧ (t.length = o.length) ∧ True) ∧ d = (uL uS (laidT light t o)) ∧ p = (.ow .sh)
def sp_laid (K : PySem.W.Frag) (mg : Str → Option Value) : Sp := spR 4 (R_laid K mg)
theorem ev_laid {K : PySem.W.Frag} {mg : Str → Option Value} {σ : L2.St} {H : Hp} {tr : TA} {E : XK} {M : Addr → Prop} {rd : Dic} {w : Nat} {t o : List Row} {light : Bool} (al : Al M H) (h : EvAG tr σ H [isR M (uD rd), isR M (uL uS t), isR M (uL uS o), isR M (uB light)]) (p0 : RdOk rd w) (p1 : TpOk t w) (p2 : TpOk o w) (p3 : t.length = o.length) : EvP M (tCallO (sp_laid K mg) E tr) σ H (uL uS (laidT light t o)) (.ow .sh) := p_callR al h rfl fun vs H1 hp => ⟨rd, w, t, o, light, hp, ⟨p0, p1, p2, p3, trivial⟩, rfl, rfl⟩
theorem eo_laid {K : PySem.W.Frag} {mg : Str → Option Value} {σ : L2.St} {H : Hp} {tr : TA} {E : XK} {M : Addr → Prop} {rd : Dic} {w : Nat} {t o : List Row} {light : Bool} (h : EvAG tr σ H [isR Mo (uD rd), isR Mo (uL uS t), isR Mo (uL uS o), isR Mo (uB light)]) (p0 : RdOk rd w) (p1 : TpOk t w) (p2 : TpOk o w) (p3 : t.length = o.length) : EvP M (tCallO (sp_laid K mg) E tr) σ H (uL uS (laidT light t o)) (.ow .sh) := p_scal (ev_laid (Mo_al H) h p0 p1 p2 p3) (scal_LS)

theorem ok_laid (T : Txt K mg) : OkFD P wW K mg base CX0 "laid" 4 (sp_laid K mg) [.bl false] := by
  have O_check_two : OkF P wW K mg base CX0 "check_two" 3 (sp_check_two K) := ok_check_two T
  have O_width_of : OkF P wW K mg base CX0 "width_of" 2 (sp_width_of K) := ok_width_of T
  have O_laid_rows : OkF P wW K mg base CX0 "laid_rows" 1 (sp_laid_rows K mg) := ok_laid_rows T
  refine OkFD.of T.d_laid sc_laid (fun vs H Q E h => h.1) (fun f cdv A outer s Hb vs Q E hr h => ?_)
  obtain ⟨-, F, d0, p0_, al, ⟨rd, w, t, o, light, ⟨v0, r0, rfl, q0, ⟨v1, r1, rfl, q1, ⟨v2, r2, rfl, q2, ⟨v3, r3, rfl, q3, rfl⟩⟩⟩⟩, ⟨p0, p1, p2, p3, -⟩, rfl, rfl⟩, k⟩ := h
  have ok : Ok F (fun H' O' => Lt Hb Mo H' O') [st (uD rd), st (uL uS t), st (uL uS o), st (uB light), .una, .una] _ Hb F := Ok.start al ⟨_, _, [], [], rfl, rfl, ow_sh.mpr ⟨rfl, q0⟩, ⟨_, _, [], [], rfl, rfl, ow_sh.mpr ⟨rfl, q1⟩, ⟨_, _, [], [], rfl, rfl, ow_sh.mpr ⟨rfl, q2⟩, ⟨_, _, [], [], rfl, rfl, ow_sh.mpr ⟨rfl, q3⟩, ⟨_, rfl, ⟨_, rfl, ⟨rfl, rfl⟩⟩⟩⟩⟩⟩⟩
  have zz : ∀ (H' : Hp) (O' : Addr → Prop), Lt Hb Mo H' O' → Lt Hb Mo H' O' := fun _ _ z => z
  have hu := hu_of hr
  refine ⟨_, (pss_cons (ps_expr (pe_callO O_check_two hr (by rfl) pass0 (pa_cons (pe_callO O_width_of hr (by rfl) pass0 (pa_cons (pv 0) pa_nil)) (pa_cons (pv 1) (pa_cons (pv 2) pa_nil)))))
 (pss_one (ps_ret (pe_lc (own := [("mine", 4), ("yours", 5)]) (g := gTup K 2 (gCons (gName 4) (gCons (gName 5) gNil))) rfl sc_laid.nd (kpi_zip (K := K) (by rfl) T.z_zip (pa_cons (pv 1) (pa_cons (pv 2) pa_nil))) (blkOk_by (N := N_laid) (sc := defScope s_laid) (by decide +kernel)) (fun _ _ _ _ _ => (pg_tup rfl (pgs_cons (pg_name (i := 4) sc_laid.nd rfl (.inl rfl)) (pgs_cons (pg_name (i := 5) sc_laid.nd rfl (.inl rfl)) pgs_nil)))) (fun _ _ _ _ _ => pts_nil) (fun _ _ _ _ _ => (pe_callO O_laid_rows hr (by rfl) pass0 (pa_cons (pv 4) (pa_cons (pv 5) (pa_cons (pv 3) pa_nil))))))))), ?_⟩
  have hw := p0.w4
  have hl := p1.len
  have hz : (t.zip o).length ≤ 1000 := by rw [List.length_zip]; omega
  refine b_drop ok (p_ev (ev_check_two (ag_V (ev_width_of (ag_D (ok.dd rfl) ag_nil) (by walk_at "side")) (ag_L (ok.q rfl) (ag_L (ok.q rfl) ag_nil))) (by walk_at "side") (by walk_at "side") (by walk_at "side") (by walk_at "side"))) fun M σ H ok => ?_
  exact c_ret ok (EvP.is (p_lc1 ok (EvJ.e (j_zip (ok.r rfl) (ok.r rfl))) (by omega) (by simp) (fun x1 hx1 M σ H ok => (p_ev (ev_laid_rows (ag_R (ok.ro rfl) (ag_R (ok.ro rfl) (ag_R (ok.ro rfl) ag_nil))) (by have := isRow_len (p1.row _ (List.of_mem_zip hx1).1); omega))))) (nd_map (f := uS) (g := fun p : Row × Row => laidR light p.1 p.2))) k zz

def R_goes_over (K : PySem.W.Frag) : List V → Hp → V → Prop := fun vs H z => ∃ (r o : Row), AllP [isV (VS r), isV (VS o)] vs H ∧ ((r.length ≤ 40000) ∧ True) ∧ z = .bl (goes r o)
def sp_goes_over (K : PySem.W.Frag) : Sp := spV  2 (R_goes_over K)
theorem ev_goes_over {K : PySem.W.Frag} {σ : L2.St} {H : Hp} {tr : TA} {E : XK} {r o : Row} (h : EvAG tr σ H [isV (VS r), isV (VS o)]) (p0 : r.length ≤ 40000) : Ev (tCallO (sp_goes_over K) E tr) σ H (.bl (goes r o)) := ev_callG h rfl fun vs H1 e hp => ⟨r, o, hp, ⟨p0, trivial⟩, rfl⟩

theorem ok_goes_over (T : Txt K mg) : OkF P wW K mg base CX0 "goes_over" 1 (sp_goes_over K) := by
  refine OkF.of T.d_goes_over sc_goes_over (fun vs H Q E h => h.1) (fun f cdv A outer s H vs Q E hr h => ?_)
  obtain ⟨-, z, H0, e0, ⟨r, o, ⟨v0, r0, rfl, rfl, ⟨v1, r1, rfl, rfl, rfl⟩⟩, ⟨p0, -⟩, rfl⟩, k⟩ := h
  clear e0 H0
  have hu := hu_of hr
  refine ⟨_, (pss_one (ps_ret (pe_not (pe_callB (kcr_any (K := K) rfl) (by rfl) T.z_any (by decide +kernel) (pa_cons (pe_lc (own := [("one", 2), ("new", 3)]) (g := gTup K 2 (gCons (gName 2) (gCons (gName 3) gNil))) rfl sc_goes_over.nd (pi_zipSS (by rfl) T.z_zip (pa_cons (pv 0) (pa_cons (pv 1) pa_nil))) (blkOk_by (N := N_goes_over) (sc := defScope s_goes_over) (by decide +kernel)) (fun _ _ _ _ _ => (pg_tup rfl (pgs_cons (pg_name (i := 2) sc_goes_over.nd rfl (.inl rfl)) (pgs_cons (pg_name (i := 3) sc_goes_over.nd rfl (.inl rfl)) pgs_nil)))) (fun _ _ _ _ _ => pts_nil) (fun _ _ _ _ _ => (pe_and (pe_cmpR op_eq (pv 2) (pe_gs (by rfl) T.c_HOLE) (nomark _)) (pe_one (pe_cmpR op_eq (pv 3) (pe_gs (by rfl) T.c_BLANK) (nomark _)))))) pa_nil))))), ?_⟩
  exact s_ret2 (Ev.is (ev_notV (ev_anyQ (q_new (el_lc1 (i_zipSS (ev_var rfl) (ev_var rfl)) (by walk_at "len") (fun _ => wipe_two _ (by decide) _ _) (fun x40 hx40 H140 e140 => (ev_andV (ev_eqS (ev_var rfl) ev_c) (fun hb41 => (ev_eqS (ev_var rfl) ev_c)))))))) rfl) k

def R_over (K : PySem.W.Frag) : List V → Hp → V → Prop := fun vs H z => ∃ (t o : List Row), AllP [isL K (Txts t), isL K (Txts o)] vs H ∧ ((t.length ≤ 40000) ∧ (∀ r ∈ t, r.length ≤ 40000) ∧ True) ∧ z = .bl (overB t o)
def sp_over (K : PySem.W.Frag) : Sp := spV  2 (R_over K)
theorem ev_over {K : PySem.W.Frag} {σ : L2.St} {H : Hp} {tr : TA} {E : XK} {t o : List Row} (h : EvAG tr σ H [isL K (Txts t), isL K (Txts o)]) (p0 : t.length ≤ 40000) (p1 : ∀ r ∈ t, r.length ≤ 40000) : Ev (tCallO (sp_over K) E tr) σ H (.bl (overB t o)) := ev_callG h rfl fun vs H1 e hp => ⟨t, o, hp, ⟨p0, p1, trivial⟩, rfl⟩

theorem ok_over (T : Txt K mg) : OkF P wW K mg base CX0 "over" 2 (sp_over K) := by
  have O_goes_over : OkF P wW K mg base CX0 "goes_over" 1 (sp_goes_over K) := ok_goes_over T
  refine OkF.of T.d_over sc_over (fun vs H Q E h => h.1) (fun f cdv A outer s H vs Q E hr h => ?_)
  obtain ⟨-, z, H0, e0, ⟨t, o, ⟨v0, r0, rfl, ⟨a0, rfl, q0⟩, ⟨v1, r1, rfl, ⟨a1, rfl, q1⟩, rfl⟩⟩, ⟨p0, p1, -⟩, rfl⟩, k⟩ := h
  have h0 := exl e0 q0
  clear q0
  have h1 := exl e0 q1
  clear q1
  clear e0 H0
  have hu := hu_of hr
  refine ⟨_, (pss_one (ps_ret (pe_and (pe_cmpR op_eq (pe_callB (kcb_lenQ (K := K)) (by rfl) T.z_len (by decide +kernel) (pa_cons (pv 0) pa_nil)) (pe_callB (kcb_lenQ (K := K)) (by rfl) T.z_len (by decide +kernel) (pa_cons (pv 1) pa_nil)) (nomark _)) (pe_one (pe_callB (kcr_all (K := K) rfl) (by rfl) T.z_all (by decide +kernel) (pa_cons (pe_lc (own := [("one", 2), ("new", 3)]) (g := gTup K 2 (gCons (gName 2) (gCons (gName 3) gNil))) rfl sc_over.nd (kpi_zip (K := K) (by rfl) T.z_zip (pa_cons (pv 0) (pa_cons (pv 1) pa_nil))) (blkOk_by (N := N_over) (sc := defScope s_over) (by decide +kernel)) (fun _ _ _ _ _ => (pg_tup rfl (pgs_cons (pg_name (i := 2) sc_over.nd rfl (.inl rfl)) (pgs_cons (pg_name (i := 3) sc_over.nd rfl (.inl rfl)) pgs_nil)))) (fun _ _ _ _ _ => pts_nil) (fun _ _ _ _ _ => (pe_callO O_goes_over hr (by rfl) pass0 (pa_cons (pv 2) (pa_cons (pv 3) pa_nil))))) pa_nil)))))), ?_⟩
  have hz : ∀ p ∈ t.zip o, p.1.length ≤ 40000 := fun p h => p1 _ (List.of_mem_zip h).1
  exact s_ret2 (Ev.is (ev_andV (ev_eqI (ev_lenQ (q_old (ev_var rfl) (by walk_at "fact"))) (ev_lenQ (q_old (ev_var rfl) (by walk_at "fact")))) (fun hb43 => (ev_allQ (q_new (el_lc1 (i_zip (qa_old (ev_var rfl) (by walk_at "fact") trivial) (qa_old (ev_var rfl) (by walk_at "fact") trivial)) (by walk_at "len") (fun _ => wipe_two _ (by decide) _ _) (fun x42 hx42 H142 e142 => (ev_goes_over (ag_V (ev_var rfl) (ag_V (ev_var rfl) ag_nil)) (by walk_at "side")))))))) rfl) k

def R_becomes (K : PySem.W.Frag) : List V → Hp → V → Prop := fun vs H z => ∃ (rd : Dic) (w : Nat) (t o : List Row), AllP [isD (DS rd), isL K (Txts t), isL K (Txts o)] vs H ∧ ((RdOk rd w) ∧ (TpOk t w) ∧ (TpOk o w) ∧ (t.length = o.length) ∧ True) ∧ z = .bl (overB t o)
def sp_becomes (K : PySem.W.Frag) : Sp := spV  3 (R_becomes K)
theorem ev_becomes {K : PySem.W.Frag} {σ : L2.St} {H : Hp} {tr : TA} {E : XK} {rd : Dic} {w : Nat} {t o : List Row} (h : EvAG tr σ H [isD (DS rd), isL K (Txts t), isL K (Txts o)]) (p0 : RdOk rd w) (p1 : TpOk t w) (p2 : TpOk o w) (p3 : t.length = o.length) : Ev (tCallO (sp_becomes K) E tr) σ H (.bl (overB t o)) := ev_callG h rfl fun vs H1 e hp => ⟨rd, w, t, o, hp, ⟨p0, p1, p2, p3, trivial⟩, rfl⟩

theorem ok_becomes (T : Txt K mg) : OkF P wW K mg base CX0 "becomes" 4 (sp_becomes K) := by
  have O_check_two : OkF P wW K mg base CX0 "check_two" 3 (sp_check_two K) := ok_check_two T
  have O_over : OkF P wW K mg base CX0 "over" 2 (sp_over K) := ok_over T
  have O_width_of : OkF P wW K mg base CX0 "width_of" 2 (sp_width_of K) := ok_width_of T
  refine OkF.of T.d_becomes sc_becomes (fun vs H Q E h => h.1) (fun f cdv A outer s H vs Q E hr h => ?_)
  obtain ⟨-, z, H0, e0, ⟨rd, w, t, o, ⟨v0, r0, rfl, ⟨a0, rfl, q0⟩, ⟨v1, r1, rfl, ⟨a1, rfl, q1⟩, ⟨v2, r2, rfl, ⟨a2, rfl, q2⟩, rfl⟩⟩⟩, ⟨p0, p1, p2, p3, -⟩, rfl⟩, k⟩ := h
  have h0 := exh e0 q0
  clear q0
  have h1 := exl e0 q1
  clear q1
  have h2 := exl e0 q2
  clear q2
  clear e0 H0
  have hu := hu_of hr
  refine ⟨_, (pss_cons (ps_expr (pe_callO O_check_two hr (by rfl) pass0 (pa_cons (pe_callO O_width_of hr (by rfl) pass0 (pa_cons (pv 0) pa_nil)) (pa_cons (pv 1) (pa_cons (pv 2) pa_nil)))))
 (pss_one (ps_ret (pe_callO O_over hr (by rfl) pass0 (pa_cons (pv 1) (pa_cons (pv 2) pa_nil)))))), ?_⟩
  have hw := p0.w4
  have hl : t.length ≤ 40000 := by have := p1.len; omega
  have hr : ∀ r ∈ t, r.length ≤ 40000 := fun r h => by have := isRow_len (p1.row r h); omega
  refine q_drop (ev_check_two (ag_V (ev_width_of (ag_D (g_Dold (ev_var rfl) (by walk_at "facth")) ag_nil) (by walk_at "side")) (ag_L (q_old (ev_var rfl) (by walk_at "fact")) (ag_L (q_old (ev_var rfl) (by walk_at "fact")) ag_nil))) (by walk_at "side") (by walk_at "side") (by walk_at "side") (by walk_at "side")) fun H1 e1 => ?_
  exact s_ret2 (ev_over (ag_L (q_old (ev_var rfl) (by walk_at "fact")) (ag_L (q_old (ev_var rfl) (by walk_at "fact")) ag_nil)) (by walk_at "side") (by walk_at "side")) (RetV.ex k e1)

def R__law_laid_right (K : PySem.W.Frag) (mg : Str → Option Value) : (Addr → Prop) → List V → Hp → Dt → Pat → Prop := fun F vs H d p => ∃ (rd : Dic) (w : Nat) (t o : List Row), AllP [isR F (uD rd), isR F (uL uS t), isR F (uL uS o)] vs H ∧ ((RdOk rd w) ∧ (TpOk t w) ∧ (TpOk o w) ∧ (t.length = o.length) ∧ True) ∧ d = (Dt.sc (.bl true)) ∧ p = .sh
def sp__law_laid_right (K : PySem.W.Frag) (mg : Str → Option Value) (mL : LmA) : Sp := spT (TT mL) 3 (R__law_laid_right K mg)
theorem ev__law_laid_right {K : PySem.W.Frag} {mg : Str → Option Value} {σ : L2.St} {H : Hp} {tr : TA} {E : XK} {M : Addr → Prop} {mL : LmA} {rd : Dic} {w : Nat} {t o : List Row} (al_ : Al M H) (hF_ : ∀ q ∈ TT mL, M q.1) (tT_ : LamX.Tabs (TT mL) H) (h_ : EvAG tr σ H [isR M (uD rd), isR M (uL uS t), isR M (uL uS o)]) (p0 : RdOk rd w) (p1 : TpOk t w) (p2 : TpOk o w) (p3 : t.length = o.length) : EvX (TT mL) M (tCallO (sp__law_laid_right K mg mL) E tr) σ H (Dt.sc (.bl true)) .sh := x_call al_ hF_ tT_ h_ rfl fun vs H1 hp => ⟨rd, w, t, o, hp, ⟨p0, p1, p2, p3, trivial⟩, rfl, rfl⟩

theorem ok__law_laid_right (T : Txt K mg) (L : Lam K mg base mL) : OkF P wW K mg base CX0 "_law_laid_right" 8 (sp__law_laid_right K mg mL) := by
  have O__law_laid : OkF P wW K mg base CX0 "_law_laid" 1 (sp__law_laid K mg) := ok__law_laid T
  have D_laid : OkFD P wW K mg base CX0 "laid" 4 (sp_laid K mg) [.bl false] := ok_laid T
  have O_laid : OkF P wW K mg base CX0 "laid" 4 (sp_laid K mg) := D_laid.full
  obtain ⟨g_, fd_, hm_, ⟨⟨oc_, od_, kV_, doc_, pm_, an_, cdv_, ct_, osl_, rfl, lk_, hcd_⟩, kp_⟩, bn_⟩ := T.d__law_new.ex
  have O_becomes : OkF P wW K mg base CX0 "becomes" 4 (sp_becomes K) := ok_becomes T
  refine OkF.ofC L.e2 sc__law_laid_right (fun vs H Q E h => h.1) (fun f A outer s Hb vs Q E hr h => ?_)
  obtain ⟨-, F, d0, p0_, al, hFT, tT, ⟨rd, w, t, o, ⟨v0, r0, rfl, q0, ⟨v1, r1, rfl, q1, ⟨v2, r2, rfl, q2, rfl⟩⟩⟩, ⟨p0, p1, p2, p3, -⟩, rfl, rfl⟩, k⟩ := h
  have ok : Ok F (ZT (TT mL) Hb) [st (uD rd), st (uL uS t), st (uL uS o), .una, .una, .una, .una, .una] _ Hb F := Ok.startT al tT ⟨_, _, [], [], rfl, rfl, ow_sh.mpr ⟨rfl, q0⟩, ⟨_, _, [], [], rfl, rfl, ow_sh.mpr ⟨rfl, q1⟩, ⟨_, _, [], [], rfl, rfl, ow_sh.mpr ⟨rfl, q2⟩, ⟨_, rfl, ⟨_, rfl, ⟨_, rfl, ⟨_, rfl, ⟨_, rfl, ⟨rfl, rfl⟩⟩⟩⟩⟩⟩⟩⟩⟩
  have zt : ∀ (H' : Hp) (O' : Addr → Prop), ZT (TT mL) Hb H' O' → ZT (TT mL) Hb H' O' := fun _ _ z => z
  have hu := hu_of hr
  refine ⟨_, (pss_cons (ps_asg (pe_tup (pa_cons (pe_callTy ct_dict (by rfl) T.z_dict (by decide +kernel) (pa_cons (pv 0) pa_nil)) (pa_cons (pe_callTy (kct_list (K := K)) (by rfl) T.z_list (by decide +kernel) (pa_cons (pv 1) pa_nil)) (pa_cons (pe_callTy (kct_list (K := K)) (by rfl) T.z_list (by decide +kernel) (pa_cons (pv 2) pa_nil)) pa_nil)))) (pg_tup rfl (pgs_cons (pg_name (i := 4) sc__law_laid_right.nd rfl (.inr rfl)) (pgs_cons (pg_name (i := 6) sc__law_laid_right.nd rfl (.inr rfl)) (pgs_cons (pg_name (i := 7) sc__law_laid_right.nd rfl (.inr rfl)) pgs_nil)))))
 (pss_cons (ps_par (i := 3) (j := 5) rfl sc__law_laid_right.nd rfl rfl (by decide) rfl rfl (pa_cons (pe_callO O__law_laid hr (by rfl) pass0 (pa_cons (pv 1) (pa_cons (pv 2) (pa_cons pe_bl pa_nil)))) (pa_cons (pe_callO O__law_laid hr (by rfl) pass0 (pa_cons (pv 1) (pa_cons (pv 2) (pa_cons pe_bl pa_nil)))) pa_nil)) (by rfl))
 (pss_cons (ps_if (PW.pt (pw_or (pt_not (pt_val (pe_lamcall3 (k := 4) (by rfl) hm_ kp_ lk_ hcd_ bn_ sc__law_new rfl (Or.inl rfl) (fun A outer => gv__law_new T A outer) L.t2 rfl rfl (hr.mono (by decide)) (lamS1_by (sc := defScope s__law_laid_right) (y := "_law_some") (by decide +kernel)) (show ("_law_some" : Str) ∉ N__law_laid_right from by decide +kernel) rfl (fun _ _ _ _ _ _ => rfl) (fun A outer s H f c' hr => (pe_callD D_laid hr (by rfl) pass0 (pa_cons (pv 4) (pa_cons (pv 8) (pa_cons (pv 7) pa_nil))))) (pv 6) (pv 3)))) (pw_or1 (pt_cmpR (kop_neD (K := K) hr.units) (pv 7) (pv 2) (nomark _)))))
  (pss_one (ps_ret pe_bl))
  pss_nil)
 (pss_cons (ps_if (PW.pt (pw_or (pt_not (pt_val (pe_lamcall3 (k := 4) (by rfl) hm_ kp_ lk_ hcd_ bn_ sc__law_new rfl (Or.inl rfl) (fun A outer => gv__law_new T A outer) L.t2 rfl rfl (hr.mono (by decide)) (lamS1_by (sc := defScope s__law_laid_right) (y := "_law_some") (by decide +kernel)) (show ("_law_some" : Str) ∉ N__law_laid_right from by decide +kernel) rfl (fun _ _ _ _ _ _ => rfl) (fun A outer s H f c' hr => (pe_callO O_laid hr (by rfl) pass0 (pa_cons (pv 4) (pa_cons (pv 6) (pa_cons (pv 8) (pa_cons pe_bl pa_nil)))))) (pv 7) (pv 5)))) (pw_or1 (pt_cmpR (kop_neD (K := K) hr.units) (pv 6) (pv 1) (nomark _)))))
  (pss_one (ps_ret pe_bl))
  pss_nil)
 (pss_cons (ps_if (PW.pt (pw_or (pt_cmpR (kop_neD (K := K) hr.units) (pe_callO O_laid hr (by rfl) pass0 (pa_cons (pv 4) (pa_cons (pv 6) (pa_cons (pv 7) (pa_cons pe_bl pa_nil))))) (pv 3) (nomark _)) (pw_or1 (pt_cmpR (kop_neD (K := K) hr.units) (pe_callO O_laid hr (by rfl) pass0 (pa_cons (pv 4) (pa_cons (pv 7) (pa_cons (pv 6) (pa_cons pe_bl pa_nil))))) (pv 5) (nomark _)))))
  (pss_one (ps_ret pe_bl))
  pss_nil)
 (pss_cons (ps_if (PW.pt (pw_or (pt_not (pt_val (pe_callO O_becomes hr (by rfl) pass0 (pa_cons (pv 4) (pa_cons (pv 6) (pa_cons (pv 3) pa_nil)))))) (pw_or1 (pt_not (pt_val (pe_callO O_becomes hr (by rfl) pass0 (pa_cons (pv 4) (pa_cons (pv 5) (pa_cons (pv 7) pa_nil)))))))))
  (pss_one (ps_ret pe_bl))
  pss_nil)
 (pss_cons (ps_if (PW.pt (pw_or (pt_cmpR (kop_neD (K := K) hr.units) (pe_callD D_laid hr (by rfl) pass0 (pa_cons (pv 4) (pa_cons (pv 3) (pa_cons (pv 5) pa_nil)))) (pv 3) (nomark _)) (pw_or1 (pt_cmpR (kop_neD (K := K) hr.units) (pe_callO O_laid hr (by rfl) pass0 (pa_cons (pv 4) (pa_cons (pv 3) (pa_cons (pv 5) (pa_cons pe_bl pa_nil))))) (pv 5) (nomark _)))))
  (pss_one (ps_ret pe_bl))
  pss_nil)
 (pss_one (ps_ret (pe_cmpR (kop_eqD (K := K) hr.units) (pe_callD D_laid hr (by rfl) pass0 (pa_cons (pv 4) (pa_cons (pv 6) (pa_cons (pv 6) pa_nil)))) (pv 1) (nomark _))))))))))), ?_⟩
  have hw := p0.w4
  have hl := p1.len
  have hol := p2.len
  have hs1 := p1.small
  have hs2 := p2.small
  have hB := laidT_ok (light := false) p1 p2
  have hL := laidT_ok (light := true) p1 p2
  have hBl := laidT_len (light := false) p3
  have hLl := laidT_len (light := true) p3
  have hsB := hB.small
  have hsL := hL.small
  have a1 := laidT_abs false p3 p1.row p2.row
  have a2 := laidT_abs true p3 p1.row p2.row
  have hc := laidT_comm true o t
  have hse := laidT_self p1.row
  have ho1 := over_both p3
  have ho2 := over_light p3
  refine b_tup3 (d1 := uD rd) (p1 := .ow .sh) (d2 := uL uS t) (p2 := .ow .sh) (d3 := uL uS o) (p3 := .ow .sh) ok (p_D (ed_dict (ok.dd rfl))) (fun M σ H ok => (p_list (ok.nx rfl rfl))) (fun M σ H ok => (p_list (ok.nx rfl rfl))) fun M σ H ok => ?_
  refine b_par (d := uL uS (laidT false t o)) (d2 := uL uS (laidT true t o)) ok (eo__law_laid (ag_R (ok.ro rfl) (ag_R (ok.ro rfl) (ag_R (r_ev ev_c) ag_nil))) p1 p2 hw) (fun M σ H ok => (eo__law_laid (ag_R (ok.ro rfl) (ag_R (ok.ro rfl) (ag_R (r_ev ev_c) ag_nil))) p1 p2 hw)) fun M σ H ok => ?_
  generalize hBe : laidT false t o = B at *
  generalize hLe : laidT true t o = Li at *
  obtain ⟨M, ok⟩ := ok.share 3 rfl
  obtain ⟨M, ok⟩ := ok.share 5 rfl
  obtain ⟨M, ok⟩ := ok.share 6 rfl
  obtain ⟨M, ok⟩ := ok.share 7 rfl
  have ok : Ok F (ZT (TT mL) Hb) [st (uD rd), st (uL uS t), st (uL uS o), st (uL uS B), mu (uD rd), st (uL uS Li), st (uL uS t), st (uL uS o)] σ H M := ok
  refine b_skipXor ok hFT (x_lam3 (T := TT mL) ok hFT (TT_mem2 mL) (TT_dist2 L) (gdP_S hs1 (by omega)) (grP hsB (by omega)) (fun M H ok => (ok.ro rfl)) (fun M H ok => (ok.ro rfl)) (fun H v ok => (EvP.is (eo_laid (ag_dfl (ag_R (ok.ro rfl) (ag_R (ok.ro rfl) (ag_R (ok.ro rfl) ag_nil)))) p0 p1 p2 p3) (by rw [hBe])))) (fun M H ok => EvT.is (et_test (ev_neLS (ok.q rfl) (ok.q rfl) hs2 hs2)) (by simp)) fun M σ H ok => ?_
  refine b_skipXor ok hFT (x_lam3 (T := TT mL) ok hFT (TT_mem2 mL) (TT_dist2 L) (gdP_S hs2 (by omega)) (grP hsL (by omega)) (fun M H ok => (ok.ro rfl)) (fun M H ok => (ok.ro rfl)) (fun H v ok => (EvP.is (eo_laid (ag_R (ok.ro rfl) (ag_R (ok.ro rfl) (ag_R (ok.ro rfl) (ag_R (r_ev ev_c) ag_nil)))) p0 p1 p2 p3) (by rw [hLe])))) (fun M H ok => EvT.is (et_test (ev_neLS (ok.q rfl) (ok.q rfl) hs1 hs1)) (by simp)) fun M σ H ok => ?_
  refine b_skip ok (EvT.is (et_or (et_test (ev_neLS (q_p (M := Mo) (EvP.is (d' := uL uS B) (eo_laid (ag_R (ok.ro rfl) (ag_R (ok.ro rfl) (ag_R (ok.ro rfl) (ag_R (r_ev ev_c) ag_nil)))) p0 p1 p2 p3) (by rw [hBe]))) (ok.q rfl) hsB hsB)) (fun hb => (et_test (ev_neLS (q_p (M := Mo) (EvP.is (d' := uL uS Li) (eo_laid (ag_R (ok.ro rfl) (ag_R (ok.ro rfl) (ag_R (ok.ro rfl) (ag_R (r_ev ev_c) ag_nil)))) p0 p2 p1 p3.symm) (by rw [hc]))) (ok.q rfl) hsL hsL)))) (by simp)) fun M σ H ok => ?_
  refine b_skip ok (EvT.is (et_or (et_not (et_B (ev_becomes (ag_D (ok.dd rfl) (ag_L (ok.q rfl) (ag_L (ok.q rfl) ag_nil))) p0 p1 hB hBl.symm))) (fun hb4 => (et_not (et_B (ev_becomes (ag_D (ok.dd rfl) (ag_L (ok.q rfl) (ag_L (ok.q rfl) ag_nil))) p0 hL p2 (hLl.trans p3)))))) (by rw [ho1, ho2]; rfl)) fun M σ H ok => ?_
  refine b_skip ok (EvT.is (et_or (et_test (ev_neLS (q_p (M := Mo) (EvP.is (d' := uL uS B) (eo_laid (ag_dfl (ag_R (ok.ro rfl) (ag_R (ok.ro rfl) (ag_R (ok.ro rfl) ag_nil)))) p0 hB hL (hBl.trans hLl.symm)) (by rw [a1]))) (ok.q rfl) hsB hsB)) (fun hb => (et_test (ev_neLS (q_p (M := Mo) (EvP.is (d' := uL uS Li) (eo_laid (ag_R (ok.ro rfl) (ag_R (ok.ro rfl) (ag_R (ok.ro rfl) (ag_R (r_ev ev_c) ag_nil)))) p0 hB hL (hBl.trans hLl.symm)) (by rw [a2]))) (ok.q rfl) hsL hsL)))) (by simp)) fun M σ H ok => ?_
  exact c_retZ ok (EvP.is (p_ev (ev_eqLS (q_p (M := Mo) (EvP.is (d' := uL uS t) (eo_laid (ag_dfl (ag_R (ok.ro rfl) (ag_R (ok.ro rfl) (ag_R (ok.ro rfl) ag_nil)))) p0 p1 p1 rfl) (by rw [hse]))) (ok.q rfl) hs1 hs1)) (by simp)) k zt

def R_is_whole (K : PySem.W.Frag) : List V → Hp → V → Prop := fun vs H z => ∃ (n : Int), AllP [isV (.int n)] vs H ∧ (True) ∧ z = .bl true
def sp_is_whole (K : PySem.W.Frag) : Sp := spV  1 (R_is_whole K)
theorem ev_is_whole {K : PySem.W.Frag} {σ : L2.St} {H : Hp} {tr : TA} {E : XK} {n : Int} (h : EvAG tr σ H [isV (.int n)])  : Ev (tCallO (sp_is_whole K) E tr) σ H (.bl true) := ev_callG h rfl fun vs H1 e hp => ⟨n, hp, trivial, rfl⟩

theorem ok_is_whole (T : Txt K mg) : OkF P wW K mg base CX0 "is_whole" 1 (sp_is_whole K) := by
  refine OkF.of T.d_is_whole sc_is_whole (fun vs H Q E h => h.1) (fun f cdv A outer s H vs Q E hr h => ?_)
  obtain ⟨-, z, H0, e0, ⟨n, ⟨v0, r0, rfl, rfl, rfl⟩, -, rfl⟩, k⟩ := h
  clear e0 H0
  have hu := hu_of hr
  refine ⟨_, (pss_one (ps_ret (pe_and (pe_callB (kcall_isi (K := K)) (by rfl) T.z_isinstance (by decide +kernel) (pa_cons (pv 0) (pa_cons (pe_bltn (v := .ty "int") (by rfl) T.z_int (by decide +kernel) rfl) pa_nil))) (pe_one (pe_not (pe_callB (kcall_isi (K := K)) (by rfl) T.z_isinstance (by decide +kernel) (pa_cons (pv 0) (pa_cons (pe_bltn (v := .ty "bool") (by rfl) T.z_bool (by decide +kernel) rfl) pa_nil)))))))), ?_⟩
  exact s_ret2 (Ev.is (ev_andV (ev_isiI (b := true) (ev_var rfl) ev_c (by decide +kernel)) (fun hb49 => (ev_notV (ev_isiI (b := false) (ev_var rfl) ev_c (by decide +kernel))))) rfl) k

def R_cut (K : PySem.W.Frag) (mg : Str → Option Value) : (Addr → Prop) → List V → Hp → Dt → Pat → Prop := fun F vs H d p => ∃ (rd : Dic) (w : Nat) (t : List Row) (n : Int), AllP [isR F (uD rd), isR F (uL uS t), isR F (uI n)] vs H ∧ ((RdOk rd w) ∧ (TpOk t w) ∧ (0 ≤ n) ∧ (n ≤ (t.length : Int)) ∧ True) ∧ d = (.node .t [uL uS (t.take n.toNat), uL uS (t.drop n.toNat)]) ∧ p = (.ow (.ow .sh))
def sp_cut (K : PySem.W.Frag) (mg : Str → Option Value) : Sp := spR 3 (R_cut K mg)
theorem ev_cut {K : PySem.W.Frag} {mg : Str → Option Value} {σ : L2.St} {H : Hp} {tr : TA} {E : XK} {M : Addr → Prop} {rd : Dic} {w : Nat} {t : List Row} {n : Int} (al : Al M H) (h : EvAG tr σ H [isR M (uD rd), isR M (uL uS t), isR M (uI n)]) (p0 : RdOk rd w) (p1 : TpOk t w) (p2 : 0 ≤ n) (p3 : n ≤ (t.length : Int)) : EvP M (tCallO (sp_cut K mg) E tr) σ H (.node .t [uL uS (t.take n.toNat), uL uS (t.drop n.toNat)]) (.ow (.ow .sh)) := p_callR al h rfl fun vs H1 hp => ⟨rd, w, t, n, hp, ⟨p0, p1, p2, p3, trivial⟩, rfl, rfl⟩
theorem eo_cut {K : PySem.W.Frag} {mg : Str → Option Value} {σ : L2.St} {H : Hp} {tr : TA} {E : XK} {M : Addr → Prop} {rd : Dic} {w : Nat} {t : List Row} {n : Int} (h : EvAG tr σ H [isR Mo (uD rd), isR Mo (uL uS t), isR Mo (uI n)]) (p0 : RdOk rd w) (p1 : TpOk t w) (p2 : 0 ≤ n) (p3 : n ≤ (t.length : Int)) : EvP M (tCallO (sp_cut K mg) E tr) σ H (.node .t [uL uS (t.take n.toNat), uL uS (t.drop n.toNat)]) (.ow (.ow .sh)) := p_scal (ev_cut (Mo_al H) h p0 p1 p2 p3) (scal_ow fun d hd => by rcases List.mem_cons.mp hd with rfl | hd; exact scal_LS; rcases List.mem_cons.mp hd with rfl | hd; exact scal_LS; cases hd)

theorem ok_cut (T : Txt K mg) : OkF P wW K mg base CX0 "cut" 3 (sp_cut K mg) := by
  have O_check_tape : OkF P wW K mg base CX0 "check_tape" 2 (sp_check_tape K) := ok_check_tape T
  have O_width_of : OkF P wW K mg base CX0 "width_of" 2 (sp_width_of K) := ok_width_of T
  have O_is_whole : OkF P wW K mg base CX0 "is_whole" 1 (sp_is_whole K) := ok_is_whole T
  refine OkF.of T.d_cut sc_cut (fun vs H Q E h => h.1) (fun f cdv A outer s Hb vs Q E hr h => ?_)
  obtain ⟨-, F, d0, p0_, al, ⟨rd, w, t, n, ⟨v0, r0, rfl, q0, ⟨v1, r1, rfl, q1, ⟨v2, r2, rfl, q2, rfl⟩⟩⟩, ⟨p0, p1, p2, p3, -⟩, rfl, rfl⟩, k⟩ := h
  have ok : Ok F (fun H' O' => Lt Hb Mo H' O') [st (uD rd), st (uL uS t), st (uI n)] _ Hb F := Ok.start al ⟨_, _, [], [], rfl, rfl, ow_sh.mpr ⟨rfl, q0⟩, ⟨_, _, [], [], rfl, rfl, ow_sh.mpr ⟨rfl, q1⟩, ⟨_, _, [], [], rfl, rfl, ow_sh.mpr ⟨rfl, q2⟩, ⟨rfl, rfl⟩⟩⟩⟩
  have zz : ∀ (H' : Hp) (O' : Addr → Prop), Lt Hb Mo H' O' → Lt Hb Mo H' O' := fun _ _ z => z
  have hu := hu_of hr
  refine ⟨_, (pss_cons (ps_expr (pe_callO O_check_tape hr (by rfl) pass0 (pa_cons (pe_callO O_width_of hr (by rfl) pass0 (pa_cons (pv 0) pa_nil)) (pa_cons (pv 1) pa_nil))))
 (pss_cons (ps_if (PW.pt (pw_or (pt_not (pt_val (pe_callO O_is_whole hr (by rfl) pass0 (pa_cons (pv 2) pa_nil)))) (pw_or1 (pt_not (pt_chain op_le op_le pe_int (pv 2) (pe_callB (kcb_lenQ (K := K)) (by rfl) T.z_len (by decide +kernel) (pa_cons (pv 1) pa_nil)))))))
  (pss_one ps_never)
  pss_nil)
 (pss_one (ps_ret (pe_tup (pa_cons (pe_slice (ksl_list (K := K)) (pv 1) po_none (po_some (pv 2))) (pa_cons (pe_slice (ksl_list (K := K)) (pv 1) (po_some (pv 2)) po_none) pa_nil))))))), ?_⟩
  have hw := p0.w4
  refine b_drop ok (p_ev (ev_check_tape (ag_V (ev_width_of (ag_D (ok.dd rfl) ag_nil) (by walk_at "side")) (ag_L (ok.q rfl) ag_nil)) (by walk_at "side") (by walk_at "side"))) fun M σ H ok => ?_
  refine b_skip ok (EvT.is (et_or (et_not (et_B (ev_is_whole (ag_V (ok.ev rfl) ag_nil)))) (fun hb50 => (et_not (et_test (ev_chain ev_c (ok.ev rfl) (ev_lenQ (ok.q rfl))))))) (by simp [p2, p3])) fun M σ H ok => ?_
  refine c_ret ok (EvP.is (p_tup2O (p_sl (ok.nx rfl rfl) eo_none (eo_some (ok.ev rfl))) (fun M' => p_scal (p_sl (f := uS) (xs := t) (ok.nn rfl) (eo_some (ok.ev rfl)) eo_none) scal_LS)) ?_) k zz
  rw [cutG_to _ p2, cutG_from _ p2]

def R__law_cut_right (K : PySem.W.Frag) (mg : Str → Option Value) : (Addr → Prop) → List V → Hp → Dt → Pat → Prop := fun F vs H d p => ∃ (rd : Dic) (w : Nat) (t : List Row) (n : Int), AllP [isR F (uD rd), isR F (uL uS t), isR F (uI n)] vs H ∧ ((RdOk rd w) ∧ (TpOk t w) ∧ (0 ≤ n) ∧ (n ≤ (t.length : Int)) ∧ True) ∧ d = (Dt.sc (.bl true)) ∧ p = .sh
def sp__law_cut_right (K : PySem.W.Frag) (mg : Str → Option Value) (mL : LmA) : Sp := spT (TT mL) 3 (R__law_cut_right K mg)
theorem ev__law_cut_right {K : PySem.W.Frag} {mg : Str → Option Value} {σ : L2.St} {H : Hp} {tr : TA} {E : XK} {M : Addr → Prop} {mL : LmA} {rd : Dic} {w : Nat} {t : List Row} {n : Int} (al_ : Al M H) (hF_ : ∀ q ∈ TT mL, M q.1) (tT_ : LamX.Tabs (TT mL) H) (h_ : EvAG tr σ H [isR M (uD rd), isR M (uL uS t), isR M (uI n)]) (p0 : RdOk rd w) (p1 : TpOk t w) (p2 : 0 ≤ n) (p3 : n ≤ (t.length : Int)) : EvX (TT mL) M (tCallO (sp__law_cut_right K mg mL) E tr) σ H (Dt.sc (.bl true)) .sh := x_call al_ hF_ tT_ h_ rfl fun vs H1 hp => ⟨rd, w, t, n, hp, ⟨p0, p1, p2, p3, trivial⟩, rfl, rfl⟩

theorem ok__law_cut_right (T : Txt K mg) (L : Lam K mg base mL) : OkF P wW K mg base CX0 "_law_cut_right" 7 (sp__law_cut_right K mg mL) := by
  have O_cut : OkF P wW K mg base CX0 "cut" 3 (sp_cut K mg) := ok_cut T
  obtain ⟨g_, fd_, hm_, ⟨⟨oc_, od_, kV_, doc_, pm_, an_, cdv_, ct_, osl_, rfl, lk_, hcd_⟩, kp_⟩, bn_⟩ := T.d__law_new.ex
  have O_joined : OkF P wW K mg base CX0 "joined" 3 (sp_joined K mg) := ok_joined T
  refine OkF.ofC L.e1 sc__law_cut_right (fun vs H Q E h => h.1) (fun f A outer s Hb vs Q E hr h => ?_)
  obtain ⟨-, F, d0, p0_, al, hFT, tT, ⟨rd, w, t, n, ⟨v0, r0, rfl, q0, ⟨v1, r1, rfl, q1, ⟨v2, r2, rfl, q2, rfl⟩⟩⟩, ⟨p0, p1, p2, p3, -⟩, rfl, rfl⟩, k⟩ := h
  have ok : Ok F (ZT (TT mL) Hb) [st (uD rd), st (uL uS t), st (uI n), .una, .una, .una, .una] _ Hb F := Ok.startT al tT ⟨_, _, [], [], rfl, rfl, ow_sh.mpr ⟨rfl, q0⟩, ⟨_, _, [], [], rfl, rfl, ow_sh.mpr ⟨rfl, q1⟩, ⟨_, _, [], [], rfl, rfl, ow_sh.mpr ⟨rfl, q2⟩, ⟨_, rfl, ⟨_, rfl, ⟨_, rfl, ⟨_, rfl, ⟨rfl, rfl⟩⟩⟩⟩⟩⟩⟩⟩
  have zt : ∀ (H' : Hp) (O' : Addr → Prop), ZT (TT mL) Hb H' O' → ZT (TT mL) Hb H' O' := fun _ _ z => z
  have hu := hu_of hr
  refine ⟨_, (pss_cons (ps_asg (pe_tup (pa_cons (pe_callTy ct_dict (by rfl) T.z_dict (by decide +kernel) (pa_cons (pv 0) pa_nil)) (pa_cons (pe_callTy (kct_list (K := K)) (by rfl) T.z_list (by decide +kernel) (pa_cons (pv 1) pa_nil)) pa_nil))) (pg_tup rfl (pgs_cons (pg_name (i := 3) sc__law_cut_right.nd rfl (.inr rfl)) (pgs_cons (pg_name (i := 4) sc__law_cut_right.nd rfl (.inl rfl)) pgs_nil))))
 (pss_cons (ps_set (i := 6) sc__law_cut_right.nd rfl (.inl rfl) (pe_callO O_cut hr (by rfl) pass0 (pa_cons (pv 3) (pa_cons (pv 4) (pa_cons (pv 2) pa_nil)))))
 (pss_cons (ps_if (PW.pt (pw_or (pt_not (pt_val (pe_callB (kcall_isi (K := K)) (by rfl) T.z_isinstance (by decide +kernel) (pa_cons (pv 6) (pa_cons (pe_bltn (v := .ty "tuple") (by rfl) T.z_tuple (by decide +kernel) rfl) pa_nil))))) (pw_or (pt_cmpR op_ne (pe_callB (kcb_lenQ (K := K)) (by rfl) T.z_len (by decide +kernel) (pa_cons (pv 6) pa_nil)) pe_int (nomark _)) (pw_or1 (pt_cmpR (kop_neD (K := K) hr.units) (pv 4) (pv 1) (nomark _))))))
  (pss_one (ps_ret pe_bl))
  pss_nil)
 (pss_cons (ps_if (PW.pt (pw_or (pt_not (pt_val (pe_callB (kcall_isi (K := K)) (by rfl) T.z_isinstance (by decide +kernel) (pa_cons (pe_ix (kix_tup (K := K)) (pv 6) pe_int (fun _ _ => rfl)) (pa_cons (pe_bltn (v := .ty "list") (by rfl) T.z_list (by decide +kernel) rfl) pa_nil))))) (pw_or (pt_not (pt_val (pe_callB (kcall_isi (K := K)) (by rfl) T.z_isinstance (by decide +kernel) (pa_cons (pe_ix (kix_tup (K := K)) (pv 6) pe_int (fun _ _ => rfl)) (pa_cons (pe_bltn (v := .ty "list") (by rfl) T.z_list (by decide +kernel) rfl) pa_nil))))) (pw_or1 (pt_cmpR op_ne (pe_callB (kcb_lenQ (K := K)) (by rfl) T.z_len (by decide +kernel) (pa_cons (pe_ix (kix_tup (K := K)) (pv 6) pe_int (fun _ _ => rfl)) pa_nil)) (pv 2) (nomark _))))))
  (pss_one (ps_ret pe_bl))
  pss_nil)
 (pss_cons (ps_if (pt_cmpR (kop_neD (K := K) hr.units) (pe_op op_cat (pe_ix (kix_tup (K := K)) (pv 6) pe_int (fun _ _ => rfl)) (pe_ix (kix_tup (K := K)) (pv 6) pe_int (fun _ _ => rfl))) (pv 1) (nomark _))
  (pss_one (ps_ret pe_bl))
  pss_nil)
 (pss_cons (ps_if (pt_not (pt_val (pe_lamcall3 (k := 3) (by rfl) hm_ kp_ lk_ hcd_ bn_ sc__law_new rfl (Or.inl rfl) (fun A outer => gv__law_new T A outer) L.t1 rfl rfl (hr.mono (by decide)) (lamS1_by (sc := defScope s__law_cut_right) (y := "_law_some") (by decide +kernel)) (show ("_law_some" : Str) ∉ N__law_cut_right from by decide +kernel) rfl (fun _ _ _ _ _ _ => rfl) (fun A outer s H f c' hr => (pe_callO O_joined hr (by rfl) pass0 (pa_cons (pv 3) (pa_cons (pv 7) pa_nil)))) (pe_callTy (kct_list (K := K)) (by rfl) T.z_list (by decide +kernel) (pa_cons (pv 6) pa_nil)) (pv 1))))
  (pss_one (ps_ret pe_bl))
  pss_nil)
 (pss_cons (ps_set (i := 5) sc__law_cut_right.nd rfl (.inl rfl) (pe_lst (pa_cons (pe_callTy (kct_list (K := K)) (by rfl) T.z_list (by decide +kernel) (pa_cons (pe_ix (kix_tup (K := K)) (pv 6) pe_int (fun _ _ => rfl)) pa_nil)) (pa_cons (pe_lst pa_nil) (pa_cons (pe_callTy (kct_list (K := K)) (by rfl) T.z_list (by decide +kernel) (pa_cons (pe_ix (kix_tup (K := K)) (pv 6) pe_int (fun _ _ => rfl)) pa_nil)) pa_nil)))))
 (pss_cons (ps_if (PW.pt (pw_or (pt_cmpR (kop_neD (K := K) hr.units) (pe_callO O_joined hr (by rfl) pass0 (pa_cons (pv 3) (pa_cons (pv 5) pa_nil))) (pe_op op_cat (pe_slice (ksl_list (K := K)) (pv 1) (po_some (pv 2)) po_none) (pe_slice (ksl_list (K := K)) (pv 1) po_none (po_some (pv 2)))) (nomark _)) (pw_or1 (pt_cmpR (kop_neD (K := K) hr.units) (pv 5) (pe_lst (pa_cons (pe_ix (kix_tup (K := K)) (pv 6) pe_int (fun _ _ => rfl)) (pa_cons (pe_lst pa_nil) (pa_cons (pe_ix (kix_tup (K := K)) (pv 6) pe_int (fun _ _ => rfl)) pa_nil)))) (nomark _)))))
  (pss_one (ps_ret pe_bl))
  pss_nil)
 (pss_cons (ps_expr (pe_bm PySem.F.plainAttrs_list PySem.F.slot_list_append PySem.F.type_list_append mt_append (pe_ix (kix_tup (K := K)) (pv 6) pe_int (fun _ _ => rfl)) (pa_cons pe_str pa_nil)))
 (pss_cons (ps_expr (pe_bm PySem.F.plainAttrs_list PySem.F.slot_list_append PySem.F.type_list_append mt_append (pe_ix (kix_tup (K := K)) (pv 6) pe_int (fun _ _ => rfl)) (pa_cons pe_str pa_nil)))
 (pss_one (ps_ret (pe_cmpR (kop_eqD (K := K) hr.units) (pe_callO O_cut hr (by rfl) pass0 (pa_cons (pv 3) (pa_cons (pv 4) (pa_cons (pv 2) pa_nil)))) (pe_tup (pa_cons (pe_slice (ksl_list (K := K)) (pv 1) po_none (po_some (pv 2))) (pa_cons (pe_slice (ksl_list (K := K)) (pv 1) (po_some (pv 2)) po_none) pa_nil))) (nomark _)))))))))))))), ?_⟩
  have hw := p0.w4
  have hl := p1.len
  have hsm := p1.small
  have hA : TpOk (t.take n.toNat) w := ⟨by rw [List.length_take]; omega, fun r hr => p1.row r (List.mem_of_mem_take hr)⟩
  have hB : TpOk (t.drop n.toNat) w := ⟨by rw [List.length_drop]; omega, fun r hr => p1.row r (List.mem_of_mem_drop hr)⟩
  have hAl : (t.take n.toNat).length = n.toNat := by rw [List.length_take]; omega
  have hBl : (t.drop n.toNat).length = t.length - n.toNat := List.length_drop
  have hAB : t.take n.toNat ++ t.drop n.toNat = t := List.take_append_drop _ _
  have hBA : (t.drop n.toNat ++ t.take n.toNat).length = t.length := by rw [List.length_append]; omega
  have c1 : cutG t (some n) none = t.drop n.toNat := cutG_from _ p2
  have c2 : cutG t none (some n) = t.take n.toNat := cutG_to _ p2
  refine b_tup2 (d1 := uD rd) (d2 := uL uS t) ok (p_D (ed_dict (ok.dd rfl))) (fun M σ H ok => (p_list (ok.nx rfl rfl))) fun M σ H ok => ?_
  refine b_asg (d := .node .t [uL uS (t.take n.toNat), uL uS (t.drop n.toNat)]) ok (eo_cut (ag_R (ok.ro rfl) (ag_R (ok.ro rfl) (ag_R (ok.ro rfl) ag_nil))) p0 p1 p2 p3) fun M σ H ok => ?_
  generalize hAe : t.take n.toNat = A at *
  generalize hBe : t.drop n.toNat = B at *
  refine b_skip ok (EvT.is (et_or (et_not (et_B (ev_isiNT (b := true) (ok.nn rfl) ev_c (by decide +kernel)))) (fun hb52 => (et_or (et_test (ev_neI (ev_lenNT (ok.nn rfl)) ev_c)) (fun hb51 => (et_test (ev_neLS (ok.q rfl) (ok.q rfl) (by walk_at "side") (by walk_at "side"))))))) (by simp)) fun M σ H ok => ?_
  refine b_skip ok (EvT.is (et_or (et_not (et_B (ev_isiNL (b := true) (r_n (s := .l) (ds := A.map uS) (r_ixT (ds := [uL uS A, uL uS B]) (n := (0 : Int)) uN (ok.nn rfl) ev_c (by decide) (by simp))) ev_c (by decide +kernel)))) (fun hb4 => (et_or (et_not (et_B (ev_isiNL (b := true) (r_n (s := .l) (ds := B.map uS) (r_ixT (ds := [uL uS A, uL uS B]) (n := (1 : Int)) uN (ok.nn rfl) ev_c (by decide) (by simp))) ev_c (by decide +kernel)))) (fun hb3 => (et_test (ev_neI (ev_lenQ (q_r (g := VS) (xs := A) (r_ixT (ds := [uL uS A, uL uS B]) (n := (0 : Int)) uN (ok.nn rfl) ev_c (by decide) (by simp)))) (ok.ev rfl))))))) (by simp; omega)) fun M σ H ok => ?_
  refine b_skip ok (EvT.is (et_test (ev_neLS (q_new (el_catH (h_n (g := VS) (xs := A) (r_n (r_ixT (ds := [uL uS A, uL uS B]) (n := (0 : Int)) uN (ok.nn rfl) ev_c (by decide) (by simp)))) (h_n (g := VS) (xs := B) (r_n (r_ixT (ds := [uL uS A, uL uS B]) (n := (1 : Int)) uN (ok.nn rfl) ev_c (by decide) (by simp)))) (by omega))) (ok.q rfl) (by rw [hAB]; exact hsm) hsm)) (by simp [hAB])) fun M σ H ok => ?_
  have hts : ∀ s ∈ [A, B], TpOk s w := fun s hs => by
    simp only [List.mem_cons, List.not_mem_nil, or_false] at hs
    rcases hs with rfl | rfl
    · exact hA
    · exact hB
  have htp : ∀ s ∈ [B, [], A], TpOk s w := fun s hs => by
    simp only [List.mem_cons, List.not_mem_nil, or_false] at hs
    rcases hs with rfl | rfl | rfl
    · exact hB
    · exact ⟨by decide, fun r hr => nomatch hr⟩
    · exact hA
  have hcat : catT [A, B] = t := by unfold catT; simpa using hAB
  have hcat2 : catT [B, [], A] = B ++ A := by unfold catT; simp
  have hBAs : SmT (B ++ A) := fun r hr => (List.mem_append.mp hr).elim (hB.small r) (hA.small r)
  refine b_skipX ok hFT (x_lam3 (d := uL (uL uS) [A, B]) (T := TT mL) ok hFT (TT_mem1 mL) (TT_dist1 L) (gdP_LS (fun s hs => (hts s hs).small) (by simp)) (grP hsm (by omega)) (fun M H ok => (r_p (Mo_al _) (p_listT (f := (uL uS)) (xs := [A, B]) (ok.nn rfl)))) (fun M H ok => (ok.ro rfl)) (fun H v ok => (EvP.is (eo_joined (ts := [A, B]) (ag_R (ok.ro rfl) (ag_R (ok.ro rfl) ag_nil)) p0 hts (by rw [hcat]; omega)) (by rw [hcat])))) fun M σ H ok => ?_
  refine b_asg (d := uL (uL uS) [B, [], A]) ok (p_lst (ds := [uL uS B, uL uS [], uL uS A]) (rs_cons (r_p ok.al (p_scal (M := M) (p_list (f := uS) (xs := B) (r_n (r_ixT (ds := [uL uS A, uL uS B]) (n := (1 : Int)) uN (ok.nn rfl) ev_c (by decide) (by simp)))) scal_LS)) (rs_cons (r_p ok.al (p_lst (ds := []) rs_nil (by simp))) (rs_cons (r_p ok.al (p_scal (M := M) (p_list (f := uS) (xs := A) (r_n (r_ixT (ds := [uL uS A, uL uS B]) (n := (0 : Int)) uN (ok.nn rfl) ev_c (by decide) (by simp)))) scal_LS)) rs_nil))) (by simp)) fun M σ H ok => ?_
  refine b_skip ok (EvT.is (et_or (et_test (ev_neLS (q_p (M := Mo) (eo_joined (ts := [B, [], A]) (ag_R (ok.ro rfl) (ag_R (ok.ro rfl) ag_nil)) p0 htp (by rw [hcat2]; omega))) (q_p (p_cat (f := uS) (n_p ok.al (p_sl (ok.nx rfl rfl) (eo_some (ok.ev rfl)) eo_none)) (n_p ok.al (p_sl (ok.nx rfl rfl) eo_none (eo_some (ok.ev rfl)))) (by rw [c1, c2]; omega))) (by rw [hcat2]; exact hBAs) (by rw [c1, c2]; exact hBAs))) (fun hb5 => (et_test (ev_neE (x := [B, [], A]) (y := [B, [], A]) (eqd_L (eqd_L eqd_S)) (ok.ro rfl) (r_p (Mo_al _) (p_lst (ds := [uL uS B, uL uS [], uL uS A]) (rs_cons (r_ixT (ds := [uL uS A, uL uS B]) (n := (1 : Int)) uN (ok.nn rfl) ev_c (by decide) (by simp)) (rs_cons (r_p (Mo_al _) (p_lst (ds := []) rs_nil (by simp))) (rs_cons (r_ixT (ds := [uL uS A, uL uS B]) (n := (0 : Int)) uN (ok.nn rfl) ev_c (by decide) (by simp)) rs_nil))) (by simp))) (fun s hs => (htp s hs).small) (fun s hs => (htp s hs).small))))) (by rw [c1, c2, hcat2]; simp)) fun M σ H ok => ?_
  refine b_appP (g := uS) (xs := A) (x := [46]) ok rfl (Rch.ixT (n := 0) Rch.var ev_c rfl) (r_ev (ev_cS lit_dot)) (by omega) fun M σ H ok => ?_
  refine b_appP (g := uS) (xs := B) (x := [46]) ok rfl (Rch.ixT (n := 1) Rch.var ev_c rfl) (r_ev (ev_cS lit_dot)) (by omega) fun M σ H ok => ?_
  exact c_retZ ok (EvP.is (p_ev (ev_eqE (x := (A, B)) (y := (A, B)) (eqd_T (eqd_L eqd_S) (eqd_L eqd_S)) (r_o (r_p ok.al (EvP.is (d' := uT (uL uS) (uL uS) (A, B)) (eo_cut (ag_R (ok.ro rfl) (ag_R (ok.ro rfl) (ag_R (ok.ro rfl) ag_nil))) p0 p1 p2 p3) (by rw [hAe, hBe])))) (r_o (r_p ok.al (p_tup (ds := [uL uS A, uL uS B]) (rs_cons (r_p ok.al (EvP.is (p_sl (f := uS) (ok.nx rfl rfl) eo_none (eo_some (ok.ev rfl))) (by rw [c2]))) (rs_cons (r_p ok.al (EvP.is (p_sl (f := uS) (ok.nx rfl rfl) (eo_some (ok.ev rfl)) eo_none) (by rw [c1]))) rs_nil)) (by simp)))) ⟨hA.small, hB.small⟩ ⟨hA.small, hB.small⟩)) (by simp)) k zt

def R_law (K : PySem.W.Frag) : List V → Hp → V → Prop := fun vs H z => ∃ (ns : List Int), AllP [isQ K (Ints ns)] vs H ∧ (True) ∧ z = .bl true
def sp_law (K : PySem.W.Frag) : Sp := spV  1 (R_law K)
theorem ev_law {K : PySem.W.Frag} {σ : L2.St} {H : Hp} {tr : TA} {E : XK} {ns : List Int} (h : EvAG tr σ H [isQ K (Ints ns)])  : Ev (tCallO (sp_law K) E tr) σ H (.bl true) := ev_callG h rfl fun vs H1 e hp => ⟨ns, hp, trivial, rfl⟩

theorem ok_law (T : Txt K mg) (L : Lam K mg base mL) {fL : Addr} {fdL : FuncData} (F : Fun K "law" "law" s_law fL fdL) : FnOk P wW K mg base CX0 9 fL fdL ["_law_script"] (spLaw K (TT mL)) := by
  have O__law_pool : OkF P wW K mg base CX0 "_law_pool" 4 (sp__law_pool K) := ok__law_pool T
  have O__law_reader : OkF P wW K mg base CX0 "_law_reader" 4 (sp__law_reader K) := ok__law_reader T
  have O__law_tape : OkF P wW K mg base CX0 "_law_tape" 4 (sp__law_tape K) := ok__law_tape T
  have O__law_width : OkF P wW K mg base CX0 "_law_width" 1 (sp__law_width K) := ok__law_width T
  have O__law_digits : OkF P wW K mg base CX0 "_law_digits" 3 (sp__law_digits K) := ok__law_digits T
  have O_joined : OkF P wW K mg base CX0 "joined" 3 (sp_joined K mg) := ok_joined T
  have O__law_turned_right : OkF P wW K mg base CX0 "_law_turned_right" 7 (sp__law_turned_right K mg mL) := ok__law_turned_right T L
  have O__law_laid_right : OkF P wW K mg base CX0 "_law_laid_right" 8 (sp__law_laid_right K mg mL) := ok__law_laid_right T L
  have O__law_cut_right : OkF P wW K mg base CX0 "_law_cut_right" 7 (sp__law_cut_right K mg mL) := ok__law_cut_right T L
  refine F.ok sc_law (fun vs H Q E h => h.1) (fun cdv A outer s Hb vs Q E hr h => ?_)
  obtain ⟨-, ns, a0, rfl, h0, tT, k0⟩ := h
  have hFT : ∀ q ∈ TT mL, FT (TT mL) q.1 := fun q hq => ⟨q, hq, rfl⟩
  have k : RetT (TT mL) (FT (TT mL)) Hb (.sc (.bl true)) .sh Q := fun v bs H' x t nd n w => by
    unfold Ow at w
    rw [w.2.1]
    exact k0 H'
  have ok : Ok (FT (TT mL)) (ZT (TT mL) Hb) [.any, .una, .una, .una, .una, .una, .una, .una, .una] _ Hb (FT (TT mL)) := Ok.startT (al_FT tT) tT ⟨some (.ref a0), _, rfl, ⟨_, rfl, ⟨_, rfl, ⟨_, rfl, ⟨_, rfl, ⟨_, rfl, ⟨_, rfl, ⟨_, rfl, ⟨_, rfl, ⟨rfl, rfl⟩⟩⟩⟩⟩⟩⟩⟩⟩⟩
  have zt : ∀ (H' : Hp) (O' : Addr → Prop), ZT (TT mL) Hb H' O' → ZT (TT mL) Hb H' O' := fun _ _ z => z
  have hu := hu_of hr
  refine ⟨_, (pss_cons (ps_set (i := 0) sc_law.nd rfl (.inl rfl) (pe_slice (ksl_list (K := K)) (pv 0) po_none (po_some pe_int)))
 (pss_cons (ps_set (i := 5) sc_law.nd rfl (.inl rfl) (pe_callO O__law_pool hr (by rfl) pass0 (pa_cons (pv 0) (pa_cons pe_int pa_nil))))
 (pss_cons (ps_for PassesOwn.never rfl (pi_range2 rfl T.z_range (pa_cons pe_int (pa_cons (pe_callB (cb_max2 rfl) (by rfl) T.z_max (by decide +kernel) (pa_cons pe_int (pa_cons (pe_callB (cb_min2 rfl) (by rfl) T.z_min (by decide +kernel) (pa_cons pe_int (pa_cons (pe_callB (kcb_lenQ (K := K)) (by rfl) T.z_len (by decide +kernel) (pa_cons (pv 0) pa_nil)) pa_nil))) pa_nil))) pa_nil))) (pg_name (i := 1) sc_law.nd rfl (.inl rfl))
  (pss_cons (ps_set (i := 6) sc_law.nd rfl (.inl rfl) (pe_callO O__law_reader hr (by rfl) pass0 (pa_cons (pv 0) (pa_cons (pv 1) (pa_cons (pv 5) (pa_cons pe_int pa_nil))))))
 (pss_cons (ps_par (i := 8) (j := 2) rfl sc_law.nd rfl rfl (by decide) rfl rfl (pa_cons (pe_callO O__law_width hr (by rfl) pass0 (pa_cons (pv 6) pa_nil)) (pa_cons (pe_callO O__law_digits hr (by rfl) pass0 (pa_cons (pv 0) (pa_cons (pe_op op_add (pv 1) pe_int) (pa_cons pe_int (pa_cons pe_int pa_nil))))) pa_nil)) (by rfl))
 (pss_cons (ps_set (i := 7) sc_law.nd rfl (.inl rfl) (pe_callO O__law_tape hr (by rfl) pass0 (pa_cons (pv 0) (pa_cons (pe_op op_add (pv 1) pe_int) (pa_cons (pv 8) (pa_cons (pe_op op_mod (pe_ix (kix_list (K := K)) (pv 2) pe_int (fun _ _ => rfl)) pe_int) pa_nil))))))
 (pss_cons (ps_set (i := 3) sc_law.nd rfl (.inl rfl) (pe_callO O__law_tape hr (by rfl) pass0 (pa_cons (pv 0) (pa_cons (pe_op op_add (pv 1) pe_int) (pa_cons (pv 8) (pa_cons (pe_callB (kcb_lenQ (K := K)) (by rfl) T.z_len (by decide +kernel) (pa_cons (pv 7) pa_nil)) pa_nil))))))
 (pss_cons (ps_if (PW.pt (pw_or (pt_not (pt_val (pe_callO O__law_turned_right hr (by rfl) pass0 (pa_cons (pv 6) (pa_cons (pv 7) pa_nil))))) (pw_or1 (pt_not (pt_val (pe_callO O__law_laid_right hr (by rfl) pass0 (pa_cons (pv 6) (pa_cons (pv 7) (pa_cons (pv 3) pa_nil)))))))))
  (pss_one (ps_ret pe_bl))
  pss_nil)
 (pss_one (ps_for PassesOwn.never rfl (kpi_tup (K := K) (pe_tup (pa_cons pe_int (pa_cons (pe_callB (kcb_lenQ (K := K)) (by rfl) T.z_len (by decide +kernel) (pa_cons (pv 7) pa_nil)) (pa_cons (pe_op op_mod (pe_ix (kix_list (K := K)) (pv 2) pe_int (fun _ _ => rfl)) (pe_op op_add (pe_callB (kcb_lenQ (K := K)) (by rfl) T.z_len (by decide +kernel) (pa_cons (pv 7) pa_nil)) pe_int)) pa_nil))))) (pg_name (i := 4) sc_law.nd rfl (.inl rfl))
  (pss_one (ps_if (pt_not (pt_val (pe_callO O__law_cut_right hr (by rfl) pass0 (pa_cons (pv 6) (pa_cons (pv 7) (pa_cons (pv 4) pa_nil))))))
  (pss_one (ps_ret pe_bl))
  pss_nil))))))))))
 (pss_one (ps_ret (pe_and (pe_cmpR (kop_eqD (K := K) hr.units) (pe_callO O_joined hr (by rfl) pass0 (pa_cons (pe_disp (pps_cons pe_str pe_str pps_nil) (by rfl) (by rfl) (fun z => by cases z) (by decide)) (pa_cons (pe_lst pa_nil) pa_nil))) (pe_lst pa_nil) (nomark _)) (pe_one (pe_cmpR (kop_eqD (K := K) hr.units) (pe_callO O_joined hr (by rfl) pass0 (pa_cons (pe_disp (pps_cons pe_str pe_str pps_nil) (by rfl) (by rfl) (fun z => by cases z) (by decide)) (pa_cons (pe_lst (pa_cons (pe_op op_rep (pe_lst (pa_cons pe_str pa_nil)) pe_int) (pa_cons (pe_lst pa_nil) (pa_cons (pe_op op_rep (pe_lst (pa_cons pe_str pa_nil)) pe_int) pa_nil)))) pa_nil))) (pe_op op_cat (pe_op op_rep (pe_lst (pa_cons pe_str pa_nil)) pe_int) (pe_op op_rep (pe_lst (pa_cons pe_str pa_nil)) pe_int)) (nomark _))))))))), ?_⟩
  refine b_asg (d := uL uI (cutG ns none (some 63))) ok (p_L (EvL.is (Evl.el_sl (ev_var rfl) eo_none (eo_some ev_c) h0) (cutV_map V.int ns none (some 63)))) fun M σ H ok => ?_
  generalize cutG ns none (some 63) = ms at ok
  refine b_asg (d := uL uS (pool ms 0)) ok (p_L (ev__law_pool (ag_L (ok.q rfl) (ag_V ev_c ag_nil)) (by walk_at "side"))) fun M σ H ok => ?_
  have hpl := pool_len ms 0
  have hpz := pool_let ms 0
  generalize pool ms 0 = pl at ok hpl hpz
  refine b_forX (fun i ρ => ∃ y1 y2 y3 y4 y6 y7 y8, ρ = [mu (uL uI ms), y1, y2, y3, y4, mu (uL uS pl), y6, y7, y8]) ok (j_rng2 (ea_cons ev_c (ea_cons (ev_mx2 ev_c (ev_mn2 ev_c (ev_lenQ (ok.q rfl)))) ea_nil)) (by walk_at "rng") (by walk_at "rng")) ⟨_, _, _, _, _, _, _, rfl⟩ ?_ ?_
  · rintro i i' ρ M σ H hi ⟨y1, y2, y3, y4, y6, y7, y8, rfl⟩ ok
    have hn0 : (1 : Int) ≤ 1 + (i' : Int) := by omega
    generalize (1 + (i' : Int)) = n at hn0 ok
    refine b_asg (d := uD (reader ms n pl 1)) ok (p_D (ev__law_reader (ag_L (ok.q rfl) (ag_V (ok.ev rfl) (ag_L (ok.q rfl) (ag_V ev_c ag_nil)))) (by walk_at "side") (by walk_at "side") (by walk_at "side") (by walk_at "side"))) fun M σ H ok => ?_
    have okr : RdOk (reader ms n pl 1) (rdW (digits ms n 17 1000) 1).toNat := rdr_ok (by decide) (by decide) hpz
    have hw := rdW_range (ds := digits ms n 17 1000) (least := 1) (by decide) (by decide)
    obtain ⟨w, hwe, hw1, hw4⟩ : ∃ w : Nat, (rdW (digits ms n 17 1000) 1).toNat = w ∧ 1 ≤ w ∧ w ≤ 4 := ⟨_, rfl, by omega, by omega⟩
    rw [hwe] at okr
    generalize reader ms n pl 1 = rd at ok okr
    refine b_par (d := uI w) (d2 := uL uI (digits ms (n + 1) 3 1009)) ok (p_ev (ev__law_width (ag_D (ok.dd rfl) ag_nil) (by walk_at "side"))) (fun M σ H ok => (p_L (ev__law_digits (ag_L (ok.q rfl) (ag_V (ev_add (ok.ev rfl) ev_c) (ag_V ev_c (ag_V ev_c ag_nil)))) (by walk_at "side") (by walk_at "side") (by walk_at "side") (by walk_at "side") (by walk_at "side")))) fun M σ H ok => ?_
    have hcl : (digits ms (n + 1) 3 1009).length = 3 := digits_len _ _ _ _
    generalize digits ms (n + 1) 3 1009 = ds at ok hcl
    have hm0 := Int.emod_nonneg (ds.getD (0 : Int).toNat 0) (show (31 : Int) ≠ 0 by decide)
    have hm1 := Int.emod_lt_of_pos (ds.getD (0 : Int).toNat 0) (show (0 : Int) < 31 by decide)
    refine b_asg (d := uL uS (tapeL ms (n + 2) (w : Int) (ds.getD (0 : Int).toNat 0 % 31))) ok (p_L (ev__law_tape (ag_L (ok.q rfl) (ag_V (ev_add (ok.ev rfl) ev_c) (ag_V (ok.ev rfl) (ag_V (ev_mod (ev_ixQ (0 : Int) (ok.q rfl) ev_c (by walk_at "side") (by walk_at "side")) ev_c (by walk_at "side")) ag_nil)))) (by walk_at "side") (by walk_at "side") (by walk_at "side") (by walk_at "side") (by walk_at "side"))) fun M σ H ok => ?_
    have okt : TpOk (tapeL ms (n + 2) (w : Int) (ds.getD (0 : Int).toNat 0 % 31)) w := tapeL_ok _ _ _ (by omega)
    generalize tapeL ms (n + 2) (w : Int) (ds.getD (0 : Int).toNat 0 % 31) = t at ok okt
    have htl := okt.len
    refine b_asg (d := uL uS (tapeL ms (n + 3) (w : Int) (t.length : Int))) ok (p_L (ev__law_tape (ag_L (ok.q rfl) (ag_V (ev_add (ok.ev rfl) ev_c) (ag_V (ok.ev rfl) (ag_V (ev_lenQ (ok.q rfl)) ag_nil)))) (by walk_at "side") (by walk_at "side") (by walk_at "side") (by walk_at "side") (by walk_at "side"))) fun M σ H ok => ?_
    have oko : TpOk (tapeL ms (n + 3) (w : Int) (t.length : Int)) w := tapeL_ok _ _ _ (by omega)
    have hol : t.length = (tapeL ms (n + 3) (w : Int) (t.length : Int)).length := by rw [tapeL_len]; simp
    generalize tapeL ms (n + 3) (w : Int) (t.length : Int) = o at ok oko hol
    obtain ⟨M, ok⟩ := ok.share 6 rfl
    obtain ⟨M, ok⟩ := ok.share 7 rfl
    obtain ⟨M, ok⟩ := ok.share 3 rfl
    have ok : Ok (FT (TT mL)) (ZT (TT mL) Hb) [mu (uL uI ms), st (uI n), mu (uL uI ds), st (uL uS o), y4, mu (uL uS pl), st (uD rd), st (uL uS t), st (uI (w : Int))] σ H M := ok
    refine b_skipXX ok hFT (ev__law_turned_right ok.al (fun q hq => ok.fr _ (hFT q hq)) (zt _ _ ok.z).2.tabs (ag_R (ok.r rfl) (ag_R (ok.r rfl) ag_nil)) okr okt) (fun M H ok => (ev__law_laid_right ok.al (fun q hq => ok.fr _ (hFT q hq)) (zt _ _ ok.z).2.tabs (ag_R (ok.r rfl) (ag_R (ok.r rfl) (ag_R (ok.r rfl) ag_nil))) okr okt oko hol)) fun M σ H ok => ?_
    have hp0 := Int.emod_nonneg (ds.getD (1 : Int).toNat 0) (show (t.length : Int) + 1 ≠ 0 by omega)
    have hp1 := Int.emod_lt_of_pos (ds.getD (1 : Int).toNat 0) (show (0 : Int) < (t.length : Int) + 1 by omega)
    have okG := ok
    refine c_forG (fun i ρ => ∃ y, ρ = [mu (uL uI ms), st (uI n), mu (uL uI ds), st (uL uS o), y, mu (uL uS pl), st (uD rd), st (uL uS t), st (uI (w : Int))]) ok (j_tupR (f := uI) (l := [0, (t.length : Int), ds.getD (1 : Int).toNat 0 % ((t.length : Int) + 1)]) (r_p ok.al (p_tup (rs_cons (r_ev ev_c) (rs_cons (r_ev (ev_lenQ (ok.q rfl))) (rs_cons (r_ev (ev_mod (ev_ixQ (0 : Int) (ok.q rfl) ev_c (by omega) (by omega)) (ev_add (ev_lenQ (ok.q rfl)) ev_c) (by omega))) rs_nil))) (by simp)))) ⟨_, rfl⟩ ?_ ?_
    · rintro H1 j x ρ M2 σ2 H2 hj ⟨y, rfl⟩ ok
      have hx : 0 ≤ x ∧ x ≤ (t.length : Int) := by
        have := List.mem_of_getElem? hj
        simp only [List.mem_cons, List.not_mem_nil, or_false] at this
        rcases this with rfl | rfl | rfl <;> omega
      exact c_skipXG ok hFT okG.fr (ev__law_cut_right ok.al (fun q hq => ok.fr _ (hFT q hq)) ok.z.1.2.tabs (ag_R (ok.r rfl) (ag_R (ok.r rfl) (ag_R (r_ev (ok.ev rfl)) ag_nil))) okr okt hx.1 hx.2) fun M σ H ok => ⟨_, _, ok, _, rfl⟩
    · rintro ρ M σ H ⟨y, rfl⟩ ok
      exact ⟨_, _, ok, _, _, _, _, _, _, _, rfl⟩
  · rintro ρ M σ H ⟨y1, y2, y3, y4, y6, y7, y8, rfl⟩ ok
    exact c_retZ ok (EvP.is (p_ev (ev_andV (ev_eqLS (l := []) (m := []) (q_p (M := Mo) (EvP.is (d' := uL uS []) (eo_joined (ts := []) (ag_R (r_o (r_p ok.al (EvP.is (d' := uD rdq) (p_D (ed_disp (ep_cons (ev_cS lit_dot) (ev_cS (l := [113]) (by decide +kernel)) ep_nil) (by simp))) rfl))) (ag_R (r_o (r_p ok.al (p_lst (ds := []) rs_nil (by simp)))) ag_nil)) q_ok (fun s hs => nomatch hs) (by decide)) rfl)) (q_new el_nilM) (fun r hr => nomatch hr) (fun r hr => nomatch hr)) (fun hb2 => (ev_eqLS (l := t15o ++ t15d) (m := t15o ++ t15d) (q_p (M := Mo) (EvP.is (d' := uL uS (t15o ++ t15d)) (eo_joined (ts := [t15o, [], t15d]) (ag_R (r_o (r_p ok.al (EvP.is (d' := uD rdq) (p_D (ed_disp (ep_cons (ev_cS lit_dot) (ev_cS (l := [113]) (by decide +kernel)) ep_nil) (by simp))) rfl))) (ag_R (r_o (r_p ok.al (p_lst (ds := [uL uS t15o, uL uS [], uL uS t15d]) (rs_cons (r_p ok.al (EvP.is (d' := uL uS t15o) (p_L (el_repH (h_new (el_lst (emS_cons (ev_cS lit_o) emS_nil) (by simp))) ev_c (by decide) (by decide) (by decide))) rfl)) (rs_cons (r_p ok.al (p_lst (ds := []) rs_nil (by simp))) (rs_cons (r_p ok.al (EvP.is (d' := uL uS t15d) (p_L (el_repH (h_new (el_lst (emS_cons (ev_cS lit_dot) emS_nil) (by simp))) ev_c (by decide) (by decide) (by decide))) rfl)) rs_nil))) (by simp)))) ag_nil)) q_ok t15_ok (by decide)) rfl)) (q_new (el_catH (h_n (n_p (Mo_al _) (EvP.is (d' := uL uS t15o) (p_L (el_repH (h_new (el_lst (emS_cons (ev_cS lit_o) emS_nil) (by simp))) ev_c (by decide) (by decide) (by decide))) rfl))) (h_n (n_p (Mo_al _) (EvP.is (d' := uL uS t15d) (p_L (el_repH (h_new (el_lst (emS_cons (ev_cS lit_dot) emS_nil) (by simp))) ev_c (by decide) (by decide) (by decide))) rfl))) (by decide))) t15_sm t15_sm)))) (by simp)) k zt
theorem defAt_mk {K : PySem.W.Frag} {h : Heap} {mg : Str → Option Value} {x : Str} {st : Stmt} {f : Addr} {oc kV dc pm cd ct : Value} {od an : Option Addr} {sl : Array (Option Value)} {ps : List Str} (X : K.In h) (G : h.Ns mainGlobals mg)
    (a : PySem.W.nsIn K mainGlobals x = some (some (.ref f))) (l : K.lookup f = some ⟨oc, od, .func (PySem.W.fnOf x x (defArgs st) (defBody st) (defScope st) .none kV dc pm an cd ct), sl⟩) (c : PySem.W.codeIn K cd x = true) (k : PySem.W.keepIn K (.ref f) = true)
    (b : Fun K x x st f (PySem.W.fnOf x x (defArgs st) (defBody st) (defScope st) .none kV dc pm an cd ct) → Binds K (PySem.W.fnOf x x (defArgs st) (defBody st) (defScope st) .none kV dc pm an cd ct) ps []) : DefAt K mg x x st ps :=
  ⟨f, _, PySem.W.mg_of X G a, fun_mk l c k, b (fun_mk l c k)⟩
theorem all_mk {l : PySem.W.OpenLaw} {w : World} {K : PySem.W.Frag} {h : Heap} {mg : Str → Option Value} {fa cc0 PP0 cc1 PP1 cc2 PP2 f0 f1 f2 f3 f4 f5 f6 f7 f8 f9 f10 f11 f12 f13 f14 f15 f16 f17 f18 f19 f20 f21 f22 f23 f24 f25 f26 f27 f28 f29 f30 f31 f32 f33 f34 f35 : Addr} (X : K.In h) (G : h.Ns mainGlobals mg) (hfa : mg "law" = some (.ref fa))
    {od0 an0 od1 an1 od2 an2 od3 an3 od4 an4 od5 an5 od6 an6 od7 an7 od8 an8 od9 an9 od10 an10 od11 an11 od12 an12 od13 an13 od14 an14 od15 an15 od16 an16 od17 an17 od18 an18 od19 an19 od20 an20 od21 an21 od22 an22 od23 an23 od24 an24 od25 an25 od26 an26 od27 an27 od28 an28 od29 an29 od30 an30 od31 an31 od32 an32 od33 an33 od34 an34 od35 an35 : Option Addr} {sl0 sl1 sl2 sl3 sl4 sl5 sl6 sl7 sl8 sl9 sl10 sl11 sl12 sl13 sl14 sl15 sl16 sl17 sl18 sl19 sl20 sl21 sl22 sl23 sl24 sl25 sl26 sl27 sl28 sl29 sl30 sl31 sl32 sl33 sl34 sl35 : Array (Option Value)} {oc0 kV0 dc0 pm0 cd0 ct0 oc1 kV1 dc1 pm1 cd1 ct1 oc2 kV2 dc2 pm2 cd2 ct2 oc3 kV3 dc3 pm3 cd3 ct3 oc4 kV4 dc4 pm4 cd4 ct4 oc5 kV5 dc5 pm5 cd5 ct5 oc6 kV6 dc6 pm6 cd6 ct6 oc7 kV7 dc7 pm7 cd7 ct7 oc8 kV8 dc8 pm8 cd8 ct8 oc9 kV9 dc9 pm9 cd9 ct9 oc10 kV10 dc10 pm10 cd10 ct10 oc11 kV11 dc11 pm11 cd11 ct11 oc12 kV12 dc12 pm12 cd12 ct12 oc13 kV13 dc13 pm13 cd13 ct13 oc14 kV14 dc14 pm14 cd14 ct14 oc15 kV15 dc15 pm15 cd15 ct15 oc16 kV16 dc16 pm16 cd16 ct16 oc17 kV17 dc17 pm17 cd17 ct17 oc18 kV18 dc18 pm18 cd18 ct18 oc19 kV19 dc19 pm19 cd19 ct19 oc20 kV20 dc20 pm20 cd20 ct20 oc21 kV21 dc21 pm21 cd21 ct21 oc22 kV22 dc22 pm22 cd22 ct22 oc23 kV23 dc23 pm23  ct23 oc24 kV24 dc24 pm24 cd24 ct24 oc25 kV25 dc25 pm25 cd25 ct25 oc26 kV26 dc26 pm26 cd26 ct26 oc27 kV27 dc27 pm27 cd27 ct27 oc28 kV28 dc28 pm28 cd28 ct28 oc29 kV29 dc29 pm29 cd29 ct29 oc30 kV30 dc30 pm30 cd30 ct30 oc31 kV31 dc31 pm31  ct31 oc32 kV32 dc32 pm32 cd32 ct32 oc33 kV33 dc33 pm33 cd33 ct33 oc34 kV34 dc34 pm34  ct34 oc35 kV35 dc35 pm35 cd35 ct35 : Value}
    (a0 : PySem.W.nsIn K mainGlobals "_law_draw" = some (some (.ref f0))) (l0 : K.lookup f0 = some ⟨oc0, od0, .func (PySem.W.fnOf "_law_draw" "_law_draw" (defArgs s__law_draw) (defBody s__law_draw) (defScope s__law_draw) .none kV0 dc0 pm0 an0 cd0 ct0), sl0⟩) (c0 : PySem.W.codeIn K cd0 "_law_draw" = true) (k0 : PySem.W.keepIn K (.ref f0) = true)
    (a1 : PySem.W.nsIn K mainGlobals "_law_cell_at" = some (some (.ref f1))) (l1 : K.lookup f1 = some ⟨oc1, od1, .func (PySem.W.fnOf "_law_cell_at" "_law_cell_at" (defArgs s__law_cell_at) (defBody s__law_cell_at) (defScope s__law_cell_at) .none kV1 dc1 pm1 an1 cd1 ct1), sl1⟩) (c1 : PySem.W.codeIn K cd1 "_law_cell_at" = true) (k1 : PySem.W.keepIn K (.ref f1) = true)
    (a2 : PySem.W.nsIn K mainGlobals "_law_digits" = some (some (.ref f2))) (l2 : K.lookup f2 = some ⟨oc2, od2, .func (PySem.W.fnOf "_law_digits" "_law_digits" (defArgs s__law_digits) (defBody s__law_digits) (defScope s__law_digits) .none kV2 dc2 pm2 an2 cd2 ct2), sl2⟩) (c2 : PySem.W.codeIn K cd2 "_law_digits" = true) (k2 : PySem.W.keepIn K (.ref f2) = true)
    (a3 : PySem.W.nsIn K mainGlobals "_law_pool" = some (some (.ref f3))) (l3 : K.lookup f3 = some ⟨oc3, od3, .func (PySem.W.fnOf "_law_pool" "_law_pool" (defArgs s__law_pool) (defBody s__law_pool) (defScope s__law_pool) .none kV3 dc3 pm3 an3 cd3 ct3), sl3⟩) (c3 : PySem.W.codeIn K cd3 "_law_pool" = true) (k3 : PySem.W.keepIn K (.ref f3) = true)
    (a4 : PySem.W.nsIn K mainGlobals "_law_rows" = some (some (.ref f4))) (l4 : K.lookup f4 = some ⟨oc4, od4, .func (PySem.W.fnOf "_law_rows" "_law_rows" (defArgs s__law_rows) (defBody s__law_rows) (defScope s__law_rows) .none kV4 dc4 pm4 an4 cd4 ct4), sl4⟩) (c4 : PySem.W.codeIn K cd4 "_law_rows" = true) (k4 : PySem.W.keepIn K (.ref f4) = true)
    (a5 : PySem.W.nsIn K mainGlobals "_law_reader" = some (some (.ref f5))) (l5 : K.lookup f5 = some ⟨oc5, od5, .func (PySem.W.fnOf "_law_reader" "_law_reader" (defArgs s__law_reader) (defBody s__law_reader) (defScope s__law_reader) .none kV5 dc5 pm5 an5 cd5 ct5), sl5⟩) (c5 : PySem.W.codeIn K cd5 "_law_reader" = true) (k5 : PySem.W.keepIn K (.ref f5) = true)
    (a6 : PySem.W.nsIn K mainGlobals "_law_tape" = some (some (.ref f6))) (l6 : K.lookup f6 = some ⟨oc6, od6, .func (PySem.W.fnOf "_law_tape" "_law_tape" (defArgs s__law_tape) (defBody s__law_tape) (defScope s__law_tape) .none kV6 dc6 pm6 an6 cd6 ct6), sl6⟩) (c6 : PySem.W.codeIn K cd6 "_law_tape" = true) (k6 : PySem.W.keepIn K (.ref f6) = true)
    (a7 : PySem.W.nsIn K mainGlobals "_law_width" = some (some (.ref f7))) (l7 : K.lookup f7 = some ⟨oc7, od7, .func (PySem.W.fnOf "_law_width" "_law_width" (defArgs s__law_width) (defBody s__law_width) (defScope s__law_width) .none kV7 dc7 pm7 an7 cd7 ct7), sl7⟩) (c7 : PySem.W.codeIn K cd7 "_law_width" = true) (k7 : PySem.W.keepIn K (.ref f7) = true)
    (a8 : PySem.W.nsIn K mainGlobals "is_row" = some (some (.ref f8))) (l8 : K.lookup f8 = some ⟨oc8, od8, .func (PySem.W.fnOf "is_row" "is_row" (defArgs s_is_row) (defBody s_is_row) (defScope s_is_row) .none kV8 dc8 pm8 an8 cd8 ct8), sl8⟩) (c8 : PySem.W.codeIn K cd8 "is_row" = true) (k8 : PySem.W.keepIn K (.ref f8) = true)
    (a9 : PySem.W.nsIn K mainGlobals "is_letter" = some (some (.ref f9))) (l9 : K.lookup f9 = some ⟨oc9, od9, .func (PySem.W.fnOf "is_letter" "is_letter" (defArgs s_is_letter) (defBody s_is_letter) (defScope s_is_letter) .none kV9 dc9 pm9 an9 cd9 ct9), sl9⟩) (c9 : PySem.W.codeIn K cd9 "is_letter" = true) (k9 : PySem.W.keepIn K (.ref f9) = true)
    (a10 : PySem.W.nsIn K mainGlobals "width_of" = some (some (.ref f10))) (l10 : K.lookup f10 = some ⟨oc10, od10, .func (PySem.W.fnOf "width_of" "width_of" (defArgs s_width_of) (defBody s_width_of) (defScope s_width_of) .none kV10 dc10 pm10 an10 cd10 ct10), sl10⟩) (c10 : PySem.W.codeIn K cd10 "width_of" = true) (k10 : PySem.W.keepIn K (.ref f10) = true)
    (a11 : PySem.W.nsIn K mainGlobals "check_tape" = some (some (.ref f11))) (l11 : K.lookup f11 = some ⟨oc11, od11, .func (PySem.W.fnOf "check_tape" "check_tape" (defArgs s_check_tape) (defBody s_check_tape) (defScope s_check_tape) .none kV11 dc11 pm11 an11 cd11 ct11), sl11⟩) (c11 : PySem.W.codeIn K cd11 "check_tape" = true) (k11 : PySem.W.keepIn K (.ref f11) = true)
    (a12 : PySem.W.nsIn K mainGlobals "joined" = some (some (.ref f12))) (l12 : K.lookup f12 = some ⟨oc12, od12, .func (PySem.W.fnOf "joined" "joined" (defArgs s_joined) (defBody s_joined) (defScope s_joined) .none kV12 dc12 pm12 an12 cd12 ct12), sl12⟩) (c12 : PySem.W.codeIn K cd12 "joined" = true) (k12 : PySem.W.keepIn K (.ref f12) = true)
    (a13 : PySem.W.nsIn K mainGlobals "turned_reader" = some (some (.ref f13))) (l13 : K.lookup f13 = some ⟨oc13, od13, .func (PySem.W.fnOf "turned_reader" "turned_reader" (defArgs s_turned_reader) (defBody s_turned_reader) (defScope s_turned_reader) .none kV13 dc13 pm13 an13 cd13 ct13), sl13⟩) (c13 : PySem.W.codeIn K cd13 "turned_reader" = true) (k13 : PySem.W.keepIn K (.ref f13) = true)
    (a14 : PySem.W.nsIn K mainGlobals "_law_means" = some (some (.ref f14))) (l14 : K.lookup f14 = some ⟨oc14, od14, .func (PySem.W.fnOf "_law_means" "_law_means" (defArgs s__law_means) (defBody s__law_means) (defScope s__law_means) .none kV14 dc14 pm14 an14 cd14 ct14), sl14⟩) (c14 : PySem.W.codeIn K cd14 "_law_means" = true) (k14 : PySem.W.keepIn K (.ref f14) = true)
    (a15 : PySem.W.nsIn K mainGlobals "_law_reads" = some (some (.ref f15))) (l15 : K.lookup f15 = some ⟨oc15, od15, .func (PySem.W.fnOf "_law_reads" "_law_reads" (defArgs s__law_reads) (defBody s__law_reads) (defScope s__law_reads) .none kV15 dc15 pm15 an15 cd15 ct15), sl15⟩) (c15 : PySem.W.codeIn K cd15 "_law_reads" = true) (k15 : PySem.W.keepIn K (.ref f15) = true)
    (a16 : PySem.W.nsIn K mainGlobals "_law_mirror" = some (some (.ref f16))) (l16 : K.lookup f16 = some ⟨oc16, od16, .func (PySem.W.fnOf "_law_mirror" "_law_mirror" (defArgs s__law_mirror) (defBody s__law_mirror) (defScope s__law_mirror) .none kV16 dc16 pm16 an16 cd16 ct16), sl16⟩) (c16 : PySem.W.codeIn K cd16 "_law_mirror" = true) (k16 : PySem.W.keepIn K (.ref f16) = true)
    (a17 : PySem.W.nsIn K mainGlobals "_law_new" = some (some (.ref f17))) (l17 : K.lookup f17 = some ⟨oc17, od17, .func (PySem.W.fnOf "_law_new" "_law_new" (defArgs s__law_new) (defBody s__law_new) (defScope s__law_new) .none kV17 dc17 pm17 an17 cd17 ct17), sl17⟩) (c17 : PySem.W.codeIn K cd17 "_law_new" = true) (k17 : PySem.W.keepIn K (.ref f17) = true)
    (a18 : PySem.W.nsIn K mainGlobals "meaning" = some (some (.ref f18))) (l18 : K.lookup f18 = some ⟨oc18, od18, .func (PySem.W.fnOf "meaning" "meaning" (defArgs s_meaning) (defBody s_meaning) (defScope s_meaning) .none kV18 dc18 pm18 an18 cd18 ct18), sl18⟩) (c18 : PySem.W.codeIn K cd18 "meaning" = true) (k18 : PySem.W.keepIn K (.ref f18) = true)
    (a19 : PySem.W.nsIn K mainGlobals "text_of" = some (some (.ref f19))) (l19 : K.lookup f19 = some ⟨oc19, od19, .func (PySem.W.fnOf "text_of" "text_of" (defArgs s_text_of) (defBody s_text_of) (defScope s_text_of) .none kV19 dc19 pm19 an19 cd19 ct19), sl19⟩) (c19 : PySem.W.codeIn K cd19 "text_of" = true) (k19 : PySem.W.keepIn K (.ref f19) = true)
    (a20 : PySem.W.nsIn K mainGlobals "read_tape" = some (some (.ref f20))) (l20 : K.lookup f20 = some ⟨oc20, od20, .func (PySem.W.fnOf "read_tape" "read_tape" (defArgs s_read_tape) (defBody s_read_tape) (defScope s_read_tape) .none kV20 dc20 pm20 an20 cd20 ct20), sl20⟩) (c20 : PySem.W.codeIn K cd20 "read_tape" = true) (k20 : PySem.W.keepIn K (.ref f20) = true)
    (a21 : PySem.W.nsIn K mainGlobals "turned" = some (some (.ref f21))) (l21 : K.lookup f21 = some ⟨oc21, od21, .func (PySem.W.fnOf "turned" "turned" (defArgs s_turned) (defBody s_turned) (defScope s_turned) .none kV21 dc21 pm21 an21 cd21 ct21), sl21⟩) (c21 : PySem.W.codeIn K cd21 "turned" = true) (k21 : PySem.W.keepIn K (.ref f21) = true)
    (a22 : PySem.W.nsIn K mainGlobals "backwards" = some (some (.ref f22))) (l22 : K.lookup f22 = some ⟨oc22, od22, .func (PySem.W.fnOf "backwards" "backwards" (defArgs s_backwards) (defBody s_backwards) (defScope s_backwards) .none kV22 dc22 pm22 an22 cd22 ct22), sl22⟩) (c22 : PySem.W.codeIn K cd22 "backwards" = true) (k22 : PySem.W.keepIn K (.ref f22) = true)
    (a23 : PySem.W.nsIn K mainGlobals "_law_turned_right" = some (some (.ref f23))) (l23 : K.lookup f23 = some ⟨oc23, od23, .func (PySem.W.fnOf "_law_turned_right" "_law_turned_right" (defArgs s__law_turned_right) (defBody s__law_turned_right) (defScope s__law_turned_right) .none kV23 dc23 pm23 an23 (.ref cc0) ct23), sl23⟩) (c23 : PySem.W.codeIn K (.ref cc0) "_law_turned_right" = true) (k23 : PySem.W.keepIn K (.ref f23) = true)
    (a24 : PySem.W.nsIn K mainGlobals "_law_laid" = some (some (.ref f24))) (l24 : K.lookup f24 = some ⟨oc24, od24, .func (PySem.W.fnOf "_law_laid" "_law_laid" (defArgs s__law_laid) (defBody s__law_laid) (defScope s__law_laid) .none kV24 dc24 pm24 an24 cd24 ct24), sl24⟩) (c24 : PySem.W.codeIn K cd24 "_law_laid" = true) (k24 : PySem.W.keepIn K (.ref f24) = true)
    (a25 : PySem.W.nsIn K mainGlobals "check_two" = some (some (.ref f25))) (l25 : K.lookup f25 = some ⟨oc25, od25, .func (PySem.W.fnOf "check_two" "check_two" (defArgs s_check_two) (defBody s_check_two) (defScope s_check_two) .none kV25 dc25 pm25 an25 cd25 ct25), sl25⟩) (c25 : PySem.W.codeIn K cd25 "check_two" = true) (k25 : PySem.W.keepIn K (.ref f25) = true)
    (a26 : PySem.W.nsIn K mainGlobals "laid_rows" = some (some (.ref f26))) (l26 : K.lookup f26 = some ⟨oc26, od26, .func (PySem.W.fnOf "laid_rows" "laid_rows" (defArgs s_laid_rows) (defBody s_laid_rows) (defScope s_laid_rows) .none kV26 dc26 pm26 an26 cd26 ct26), sl26⟩) (c26 : PySem.W.codeIn K cd26 "laid_rows" = true) (k26 : PySem.W.keepIn K (.ref f26) = true)
    {dT27 : Addr} {ocd27 : Value} {odd27 : Option Addr} {sld27 : Array (Option Value)} {md27 : Nat} (dl27 : K.lookup dT27 = some ⟨ocd27, odd27, .seq #[.bool false] md27, sld27⟩)
    (a27 : PySem.W.nsIn K mainGlobals "laid" = some (some (.ref f27))) (l27 : K.lookup f27 = some ⟨oc27, od27, .func (PySem.W.fnOf "laid" "laid" (defArgs s_laid) (defBody s_laid) (defScope s_laid) (.ref dT27) kV27 dc27 pm27 an27 cd27 ct27), sl27⟩) (c27 : PySem.W.codeIn K cd27 "laid" = true) (k27 : PySem.W.keepIn K (.ref f27) = true)
    (a28 : PySem.W.nsIn K mainGlobals "goes_over" = some (some (.ref f28))) (l28 : K.lookup f28 = some ⟨oc28, od28, .func (PySem.W.fnOf "goes_over" "goes_over" (defArgs s_goes_over) (defBody s_goes_over) (defScope s_goes_over) .none kV28 dc28 pm28 an28 cd28 ct28), sl28⟩) (c28 : PySem.W.codeIn K cd28 "goes_over" = true) (k28 : PySem.W.keepIn K (.ref f28) = true)
    (a29 : PySem.W.nsIn K mainGlobals "over" = some (some (.ref f29))) (l29 : K.lookup f29 = some ⟨oc29, od29, .func (PySem.W.fnOf "over" "over" (defArgs s_over) (defBody s_over) (defScope s_over) .none kV29 dc29 pm29 an29 cd29 ct29), sl29⟩) (c29 : PySem.W.codeIn K cd29 "over" = true) (k29 : PySem.W.keepIn K (.ref f29) = true)
    (a30 : PySem.W.nsIn K mainGlobals "becomes" = some (some (.ref f30))) (l30 : K.lookup f30 = some ⟨oc30, od30, .func (PySem.W.fnOf "becomes" "becomes" (defArgs s_becomes) (defBody s_becomes) (defScope s_becomes) .none kV30 dc30 pm30 an30 cd30 ct30), sl30⟩) (c30 : PySem.W.codeIn K cd30 "becomes" = true) (k30 : PySem.W.keepIn K (.ref f30) = true)
    (a31 : PySem.W.nsIn K mainGlobals "_law_laid_right" = some (some (.ref f31))) (l31 : K.lookup f31 = some ⟨oc31, od31, .func (PySem.W.fnOf "_law_laid_right" "_law_laid_right" (defArgs s__law_laid_right) (defBody s__law_laid_right) (defScope s__law_laid_right) .none kV31 dc31 pm31 an31 (.ref cc2) ct31), sl31⟩) (c31 : PySem.W.codeIn K (.ref cc2) "_law_laid_right" = true) (k31 : PySem.W.keepIn K (.ref f31) = true)
    (a32 : PySem.W.nsIn K mainGlobals "is_whole" = some (some (.ref f32))) (l32 : K.lookup f32 = some ⟨oc32, od32, .func (PySem.W.fnOf "is_whole" "is_whole" (defArgs s_is_whole) (defBody s_is_whole) (defScope s_is_whole) .none kV32 dc32 pm32 an32 cd32 ct32), sl32⟩) (c32 : PySem.W.codeIn K cd32 "is_whole" = true) (k32 : PySem.W.keepIn K (.ref f32) = true)
    (a33 : PySem.W.nsIn K mainGlobals "cut" = some (some (.ref f33))) (l33 : K.lookup f33 = some ⟨oc33, od33, .func (PySem.W.fnOf "cut" "cut" (defArgs s_cut) (defBody s_cut) (defScope s_cut) .none kV33 dc33 pm33 an33 cd33 ct33), sl33⟩) (c33 : PySem.W.codeIn K cd33 "cut" = true) (k33 : PySem.W.keepIn K (.ref f33) = true)
    (a34 : PySem.W.nsIn K mainGlobals "_law_cut_right" = some (some (.ref f34))) (l34 : K.lookup f34 = some ⟨oc34, od34, .func (PySem.W.fnOf "_law_cut_right" "_law_cut_right" (defArgs s__law_cut_right) (defBody s__law_cut_right) (defScope s__law_cut_right) .none kV34 dc34 pm34 an34 (.ref cc1) ct34), sl34⟩) (c34 : PySem.W.codeIn K (.ref cc1) "_law_cut_right" = true) (k34 : PySem.W.keepIn K (.ref f34) = true)
    (a35 : PySem.W.nsIn K mainGlobals "law" = some (some (.ref f35))) (l35 : K.lookup f35 = some ⟨oc35, od35, .func (PySem.W.fnOf "law" "law" (defArgs s_law) (defBody s_law) (defScope s_law) .none kV35 dc35 pm35 an35 cd35 ct35), sl35⟩) (c35 : PySem.W.codeIn K cd35 "law" = true) (k35 : PySem.W.keepIn K (.ref f35) = true)
    (z0 : PySem.W.nsIn K mainGlobals "abs" = some none)
    (z1 : PySem.W.nsIn K mainGlobals "all" = some none)
    (z2 : PySem.W.nsIn K mainGlobals "any" = some none)
    (z3 : PySem.W.nsIn K mainGlobals "bool" = some none)
    (z4 : PySem.W.nsIn K mainGlobals "dict" = some none)
    (z5 : PySem.W.nsIn K mainGlobals "enumerate" = some none)
    (z6 : PySem.W.nsIn K mainGlobals "int" = some none)
    (z7 : PySem.W.nsIn K mainGlobals "isinstance" = some none)
    (z8 : PySem.W.nsIn K mainGlobals "len" = some none)
    (z9 : PySem.W.nsIn K mainGlobals "list" = some none)
    (z10 : PySem.W.nsIn K mainGlobals "max" = some none)
    (z11 : PySem.W.nsIn K mainGlobals "min" = some none)
    (z12 : PySem.W.nsIn K mainGlobals "range" = some none)
    (z13 : PySem.W.nsIn K mainGlobals "str" = some none)
    (z14 : PySem.W.nsIn K mainGlobals "sum" = some none)
    (z15 : PySem.W.nsIn K mainGlobals "tuple" = some none)
    (z16 : PySem.W.nsIn K mainGlobals "zip" = some none)
    {t0 : _} (n0 : PySem.W.nsIn K mainGlobals "HOLE" = some (some (.str (S [111]) t0)))
    {t1 : _} (n1 : PySem.W.nsIn K mainGlobals "BLANK" = some (some (.str (S [46]) t1)))
    {t2 : _} (n2 : PySem.W.nsIn K mainGlobals "LETTERS" = some (some (.str (S [97, 98, 99, 100, 101, 102, 103, 104, 105, 106, 107, 108, 109, 110, 111, 112, 113, 114, 115, 116, 117, 118, 119, 120, 121, 122]) t2)))
    {t3 : _} (n3 : PySem.W.nsIn K mainGlobals "WIDEST" = some (some (.int 4 t3)))
    {t4 : _} (n4 : PySem.W.nsIn K mainGlobals "MOST" = some (some (.int 30 t4)))
    (ch0 : PySem.W.codeHdIn K cc0 PP0 = true) (tb0 : h.get? PP0 = some { cls := .none, data := .fields #[] }) (kn0 : K.lookup PP0 = none)
    (ch1 : PySem.W.codeHdIn K cc1 PP1 = true) (tb1 : h.get? PP1 = some { cls := .none, data := .fields #[] }) (kn1 : K.lookup PP1 = none)
    (ch2 : PySem.W.codeHdIn K cc2 PP2 = true) (tb2 : h.get? PP2 = some { cls := .none, data := .fields #[] }) (kn2 : K.lookup PP2 = none)
    (nn0_1 : PP0 ≠ PP1)
    (nn0_2 : PP0 ≠ PP2)
    (nn1_2 : PP1 ≠ PP2) :
    LamX.LawAtS l w K CX0 9 63 "_law_script" mg fa h := by
  have e := hfa.symm.trans (PySem.W.mg_of X G a35)
  cases e
  have T : Txt K mg := {
    z_abs := PySem.W.mg_none_of X G z0
    z_all := PySem.W.mg_none_of X G z1
    z_any := PySem.W.mg_none_of X G z2
    z_bool := PySem.W.mg_none_of X G z3
    z_dict := PySem.W.mg_none_of X G z4
    z_enumerate := PySem.W.mg_none_of X G z5
    z_int := PySem.W.mg_none_of X G z6
    z_isinstance := PySem.W.mg_none_of X G z7
    z_len := PySem.W.mg_none_of X G z8
    z_list := PySem.W.mg_none_of X G z9
    z_max := PySem.W.mg_none_of X G z10
    z_min := PySem.W.mg_none_of X G z11
    z_range := PySem.W.mg_none_of X G z12
    z_str := PySem.W.mg_none_of X G z13
    z_sum := PySem.W.mg_none_of X G z14
    z_tuple := PySem.W.mg_none_of X G z15
    z_zip := PySem.W.mg_none_of X G z16
    c_HOLE := ⟨_, PySem.W.mg_of X G n0⟩
    c_BLANK := ⟨_, PySem.W.mg_of X G n1⟩
    c_LETTERS := ⟨_, PySem.W.mg_of X G n2⟩
    c_WIDEST := ⟨_, PySem.W.mg_of X G n3⟩
    c_MOST := ⟨_, PySem.W.mg_of X G n4⟩
    d__law_draw := defAt_mk X G a0 l0 c0 k0 fun F => F.binds fun _ _ _ _ _ _ us hl => match us, hl with | [_, _, _], _ => rfl
    d__law_cell_at := defAt_mk X G a1 l1 c1 k1 fun F => F.binds fun _ _ _ _ _ _ us hl => match us, hl with | [_, _], _ => rfl
    d__law_digits := defAt_mk X G a2 l2 c2 k2 fun F => F.binds fun _ _ _ _ _ _ us hl => match us, hl with | [_, _, _, _], _ => rfl
    d__law_pool := defAt_mk X G a3 l3 c3 k3 fun F => F.binds fun _ _ _ _ _ _ us hl => match us, hl with | [_, _], _ => rfl
    d__law_rows := defAt_mk X G a4 l4 c4 k4 fun F => F.binds fun _ _ _ _ _ _ us hl => match us, hl with | [_], _ => rfl
    d__law_reader := defAt_mk X G a5 l5 c5 k5 fun F => F.binds fun _ _ _ _ _ _ us hl => match us, hl with | [_, _, _, _], _ => rfl
    d__law_tape := defAt_mk X G a6 l6 c6 k6 fun F => F.binds fun _ _ _ _ _ _ us hl => match us, hl with | [_, _, _, _], _ => rfl
    d__law_width := defAt_mk X G a7 l7 c7 k7 fun F => F.binds fun _ _ _ _ _ _ us hl => match us, hl with | [_], _ => rfl
    d_is_row := defAt_mk X G a8 l8 c8 k8 fun F => F.binds fun _ _ _ _ _ _ us hl => match us, hl with | [_, _], _ => rfl
    d_is_letter := defAt_mk X G a9 l9 c9 k9 fun F => F.binds fun _ _ _ _ _ _ us hl => match us, hl with | [_], _ => rfl
    d_width_of := defAt_mk X G a10 l10 c10 k10 fun F => F.binds fun _ _ _ _ _ _ us hl => match us, hl with | [_], _ => rfl
    d_check_tape := defAt_mk X G a11 l11 c11 k11 fun F => F.binds fun _ _ _ _ _ _ us hl => match us, hl with | [_, _], _ => rfl
    d_joined := defAt_mk X G a12 l12 c12 k12 fun F => F.binds fun _ _ _ _ _ _ us hl => match us, hl with | [_, _], _ => rfl
    d_turned_reader := defAt_mk X G a13 l13 c13 k13 fun F => F.binds fun _ _ _ _ _ _ us hl => match us, hl with | [_], _ => rfl
    d__law_means := defAt_mk X G a14 l14 c14 k14 fun F => F.binds fun _ _ _ _ _ _ us hl => match us, hl with | [_, _], _ => rfl
    d__law_reads := defAt_mk X G a15 l15 c15 k15 fun F => F.binds fun _ _ _ _ _ _ us hl => match us, hl with | [_, _], _ => rfl
    d__law_mirror := defAt_mk X G a16 l16 c16 k16 fun F => F.binds fun _ _ _ _ _ _ us hl => match us, hl with | [_], _ => rfl
    d__law_new := defAt_mk X G a17 l17 c17 k17 fun F => F.binds fun _ _ _ _ _ _ us hl => match us, hl with | [_, _, _], _ => rfl
    d_meaning := defAt_mk X G a18 l18 c18 k18 fun F => F.binds fun _ _ _ _ _ _ us hl => match us, hl with | [_, _], _ => rfl
    d_text_of := defAt_mk X G a19 l19 c19 k19 fun F => F.binds fun _ _ _ _ _ _ us hl => match us, hl with | [_, _], _ => rfl
    d_read_tape := defAt_mk X G a20 l20 c20 k20 fun F => F.binds fun _ _ _ _ _ _ us hl => match us, hl with | [_, _], _ => rfl
    d_turned := defAt_mk X G a21 l21 c21 k21 fun F => F.binds fun _ _ _ _ _ _ us hl => match us, hl with | [_, _], _ => rfl
    d_backwards := defAt_mk X G a22 l22 c22 k22 fun F => F.binds fun _ _ _ _ _ _ us hl => match us, hl with | [_, _], _ => rfl
    d__law_turned_right := defAt_mk X G a23 l23 c23 k23 fun F => F.binds fun _ _ _ _ _ _ us hl => match us, hl with | [_, _], _ => rfl
    d__law_laid := defAt_mk X G a24 l24 c24 k24 fun F => F.binds fun _ _ _ _ _ _ us hl => match us, hl with | [_, _, _], _ => rfl
    d_check_two := defAt_mk X G a25 l25 c25 k25 fun F => F.binds fun _ _ _ _ _ _ us hl => match us, hl with | [_, _, _], _ => rfl
    d_laid_rows := defAt_mk X G a26 l26 c26 k26 fun F => F.binds fun _ _ _ _ _ _ us hl => match us, hl with | [_, _, _], _ => rfl
    d_laid := defAtD_mk X G a27 l27 c27 k27 dl27 (.cons rfl .nil) (by decide) (by decide) (fun T kV doc pm an cdv ct us its h1 h2 => match us, its, h1, h2 with | [_, _, _, _], [_], _, _ => ⟨_, rfl, rfl⟩) (fun T kV doc pm an cdv ct us its h1 h2 => match us, its, h1, h2 with | [_, _, _], [_], _, _ => ⟨_, rfl, rfl⟩)
    d_goes_over := defAt_mk X G a28 l28 c28 k28 fun F => F.binds fun _ _ _ _ _ _ us hl => match us, hl with | [_, _], _ => rfl
    d_over := defAt_mk X G a29 l29 c29 k29 fun F => F.binds fun _ _ _ _ _ _ us hl => match us, hl with | [_, _], _ => rfl
    d_becomes := defAt_mk X G a30 l30 c30 k30 fun F => F.binds fun _ _ _ _ _ _ us hl => match us, hl with | [_, _, _], _ => rfl
    d__law_laid_right := defAt_mk X G a31 l31 c31 k31 fun F => F.binds fun _ _ _ _ _ _ us hl => match us, hl with | [_, _, _], _ => rfl
    d_is_whole := defAt_mk X G a32 l32 c32 k32 fun F => F.binds fun _ _ _ _ _ _ us hl => match us, hl with | [_], _ => rfl
    d_cut := defAt_mk X G a33 l33 c33 k33 fun F => F.binds fun _ _ _ _ _ _ us hl => match us, hl with | [_, _, _], _ => rfl
    d__law_cut_right := defAt_mk X G a34 l34 c34 k34 fun F => F.binds fun _ _ _ _ _ _ us hl => match us, hl with | [_, _, _], _ => rfl
  }
  refine ⟨_, [(cc0, PP0), (cc1, PP1), (cc2, PP2)], spLaw K (TT ⟨cc0, PP0, cc1, PP1, cc2, PP2⟩), (List.forall_mem_cons.mpr ⟨tb0, (List.forall_mem_cons.mpr ⟨tb1, (List.forall_mem_cons.mpr ⟨tb2, (fun _ h => nomatch h)⟩)⟩)⟩), (List.forall_mem_cons.mpr ⟨kn0, (List.forall_mem_cons.mpr ⟨kn1, (List.forall_mem_cons.mpr ⟨kn2, (fun _ h => nomatch h)⟩)⟩)⟩), (List.forall_mem_cons.mpr ⟨PySem.W.codeHd_of_K X ch0, (List.forall_mem_cons.mpr ⟨PySem.W.codeHd_of_K X ch1, (List.forall_mem_cons.mpr ⟨PySem.W.codeHd_of_K X ch2, (fun _ h => nomatch h)⟩)⟩)⟩), fun s v => .of_eq rfl, fun H a ns _ _ hH hS => ⟨rfl, ns, a, rfl, hS, (List.forall_mem_cons.mpr ⟨LamX.TabS.nil (hH (cc0, PP0) List.mem_cons_self), (List.forall_mem_cons.mpr ⟨LamX.TabS.nil (hH (cc1, PP1) (List.mem_cons_of_mem _ List.mem_cons_self)), (List.forall_mem_cons.mpr ⟨LamX.TabS.nil (hH (cc2, PP2) (List.mem_cons_of_mem _ (List.mem_cons_of_mem _ List.mem_cons_self))), (fun _ h => nomatch h)⟩)⟩)⟩), fun _ => rfl⟩, fun base _ _ hT => ok_law (mL := ⟨cc0, PP0, cc1, PP1, cc2, PP2⟩) T { e0 := defAtC_mk X G a23 l23 c23 k23 (fun F => F.binds fun _ _ _ _ _ _ us hl => match us, hl with | [_, _], _ => rfl), t0 := hT (cc0, PP0) List.mem_cons_self, e1 := defAtC_mk X G a34 l34 c34 k34 (fun F => F.binds fun _ _ _ _ _ _ us hl => match us, hl with | [_, _, _], _ => rfl), t1 := hT (cc1, PP1) (List.mem_cons_of_mem _ List.mem_cons_self), n0_1 := nn0_1, e2 := defAtC_mk X G a31 l31 c31 k31 (fun F => F.binds fun _ _ _ _ _ _ us hl => match us, hl with | [_, _, _], _ => rfl), t2 := hT (cc2, PP2) (List.mem_cons_of_mem _ (List.mem_cons_of_mem _ List.mem_cons_self)), n0_2 := nn0_2, n1_2 := nn1_2 } (fun_mk (st := s_law) l35 c35 k35)⟩
end Ho
open PySem PySem.W PyProof.Rows in
set_option maxHeartbeats 0 in
theorem PySem.Challenge.cw_holetape_k09_shapes_holds : PySem.Challenge.rw_holetape_k09_shapes.Holds := by
  w_on; o_law; k_head; (case hw => w_witness2)
  k_fill
  refine LamX.walk_ofTs (l := PySem.Challenge.rw_holetape_k09_shapes) (n := 63) (k := 9) (x := "_law_script") (CX := fun _ => L2.CX0) rfl (by decide) rfl ⟨rfl, by decide, by decide⟩ (fun w h Y => PySem.W.km_in_of Y) ?F (fun _ _ _ _ _ h => h)
  case F =>
    intro w mg fa h Y KX G hmg
    refine' Ho.all_mk KX G hmg ?a0 ?l0 ?c0 ?k0 ?a1 ?l1 ?c1 ?k1 ?a2 ?l2 ?c2 ?k2 ?a3 ?l3 ?c3 ?k3 ?a4 ?l4 ?c4 ?k4 ?a5 ?l5 ?c5 ?k5 ?a6 ?l6 ?c6 ?k6 ?a7 ?l7 ?c7 ?k7 ?a8 ?l8 ?c8 ?k8 ?a9 ?l9 ?c9 ?k9 ?a10 ?l10 ?c10 ?k10 ?a11 ?l11 ?c11 ?k11 ?a12 ?l12 ?c12 ?k12 ?a13 ?l13 ?c13 ?k13 ?a14 ?l14 ?c14 ?k14 ?a15 ?l15 ?c15 ?k15 ?a16 ?l16 ?c16 ?k16 ?a17 ?l17 ?c17 ?k17 ?a18 ?l18 ?c18 ?k18 ?a19 ?l19 ?c19 ?k19 ?a20 ?l20 ?c20 ?k20 ?a21 ?l21 ?c21 ?k21 ?a22 ?l22 ?c22 ?k22 ?a23 ?l23 ?c23 ?k23 ?a24 ?l24 ?c24 ?k24 ?a25 ?l25 ?c25 ?k25 ?a26 ?l26 ?c26 ?k26 ?dl27 ?a27 ?l27 ?c27 ?k27 ?a28 ?l28 ?c28 ?k28 ?a29 ?l29 ?c29 ?k29 ?a30 ?l30 ?c30 ?k30 ?a31 ?l31 ?c31 ?k31 ?a32 ?l32 ?c32 ?k32 ?a33 ?l33 ?c33 ?k33 ?a34 ?l34 ?c34 ?k34 ?a35 ?l35 ?c35 ?k35 ?z0 ?z1 ?z2 ?z3 ?z4 ?z5 ?z6 ?z7 ?z8 ?z9 ?z10 ?z11 ?z12 ?z13 ?z14 ?z15 ?z16 ?n0 ?n1 ?n2 ?n3 ?n4 ?ch0 (PySem.W.km_tabs_of Y _ (.tail _ (.tail _ (.head _)))) ?kn0 ?ch1 (PySem.W.km_tabs_of Y _ (.tail _ (.head _))) ?kn1 ?ch2 (PySem.W.km_tabs_of Y _ (.head _)) ?kn2 ?nn0_1 ?nn0_2 ?nn1_2
    (case a0 => k_is); (case l0 => k_is); (case c0 => k_is); (case k0 => k_is); (case a1 => k_is); (case l1 => k_is); (case c1 => k_is); (case k1 => k_is); (case a2 => k_is); (case l2 => k_is); (case c2 => k_is); (case k2 => k_is); (case a3 => k_is); (case l3 => k_is); (case c3 => k_is); (case k3 => k_is); (case a4 => k_is); (case l4 => k_is); (case c4 => k_is); (case k4 => k_is); (case a5 => k_is); (case l5 => k_is); (case c5 => k_is); (case k5 => k_is); (case a6 => k_is); (case l6 => k_is); (case c6 => k_is); (case k6 => k_is); (case a7 => k_is); (case l7 => k_is); (case c7 => k_is); (case k7 => k_is); (case a8 => k_is); (case l8 => k_is); (case c8 => k_is); (case k8 => k_is); (case a9 => k_is); (case l9 => k_is); (case c9 => k_is); (case k9 => k_is); (case a10 => k_is); (case l10 => k_is); (case c10 => k_is); (case k10 => k_is); (case a11 => k_is); (case l11 => k_is); (case c11 => k_is); (case k11 => k_is); (case a12 => k_is); (case l12 => k_is); (case c12 => k_is); (case k12 => k_is); (case a13 => k_is); (case l13 => k_is); (case c13 => k_is); (case k13 => k_is); (case a14 => k_is); (case l14 => k_is); (case c14 => k_is); (case k14 => k_is); (case a15 => k_is); (case l15 => k_is); (case c15 => k_is); (case k15 => k_is); (case a16 => k_is); (case l16 => k_is); (case c16 => k_is); (case k16 => k_is); (case a17 => k_is); (case l17 => k_is); (case c17 => k_is); (case k17 => k_is); (case a18 => k_is); (case l18 => k_is); (case c18 => k_is); (case k18 => k_is); (case a19 => k_is); (case l19 => k_is); (case c19 => k_is); (case k19 => k_is); (case a20 => k_is); (case l20 => k_is); (case c20 => k_is); (case k20 => k_is); (case a21 => k_is); (case l21 => k_is); (case c21 => k_is); (case k21 => k_is); (case a22 => k_is); (case l22 => k_is); (case c22 => k_is); (case k22 => k_is); (case a23 => k_is); (case l23 => k_is); (case c23 => k_is); (case k23 => k_is); (case a24 => k_is); (case l24 => k_is); (case c24 => k_is); (case k24 => k_is); (case a25 => k_is); (case l25 => k_is); (case c25 => k_is); (case k25 => k_is); (case a26 => k_is); (case l26 => k_is); (case c26 => k_is); (case k26 => k_is); (case a27 => k_is); (case l27 => k_is); (case c27 => k_is); (case k27 => k_is); (case dl27 => k_is); (case a28 => k_is); (case l28 => k_is); (case c28 => k_is); (case k28 => k_is); (case a29 => k_is); (case l29 => k_is); (case c29 => k_is); (case k29 => k_is); (case a30 => k_is); (case l30 => k_is); (case c30 => k_is); (case k30 => k_is); (case a31 => k_is); (case l31 => k_is); (case c31 => k_is); (case k31 => k_is); (case a32 => k_is); (case l32 => k_is); (case c32 => k_is); (case k32 => k_is); (case a33 => k_is); (case l33 => k_is); (case c33 => k_is); (case k33 => k_is); (case a34 => k_is); (case l34 => k_is); (case c34 => k_is); (case k34 => k_is); (case a35 => k_is); (case l35 => k_is); (case c35 => k_is); (case k35 => k_is); (case z0 => k_is); (case z1 => k_is); (case z2 => k_is); (case z3 => k_is); (case z4 => k_is); (case z5 => k_is); (case z6 => k_is); (case z7 => k_is); (case z8 => k_is); (case z9 => k_is); (case z10 => k_is); (case z11 => k_is); (case z12 => k_is); (case z13 => k_is); (case z14 => k_is); (case z15 => k_is); (case z16 => k_is); (case n0 => k_is); (case n1 => k_is); (case n2 => k_is); (case n3 => k_is); (case n4 => k_is); (case ch0 => kernel_rfl); (case kn0 => kernel_rfl); (case ch1 => kernel_rfl); (case kn1 => kernel_rfl); (case ch2 => kernel_rfl); (case kn2 => kernel_rfl); (case nn0_1 => decide); (case nn0_2 => decide); (case nn1_2 => decide)
