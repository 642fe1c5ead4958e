import PyProof.Rows.All
import Wide.All
import OpenK.AllK
import Wide.FinOn
import HandS.ForMost
import HandS.Evl
import HandS.Walk
import HandS.IsInst
import HandS.Wide
import HandS.Conv
import HandS.Style
import HandS.DictComp
import KE.GoesEnum
import KE.GoesMore
import HandS.TupLe
import HandS.SetFor
import KE.DataCmp
import PySem.Challenge.RW_holetape_k04_whole_ways
set_option Elab.async false
set_option linter.all false
set_option maxRecDepth 100000
set_option maxHeartbeats 4000000
set_option autoImplicit false
/-! Ho, part A: texts by their codes; a def with its promise by its name; what evaluates to what, further -/
namespace Ho
open PySem PySem.Spec PyProof.Rows L2 Evl

/-! ### texts -/
def S (l : List Nat) : Str := ⟨l.toArray⟩
abbrev VS (l : List Nat) : V := .str (S l)
theorem S_len (l : List Nat) : (S l).length = l.length := by
  show l.toArray.size = l.length
  simp
theorem S_cps (l : List Nat) : (S l).cps.toList = l := by
  show l.toArray.toList = l
  simp
theorem S_inj {a b : List Nat} (h : S a = S b) : a = b := by
  have := congrArg (fun z : Str => z.cps.toList) h
  simpa [S] using this
theorem S_of (x : Str) : S x.cps.toList = x := by
  cases x with
  | mk c => simp [S]
theorem S_add (a b : List Nat) : S a ++ S b = S (a ++ b) := by
  show (⟨_⟩ : Str) = ⟨_⟩
  simp [S]
theorem VS_inj {a b : List Nat} (h : VS a = VS b) : a = b := S_inj (V.str.inj h)
theorem VS_ne {a b : List Nat} (h : a ≠ b) : VS a ≠ VS b := fun e => h (VS_inj e)
theorem dec_VS (a b : List Nat) : decide (VS a = VS b) = decide (a = b) := by
  by_cases h : a = b
  · subst h; simp
  · rw [decide_eq_false h, decide_eq_false (VS_ne h)]
theorem dec_VI (a b : Int) : decide (V.int a = V.int b) = decide (a = b) := by
  by_cases h : a = b
  · subst h; simp
  · rw [decide_eq_false h, decide_eq_false fun e => h (V.int.inj e)]
theorem dec_VB (a b : Bool) : decide (V.bl a = V.bl b) = decide (a = b) := by
  cases a <;> cases b <;> rfl
abbrev Txts (t : List (List Nat)) : List V := t.map VS
abbrev Ints (t : List Int) : List V := t.map V.int
abbrev Bls (t : List Bool) : List V := t.map V.bl

/-! ### the module's constants -/
section
variable {X : Cx}
theorem pe_gs {x : Str} {l : List Nat} {pos : Pos} (hg : Gl X x) (hm : ∃ t, X.mg x = some (.str (S l) t)) (hd : (x == ("__debug__" : Str)) = false := by decide) : PE X (.Name x pos) (tC (VS l)) := by
  obtain ⟨t, hm⟩ := hm
  exact pe_glob hg hm ⟨t, rfl⟩ hd
theorem pe_gi {x : Str} {i : Int} {pos : Pos} (hg : Gl X x) (hm : ∃ t, X.mg x = some (.int i t)) (hd : (x == ("__debug__" : Str)) = false := by decide) : PE X (.Name x pos) (tC (.int i)) := by
  obtain ⟨t, hm⟩ := hm
  exact pe_glob hg hm ⟨t, rfl⟩ hd
end

/-! ### a def of the module, with its promise -/
structure DefAt (K : PySem.W.Frag) (mg : Str → Option Value) (x qual : Str) (st : Stmt) (ps : List Str) : Prop where
  ex : ∃ f fd, mg x = some (.ref f) ∧ Fun K x qual st f fd ∧ Binds K fd ps []
structure OkF (P : Program) (w : World) (K : PySem.W.Frag) (mg : Str → Option Value) (base : Heap) (CX : CXT) (x : Str) (k : Nat) (sp : Sp) : Prop where
  ex : ∃ f fd ps, mg x = some (.ref f) ∧ PySem.W.keepIn K (.ref f) = true ∧ Binds K fd ps [] ∧ FnOk P w K mg base CX k f fd ps sp
section
variable {P : Program} {w : World} {K : PySem.W.Frag} {mg : Str → Option Value} {base : Heap}
theorem OkF.of {x qual : Str} {st : Stmt} {ps N : List Str} {k : Nat} {sp : Sp} (D : DefAt K mg x qual st ps) (Sc : FnScope N ps (defScope st)) (len : ∀ vs H Q E, sp vs H Q E → vs.length = ps.length)
    (hbody : ∀ (f : Addr) (cdv : Value) (A : Around) (outer : List Env) (s : Shared) (H : Hp) (vs : List V) (Q : VK) (E : XK), Room k (A.deeper (envOfC qual (defScope st) s.heap.objs.size f cdv)) → sp vs H Q E →
      ∃ t, PSs (cxOf CX0 P w K mg base N qual (defScope st) f cdv A outer s H E).nox (defBody st) t ∧ t { nx := fun _ H' => Q .non H', rt := Q } (start N vs) H) : OkF P w K mg base CX0 x (k + 1) sp := by
  obtain ⟨f, fd, hm, F, b⟩ := D.ex
  exact ⟨f, fd, ps, hm, F.kp, b, F.ok Sc len (hbody f)⟩
end
def tCallO (sp : Sp) (E : XK) (t : TA) : TE := fun σ H Q => t σ H fun vs H1 => sp vs H1 Q E
theorem tCallO_eq (sp : Sp) (E : XK) (t : TA) : tCall sp [] E t = tCallO sp E t := by
  funext σ H Q
  unfold tCall tCallO
  simp only [List.append_nil]
section
variable {X : Cx} {CX : CXT} {k j : Nat} {sp : Sp} {E : XK} {x : Str} {p pos : Pos} {e : Expr} {es : List Expr} {t : TA}
theorem pe_callO (O : OkF X.prog X.w X.K X.mg X.base CX x k sp) (hr : Room j X.A) (hg : Gl X x) (hx : Passes CX X E) (ha : PA X (e :: es) t) (hk : k ≤ j := by decide)
    (hdb : (x == ("__debug__" : Str)) = false := by decide) (he : starEach (e :: es) X.env = (false, eval e X.env) :: starEach es X.env := by rfl) (hpl : (backTo pos (starEach es X.env)).any (·.1) = false := by rfl) :
    PE X (.Call (.Name x p) (e :: es) [] pos) (tCallO sp E t) := by
  obtain ⟨f, fd, ps, hm, hkp, hb, F⟩ := O.ex
  rw [← tCallO_eq]
  exact pe_call F (hr.mono hk) hg hm hkp hb .nil hx ha hdb he hpl
theorem pe_callO0 (O : OkF X.prog X.w X.K X.mg X.base CX x k sp) (hr : Room j X.A) (hg : Gl X x) (hx : Passes CX X E) (hk : k ≤ j := by decide)
    (hdb : (x == ("__debug__" : Str)) = false := by decide) : PE X (.Call (.Name x p) [] [] pos) (tCallO sp E tNil) := by
  obtain ⟨f, fd, ps, hm, hkp, hb, F⟩ := O.ex
  rw [← tCallO_eq]
  exact pe_call0 F (hr.mono hk) hg hm hkp hb .nil hx hdb
end

/-! ### lists and tuples that the heap tracks -/
def SL (K : PySem.W.Frag) (H : Hp) (a : Addr) (xs : List V) : Prop := Rd H a (.lst xs)
def ST (K : PySem.W.Frag) (H : Hp) (a : Addr) (xs : List V) : Prop := Rd H a (.tup xs)
theorem SL.q {K : PySem.W.Frag} {H : Hp} {a : Addr} {xs : List V} (h : SL K H a xs) : SqL K H a xs := .inl h
theorem ST.q {K : PySem.W.Frag} {H : Hp} {a : Addr} {xs : List V} (h : ST K H a xs) : SqT K H a xs := .inl h
theorem exl {K : PySem.W.Frag} {H H' : Hp} {a : Addr} {xs : List V} (e : Ex H H') (h : SL K H a xs) : SL K H' a xs := ex_rd e h
theorem ext {K : PySem.W.Frag} {H H' : Hp} {a : Addr} {xs : List V} (e : Ex H H') (h : ST K H a xs) : ST K H' a xs := ex_rd e h
theorem slof {K : PySem.W.Frag} {H : Hp} {a : Addr} {xs : List V} (h : H a = some (.lst xs)) : SL K H a xs := .inl h
theorem stof {K : PySem.W.Frag} {H : Hp} {a : Addr} {xs : List V} (h : H a = some (.tup xs)) : ST K H a xs := .inl h
theorem rd_ne {H : Hp} {a : Addr} {u : HO} (h : Rd H a u) : H a ≠ none := by
  rcases h with h | ⟨o, h⟩ <;> rw [h] <;> simp
theorem SL.ne {K : PySem.W.Frag} {H : Hp} {a d : Addr} {xs : List V} (h : SL K H a xs) (n : H d = none) : a ≠ d := fun e => rd_ne h (e ▸ n)
theorem ST.ne {K : PySem.W.Frag} {H : Hp} {a d : Addr} {xs : List V} (h : ST K H a xs) (n : H d = none) : a ≠ d := fun e => rd_ne h (e ▸ n)
theorem H_ne {H : Hp} {a d : Addr} {o : HO} (h : H a = some o) (n : H d = none) : a ≠ d := ne_of_none h n

/-! ### what evaluates to what, further -/
/-- to a list of these, new or not -/
def EvQ (K : PySem.W.Frag) (te : TE) (σ : L2.St) (H : Hp) (xs : List V) : Prop := ∀ H1, Ex H H1 → ∀ Q : VK, (∀ a H2, Ex H1 H2 → SL K H2 a xs → Q (.ref a) H2) → te σ H1 Q
/-- to something of which P holds -/
def EvG (te : TE) (σ : L2.St) (H : Hp) (P : V → Hp → Prop) : Prop := ∀ H1, Ex H H1 → ∀ Q : VK, (∀ v H2, Ex H1 H2 → P v H2 → Q v H2) → te σ H1 Q
/-- to a new dict -/
def EvD (te : TE) (σ : L2.St) (H : Hp) (kvs : List (Key × V)) : Prop := ∀ H1, Ex H H1 → ∀ Q : VK, (∀ p H2, H1 p = none → Ex H1 H2 → H2 p = some (.dK kvs) → Q (.ref p) H2) → te σ H1 Q
def Mon (P : V → Hp → Prop) : Prop := ∀ v H H', Ex H H' → P v H → P v H'
def isV (v : V) : V → Hp → Prop := fun u _ => u = v
def isL (K : PySem.W.Frag) (xs : List V) : V → Hp → Prop := fun u H => ∃ a, u = .ref a ∧ SL K H a xs
def isQ (K : PySem.W.Frag) (xs : List V) : V → Hp → Prop := fun u H => ∃ a, u = .ref a ∧ SqL K H a xs
def isD (kvs : List (Key × V)) : V → Hp → Prop := fun u H => ∃ a, u = .ref a ∧ H a = some (.dK kvs)
def isT (K : PySem.W.Frag) (xs : List V) : V → Hp → Prop := fun u H => ∃ a, u = .ref a ∧ ST K H a xs
def AllP : List (V → Hp → Prop) → List V → Hp → Prop
  | [], vs, _ => vs = []
  | P :: Ps, vs, H => ∃ v r, vs = v :: r ∧ P v H ∧ AllP Ps r H
theorem AllP.length : ∀ {Ps : List (V → Hp → Prop)} {vs : List V} {H : Hp}, AllP Ps vs H → vs.length = Ps.length
  | [], vs, H, h => by rw [show vs = [] from h]; rfl
  | P :: Ps, vs, H, h => by
    obtain ⟨v, r, rfl, _, t⟩ := h
    rw [List.length_cons, List.length_cons, AllP.length t]
def EvAG (ta : TA) (σ : L2.St) (H : Hp) (Ps : List (V → Hp → Prop)) : Prop := ∀ H1, Ex H H1 → ∀ Q : List V → Hp → Prop, (∀ vs H2, Ex H1 H2 → AllP Ps vs H2 → Q vs H2) → ta σ H1 Q
theorem mon_V (v : V) : Mon (isV v) := fun _ _ _ _ h => h
theorem mon_L (K : PySem.W.Frag) (xs : List V) : Mon (isL K xs) := fun _ _ _ e ⟨a, h1, h2⟩ => ⟨a, h1, exl e h2⟩
theorem mon_T (K : PySem.W.Frag) (xs : List V) : Mon (isT K xs) := fun _ _ _ e ⟨a, h1, h2⟩ => ⟨a, h1, ext e h2⟩
theorem mon_D (kvs : List (Key × V)) : Mon (isD kvs) := fun _ _ _ e ⟨a, h1, h2⟩ => ⟨a, h1, e a _ h2⟩

section
variable {K : PySem.W.Frag} {σ : L2.St} {H H' : Hp} {ta tb te tx tl : TE} {t u : TT} {x y z v : V} {r : R2} {xs ys : List V} {P : V → Hp → Prop} {Ps : List (V → Hp → Prop)} {tr : TA}
theorem EvQ.mono (e : Ex H H') (h : EvQ K te σ H xs) : EvQ K te σ H' xs := fun H1 a Q q => h H1 (e.trans a) Q q
theorem EvG.mono (e : Ex H H') (h : EvG te σ H P) : EvG te σ H' P := fun H1 a Q q => h H1 (e.trans a) Q q
theorem EvAG.mono {ta : TA} (e : Ex H H') (h : EvAG ta σ H Ps) : EvAG ta σ H' Ps := fun H1 a Q q => h H1 (e.trans a) Q q
theorem q_new (h : EvL te σ H xs) : EvQ K te σ H xs := fun H1 e Q q => h H1 e Q fun p H2 _ e2 h2 => q p H2 e2 (slof h2)
theorem q_old {a : Addr} (h : Ev te σ H (.ref a)) (hs : SL K H a xs) : EvQ K te σ H xs := fun H1 e Q q => h H1 e Q fun H2 e2 => q a H2 e2 (exl (e.trans e2) hs)
theorem g_V (h : Ev te σ H v) : EvG te σ H (isV v) := fun H1 e Q q => h H1 e Q fun H2 e2 => q v H2 e2 rfl
theorem g_L (h : EvQ K te σ H xs) : EvG te σ H (isL K xs) := fun H1 e Q q => h H1 e Q fun a H2 e2 h2 => q _ H2 e2 ⟨a, rfl, h2⟩
theorem g_T (h : EvU te σ H xs) : EvG te σ H (isT K xs) := fun H1 e Q q => h H1 e Q fun a H2 _ e2 h2 => q _ H2 e2 ⟨a, rfl, stof h2⟩
theorem g_Told {a : Addr} (h : Ev te σ H (.ref a)) (hs : ST K H a xs) : EvG te σ H (isT K xs) := fun H1 e Q q => h H1 e Q fun H2 e2 => q _ H2 e2 ⟨a, rfl, ext (e.trans e2) hs⟩
theorem g_D {kvs : List (Key × V)} (h : EvD te σ H kvs) : EvG te σ H (isD kvs) := fun H1 e Q q => h H1 e Q fun a H2 _ e2 h2 => q _ H2 e2 ⟨a, rfl, h2⟩
theorem g_Dold {a : Addr} {kvs : List (Key × V)} (h : Ev te σ H (.ref a)) (hs : H a = some (.dK kvs)) : EvG te σ H (isD kvs) := fun H1 e Q q => h H1 e Q fun H2 e2 => q _ H2 e2 ⟨a, rfl, e2 _ _ (e _ _ hs)⟩
theorem ag_nil : EvAG tNil σ H [] := fun H1 _ Q q => q [] H1 (Ex.refl H1) rfl
theorem ag_cons (h : EvG te σ H P) (m : Mon P) (hr : EvAG tr σ H Ps) : EvAG (tCons te tr) σ H (P :: Ps) := fun H1 e Q q =>
  h H1 e _ fun v H2 e2 hp => hr H2 (e.trans e2) _ fun vs H3 e3 hq => q _ H3 (e2.trans e3) ⟨v, vs, rfl, m v _ _ e3 hp, hq⟩
theorem ag_V (h : Ev te σ H v) (hr : EvAG tr σ H Ps) : EvAG (tCons te tr) σ H (isV v :: Ps) := ag_cons (g_V h) (mon_V v) hr
theorem ag_L (h : EvQ K te σ H xs) (hr : EvAG tr σ H Ps) : EvAG (tCons te tr) σ H (isL K xs :: Ps) := ag_cons (g_L h) (mon_L K xs) hr
theorem ag_D {kvs : List (Key × V)} (h : EvG te σ H (isD kvs)) (hr : EvAG tr σ H Ps) : EvAG (tCons te tr) σ H (isD kvs :: Ps) := ag_cons h (mon_D kvs) hr
theorem ag_T (h : EvG te σ H (isT K xs)) (hr : EvAG tr σ H Ps) : EvAG (tCons te tr) σ H (isT K xs :: Ps) := ag_cons h (mon_T K xs) hr

/-! promises: a value; a new list; a new dict; anything -/
def spV (n : Nat) (R : List V → Hp → V → Prop) : Sp := fun vs H Q _ => vs.length = n ∧ ∃ z H0, Ex H0 H ∧ R vs H0 z ∧ RetV z H Q
def spL (n : Nat) (R : List V → Hp → List V → Prop) : Sp := fun vs H Q _ => vs.length = n ∧ ∃ xs H0, Ex H0 H ∧ R vs H0 xs ∧ RetL xs H Q
def spD (n : Nat) (R : List V → Hp → List (Key × V) → Prop) : Sp := fun vs H Q _ => vs.length = n ∧ ∃ kvs H0, Ex H0 H ∧ R vs H0 kvs ∧ ∀ p H2, H p = none → Ex H H2 → H2 p = some (.dK kvs) → Q (.ref p) H2
def spG (n : Nat) (R : List V → Hp → (Hp → V → Hp → Prop) → Prop) : Sp := fun vs H Q _ => vs.length = n ∧ ∃ G H0, Ex H0 H ∧ R vs H0 G ∧ ∀ v H2, Ex H H2 → G H v H2 → Q v H2
theorem ev_callG {n : Nat} {R : List V → Hp → V → Prop} {E : XK} (h : EvAG tr σ H Ps) (hn : Ps.length = n) (hr : ∀ vs H1, Ex H H1 → AllP Ps vs H1 → R vs H1 z) : Ev (tCallO (spV n R) E tr) σ H z := fun H1 e Q q =>
  h H1 e _ fun vs H2 e2 hp => ⟨hp.length.trans hn, z, H2, Ex.refl H2, hr vs H2 (e.trans e2) hp, fun H3 e3 => q H3 (e2.trans e3)⟩
theorem el_callG {n : Nat} {R : List V → Hp → List V → Prop} {E : XK} (h : EvAG tr σ H Ps) (hn : Ps.length = n) (hr : ∀ vs H1, Ex H H1 → AllP Ps vs H1 → R vs H1 xs) : EvL (tCallO (spL n R) E tr) σ H xs := fun H1 e Q q =>
  h H1 e _ fun vs H2 e2 hp => ⟨hp.length.trans hn, xs, H2, Ex.refl H2, hr vs H2 (e.trans e2) hp, fun p H3 hp3 e3 h3 => q p H3 (fresh_back e2 hp3) (e2.trans e3) h3⟩
theorem ed_callG {n : Nat} {R : List V → Hp → List (Key × V) → Prop} {E : XK} {kvs : List (Key × V)} (h : EvAG tr σ H Ps) (hn : Ps.length = n) (hr : ∀ vs H1, Ex H H1 → AllP Ps vs H1 → R vs H1 kvs) : EvD (tCallO (spD n R) E tr) σ H kvs := fun H1 e Q q =>
  h H1 e _ fun vs H2 e2 hp => ⟨hp.length.trans hn, kvs, H2, Ex.refl H2, hr vs H2 (e.trans e2) hp, fun p H3 hp3 e3 h3 => q p H3 (fresh_back e2 hp3) (e2.trans e3) h3⟩
end
theorem Ev.is {te : TE} {σ : L2.St} {H : Hp} {v w : V} (h : Ev te σ H v) (e : v = w) : Ev te σ H w := e ▸ h
theorem EvL.is {te : TE} {σ : L2.St} {H : Hp} {v w : List V} (h : EvL te σ H v) (e : v = w) : EvL te σ H w := e ▸ h
theorem EvT.is {te : TT} {σ : L2.St} {H : Hp} {v w : Bool} (h : EvT te σ H v) (e : v = w) : EvT te σ H w := e ▸ h
end Ho

/-! Ho, part B: zip of two texts, of three lists -/
namespace Ho
open PySem PySem.Spec PyProof.Rows L2

theorem strit_at {h h' : Heap} {it : Addr} {T : String} {x : Str} {t : Tok} {i : Nat} (s : h.IsStrIter it T x t i) (k : ∀ o, h.get? it = some o → h'.get? it = some o) : h'.IsStrIter it T x t i :=
  let ⟨o, e, c, d⟩ := s; ⟨o, k o e, c, d⟩

/-! ### zip(text, text) -/
def ItzS (x y : Str) : It :=
  ⟨fun i _ => i < x.cps.size ∧ i < y.cps.size,
    fun i H v H' => ∃ T c d, v = .ref T ∧ H T = none ∧ H' = upd H T (.tup [.str ⟨#[c]⟩, .str ⟨#[d]⟩]) ∧ x.cps[i]? = some c ∧ y.cps[i]? = some d,
    fun i _ => x.cps.size ≤ i ∨ y.cps.size ≤ i⟩
theorem turn_zipSS {P : Program} {w : World} {K : PySem.W.Frag} {elts : List Expr} {kk : Nat} {tpos : Pos} {x y : Str} {t1 t2 : Tok} {z TI TO i1 i2 : Addr} (D : ZipSep2 z TI TO i1 i2 [i1] [i2]) :
    Turn P w K (.Tuple elts kk tpos) (ItzS x y) [z, TI, TO, i1, i2] z (fun i h => i ≤ x.cps.size ∧ i ≤ y.cps.size ∧ IsZip h z TI TO .none ∧ IsTupOf2 h TI (.ref i1) (.ref i2) ∧ (∃ a b, IsTupOf2 h TO a b) ∧ h.IsStrIter i1 (strIterType x) x t1 i ∧ h.IsStrIter i2 (strIterType y) y t2 i) where
  mem := by simp
  obj := fun i h st c hc => by
    obtain ⟨_, _, hz, hTI, ⟨a, b, hTO⟩, ⟨o1, e1, _, d1⟩, ⟨o2, e2, _, d2⟩⟩ := st
    have e' : c = z ∨ c = TI ∨ c = TO ∨ c = i1 ∨ c = i2 := by simpa using hc
    rcases e' with q | q | q | q | q
    · rw [q]; exact ⟨_, hz, fun v q => nomatch q⟩
    · rw [q]; exact ⟨_, hTI, fun v q => nomatch q⟩
    · rw [q]; exact ⟨_, hTO, fun v q => nomatch q⟩
    · rw [q]; exact ⟨o1, e1, fun v q => by rw [d1] at q; cases q⟩
    · rw [q]; exact ⟨o2, e2, fun v q => by rw [d2] at q; cases q⟩
  keep := fun i h h' st k => by
    obtain ⟨l1, l2, hz, hTI, ⟨a, b, hTO⟩, h1, h2⟩ := st
    exact ⟨l1, l2, k z (by simp) _ hz, k TI (by simp) _ hTI, ⟨a, b, k TO (by simp) _ hTO⟩, strit_at h1 fun o q => k i1 (by simp) o q, strit_at h2 fun o q => k i2 (by simp) o q⟩
  item := by
    intro X hP hw hK hc i pins s σ H E I hf st hg
    subst hP hw hK
    obtain ⟨_, _, hz, hTI, ⟨x0, y0, hTO⟩, h1, h2⟩ := st
    obtain ⟨g1, g2⟩ := hg
    have hh := I.ok.hd hc
    have hzl : z < s.heap.objs.size := Heap.lt_size hz
    refine wpAny_pyNext_zipD2_item D (Draws.text (A := X.A.in1) hh i1 x t1) (Draws.text (A := X.A.in1) hh i2 y t2) hz hTI hTO h1 h2 g1 g2 fun u1 u2 h' tk y1 y2 b1 b2 d1 d2 b5 b6 hk => ?_
    obtain ⟨c, tc, ec, rfl⟩ := y1
    obtain ⟨d, td, ed, rfl⟩ := y2
    refine ⟨_, rfl, wpAny_letOwnedTupleGo_zip (s := { s with heap := h', toks := tk }) b1 fun h'' z'' sb => ?_⟩
    have hT2 : h''.get? s.heap.objs.size = some { cls := .type "tuple", data := .seq #[.str ⟨#[c]⟩ tc, .str ⟨#[d]⟩ td] } := (sb.2 _ (Nat.ne_of_gt hzl)).trans b5
    have new : ObjOk X.prog X.w (upd H s.heap.objs.size (.tup [.str ⟨#[c]⟩, .str ⟨#[d]⟩])) h'' s.heap.objs.size (.tup [.str ⟨#[c]⟩, .str ⟨#[d]⟩]) :=
      ⟨by show 2 ≤ sizeLine; decide, [.str ⟨#[c]⟩ tc, .str ⟨#[d]⟩ td], .cons ⟨_, rfl⟩ (.cons ⟨_, rfl⟩ .nil), ⟨_, hT2, rfl, _, rfl⟩⟩
    have I1 : Inv X pins σ (upd H s.heap.objs.size (.tup [.str ⟨#[c]⟩, .str ⟨#[d]⟩])) { s with heap := h'', toks := tk } :=
      I.turnedNew (ch := [z, TI, TO, i1, i2]) (fun c o hb q => (sb.2 c (fun q' => hb (by simp [q']))).trans (hk c o (fun q' => hb (by simp [q'])) (fun q' => hb (by simp [q'])) (fun q' => hb (by simp [q'])) (fun q' => hb (by simp [q'])) q)) hf (Nat.le_refl _) new
    refine ⟨.ref s.heap.objs.size, _, I1, rfl, ⟨_, c, d, rfl, I.hok.fresh (Nat.le_refl _), rfl, ec, ed⟩, ⟨g1, g2, z'', ?_, ⟨.str ⟨#[c]⟩ tc, .str ⟨#[d]⟩ td, ?_⟩, ?_, ?_⟩, fun c hcm => ?_⟩
    · exact (sb.2 _ D.TIz).trans (hk _ _ D.TIz D.TITO D.TIi1 D.TIi2 hTI)
    · exact (sb.2 _ D.TOz).trans b2
    · exact strit_at d1 fun o q => (sb.2 _ (fun e => D.zi1 e.symm)).trans q
    · exact strit_at d2 fun o q => (sb.2 _ (fun e => D.zi2 e.symm)).trans q
    · have hlt : c < s.heap.objs.size := by
        have e' : c = z ∨ c = TI ∨ c = TO ∨ c = i1 ∨ c = i2 := by simpa using hcm
        rcases e' with q | q | q | q | q
        · rw [q]; exact hzl
        · rw [q]; exact Heap.lt_size hTI
        · rw [q]; exact Heap.lt_size hTO
        · rw [q]; obtain ⟨_, e1, _⟩ := h1; exact Heap.lt_size e1
        · rw [q]; obtain ⟨_, e2, _⟩ := h2; exact Heap.lt_size e2
      rw [upd_ne (Nat.ne_of_lt hlt)]
      exact (hf c hcm).1
  done := by
    intro X hP hw hK hc i pins s σ H E I hf st hg
    subst hP hw hK
    obtain ⟨l1, l2, hz, hTI, ⟨x0, y0, hTO⟩, h1, h2⟩ := st
    have hh := I.ok.hd hc
    have he : i = x.cps.size ∨ i = y.cps.size := by rcases hg with q | q <;> omega
    exact wpAny_pyNext_zipD2_end D (Draws.text (A := X.A.in1) hh i1 x t1) (Draws.text (A := X.A.in1) hh i2 y t2) hz hTI hTO h1 h2 l1 l2 he fun h' tk hk => ⟨rfl, I.turnedL (t' := tk) (ch := [z, TI, TO, i1, i2]) (fun c o hb q =>
      hk c o (fun q' => hb (by simp [q'])) (fun q' => hb (by simp [q'])) (fun q' => hb (by simp [q'])) (fun q' => hb (by simp [q'])) q) hf⟩
  self := fun A i s Q E st h => wpAny_pyIter_zip st.2.2.1 h
def iZipSS (ta : TA) : TI := fun σ H R => ta σ H fun vs H1 => ∃ x y, vs = [.str x, .str y] ∧ R (ItzS x y) H1
theorem pi_zipSS {X : Cx} {e e2 : Expr} {ta : TA} {p pos tpos : Pos} {elts : List Expr} {kk : Nat} (hg : Gl X "zip") (hm : X.mg "zip" = none) (ha : PA X [e, e2] ta)
    (hs : starEach [e, e2] X.env = (false, eval e X.env) :: starEach [e2] X.env := by rfl) (hpl : (backTo pos (starEach [e2] X.env)).any (·.1) = false := by rfl) :
    PI X (.Tuple elts kk tpos) (.Call (.Name "zip" p) [e, e2] [] pos) (iZipSS ta) := by
  refine ⟨fun pins s σ H R I h => ?_⟩
  refine Call_ (ld_blt I hg hm PyProof.Rows.boot_zip (PyProof.Rows.callWith_type1 (thn (ha.run pos pins s σ H _ I h) fun us s1 ⟨vs, H1, I1, r1, q1⟩ => ?_) hs hpl))
  obtain ⟨x, y, ex, q⟩ := q1
  subst ex
  cases r1 with
  | cons r rr =>
    cases rr with
    | cons r' rr =>
      cases rr
      obtain ⟨t1, rfl⟩ := r
      obtain ⟨t2, rfl⟩ := r'
      refine zip_begins2 (begins_text x t1) (begins_text y t2) trivial trivial fun h' hz hTI hTO g1 g2 hsz hk => wpAny_pyIter_zip hz ?_
      have I2 : Inv X pins σ H1 { s1 with heap := h' } := I1.kept (t' := s1.toks) hk
      refine ⟨s1.heap.objs.size + 4, [s1.heap.objs.size + 4, s1.heap.objs.size + 2, s1.heap.objs.size + 3, s1.heap.objs.size, s1.heap.objs.size + 1], _, _, H1, rfl, I2, turn_zipSS (t1 := t1) (t2 := t2) (zip_sep2 (fp1 := []) (fp2 := []) (by simp) (by simp)),
        ⟨Nat.zero_le _, Nat.zero_le _, hz, hTI, ⟨_, _, hTO⟩, ⟨_, g1, rfl, rfl⟩, ⟨_, g2, rfl, rfl⟩⟩, fun c hcm => ?_, q⟩
      have e' : c = s1.heap.objs.size + 4 ∨ c = s1.heap.objs.size + 2 ∨ c = s1.heap.objs.size + 3 ∨ c = s1.heap.objs.size ∨ c = s1.heap.objs.size + 1 := by simpa using hcm
      have hle : s1.heap.objs.size ≤ c := by
        rcases e' with z | z | z | z | z
        · rw [z]; exact Nat.le_add_right _ _
        · rw [z]; exact Nat.le_add_right _ _
        · rw [z]; exact Nat.le_add_right _ _
        · rw [z]; exact Nat.le_refl _
        · rw [z]; exact Nat.le_add_right _ _
      exact I1.fpOk hle (I1.hok.fresh hle)

/-! ### zip(list, list, list) -/
def Itz3 (K : PySem.W.Frag) (a b c : Addr) : It :=
  ⟨fun i H => ∃ (xs ys zs : List V) (x y z : V), SqL K H a xs ∧ SqL K H b ys ∧ SqL K H c zs ∧ xs[i]? = some x ∧ ys[i]? = some y ∧ zs[i]? = some z,
    fun i H v H' => ∃ T x y z, v = .ref T ∧ H T = none ∧ H' = upd H T (.tup [x, y, z]) ∧ (∀ xs, SqL K H a xs → xs[i]? = some x) ∧ (∀ ys, SqL K H b ys → ys[i]? = some y) ∧ ∀ zs, SqL K H c zs → zs[i]? = some z,
    fun i H => ∃ xs ys zs : List V, SqL K H a xs ∧ SqL K H b ys ∧ SqL K H c zs ∧ i ≤ xs.length ∧ i ≤ ys.length ∧ i ≤ zs.length ∧ (xs.length = i ∨ ys.length = i ∨ zs.length = i)⟩
theorem turn_zip3 {P : Program} {w : World} {K : PySem.W.Frag} {elts : List Expr} {kk : Nat} {tpos : Pos} {a b c z TI TO i1 i2 i3 : Addr} (D : ZipSep3 z TI TO i1 i2 i3 [i1, a] [i2, b] [i3, c]) (n1 : a ≠ i1) (n2 : b ≠ i2) (n3 : c ≠ i3) :
    Turn P w K (.Tuple elts kk tpos) (Itz3 K a b c) [z, TI, TO, i1, i2, i3] z (fun i h => IsZip h z TI TO .none ∧ IsTupOf3 h TI (.ref i1) (.ref i2) (.ref i3) ∧ (∃ x y z, IsTupOf3 h TO x y z) ∧ h.IsListIter i1 a i ∧ h.IsListIter i2 b i ∧ h.IsListIter i3 c i) where
  mem := by simp
  obj := fun i h st c hc => by
    obtain ⟨hz, hTI, ⟨_, _, _, hTO⟩, ⟨o1, e1, _, d1⟩, ⟨o2, e2, _, d2⟩, ⟨o3, e3, _, d3⟩⟩ := st
    have e' : c = z ∨ c = TI ∨ c = TO ∨ c = i1 ∨ c = i2 ∨ c = i3 := by simpa using hc
    rcases e' with q | q | q | q | q | q
    · rw [q]; exact ⟨_, hz, fun v q => nomatch q⟩
    · rw [q]; exact ⟨_, hTI, fun v q => nomatch q⟩
    · rw [q]; exact ⟨_, hTO, fun v q => nomatch q⟩
    · rw [q]; exact ⟨o1, e1, fun v q => by rw [d1] at q; cases q⟩
    · rw [q]; exact ⟨o2, e2, fun v q => by rw [d2] at q; cases q⟩
    · rw [q]; exact ⟨o3, e3, fun v q => by rw [d3] at q; cases q⟩
  keep := fun i h h' st k => by
    obtain ⟨hz, hTI, ⟨x, y, v, hTO⟩, h1, h2, h3⟩ := st
    exact ⟨k z (by simp) _ hz, k TI (by simp) _ hTI, ⟨x, y, v, k TO (by simp) _ hTO⟩, h1.at fun o q => k i1 (by simp) o q, h2.at fun o q => k i2 (by simp) o q, h3.at fun o q => k i3 (by simp) o q⟩
  item := by
    intro X hP hw hK hc i pins s σ H E I hf st hg
    subst hP hw hK
    obtain ⟨hz, hTI, ⟨x0, y0, v0, hTO⟩, h1, h2, h3⟩ := st
    obtain ⟨xs, ys, zs, x, y, v, hqx, hqy, hqz, hx, hy, hv⟩ := hg
    obtain ⟨its, rv, p, _⟩ := I.list hqx
    obtain ⟨its2, rv2, p2, _⟩ := I.list hqy
    obtain ⟨its3, rv3, p3, _⟩ := I.list hqz
    obtain ⟨u, hu, ru⟩ := rv.get hx
    obtain ⟨u2, hu2, ru2⟩ := rv2.get hy
    obtain ⟨u3, hu3, ru3⟩ := rv3.get hv
    have hh := I.ok.hd hc
    have hzl : z < s.heap.objs.size := Heap.lt_size hz
    have l1 : i < its.toArray.size := by
      obtain ⟨q, _⟩ := List.getElem?_eq_some_iff.mp hu
      simpa using q
    have l2 : i < its2.toArray.size := by
      obtain ⟨q, _⟩ := List.getElem?_eq_some_iff.mp hu2
      simpa using q
    have l3 : i < its3.toArray.size := by
      obtain ⟨q, _⟩ := List.getElem?_eq_some_iff.mp hu3
      simpa using q
    refine wpAny_pyNext_zipD3_item D (Draws.list (A := X.A.in1) hh i1 a n1 its.toArray) (Draws.list (A := X.A.in1) hh i2 b n2 its2.toArray) (Draws.list (A := X.A.in1) hh i3 c n3 its3.toArray) hz hTI hTO ⟨h1, p.isList⟩ ⟨h2, p2.isList⟩ ⟨h3, p3.isList⟩ l1 l2 l3
      fun w1 w2 w3 h' tk y1 y2 y3 b1 b2 d1 d2 d3 b5 b6 hk => ?_
    have ew1 : w1 = u := by
      have y1 : its.toArray[i]? = some w1 := y1
      simp only [List.getElem?_toArray] at y1
      exact Option.some.inj (y1.symm.trans hu)
    have ew2 : w2 = u2 := by
      have y2 : its2.toArray[i]? = some w2 := y2
      simp only [List.getElem?_toArray] at y2
      exact Option.some.inj (y2.symm.trans hu2)
    have ew3 : w3 = u3 := by
      have y3 : its3.toArray[i]? = some w3 := y3
      simp only [List.getElem?_toArray] at y3
      exact Option.some.inj (y3.symm.trans hu3)
    subst ew1 ew2 ew3
    refine ⟨_, rfl, wpAny_letOwnedTupleGo_zip (s := { s with heap := h', toks := tk }) b1 fun h'' z'' sb => ?_⟩
    have hT2 : h''.get? s.heap.objs.size = some { cls := .type "tuple", data := .seq #[w1, w2, w3] } := (sb.2 _ (Nat.ne_of_gt hzl)).trans b5
    have new : ObjOk X.prog X.w (upd H s.heap.objs.size (.tup [x, y, v])) h'' s.heap.objs.size (.tup [x, y, v]) :=
      ⟨by show 3 ≤ sizeLine; decide, [w1, w2, w3], .cons ru (.cons ru2 (.cons ru3 .nil)), ⟨_, hT2, rfl, _, rfl⟩⟩
    have I1 : Inv X pins σ (upd H s.heap.objs.size (.tup [x, y, v])) { s with heap := h'', toks := tk } :=
      I.turnedNew (ch := [z, TI, TO, i1, i2, i3]) (fun c o hb q => (sb.2 c (fun q' => hb (by simp [q']))).trans (hk c o (fun q' => hb (by simp [q'])) (fun q' => hb (by simp [q'])) (fun q' => hb (by simp [q'])) (fun q' => hb (by simp [q'])) (fun q' => hb (by simp [q'])) q)) hf (Nat.le_refl _) new
    refine ⟨.ref s.heap.objs.size, _, I1, rfl, ⟨_, x, y, v, rfl, I.hok.fresh (Nat.le_refl _), rfl, fun l hl => by rw [I.list_inj hl hqx]; exact hx, fun l hl => by rw [I.list_inj hl hqy]; exact hy, fun l hl => by rw [I.list_inj hl hqz]; exact hv⟩, ⟨z'', ?_, ⟨w1, w2, w3, ?_⟩, ?_, ?_, ?_⟩, fun c hcm => ?_⟩
    · exact (sb.2 _ D.TIz).trans (hk _ _ D.TIz D.TITO D.TIi1 D.TIi2 D.TIi3 hTI)
    · exact (sb.2 _ D.TOz).trans b2
    · exact d1.1.at fun o q => (sb.2 _ (fun e => D.zf1 (by simp [e]))).trans q
    · exact d2.1.at fun o q => (sb.2 _ (fun e => D.zf2 (by simp [e]))).trans q
    · exact d3.1.at fun o q => (sb.2 _ (fun e => D.zf3 (by simp [e]))).trans q
    · have hlt : c < s.heap.objs.size := by
        have e' : c = z ∨ c = TI ∨ c = TO ∨ c = i1 ∨ c = i2 ∨ c = i3 := by simpa using hcm
        rcases e' with q | q | q | q | q | q
        · rw [q]; exact hzl
        · rw [q]; exact Heap.lt_size hTI
        · rw [q]; exact Heap.lt_size hTO
        · rw [q]; obtain ⟨_, e1, _⟩ := h1; exact Heap.lt_size e1
        · rw [q]; obtain ⟨_, e2, _⟩ := h2; exact Heap.lt_size e2
        · rw [q]; obtain ⟨_, e3, _⟩ := h3; exact Heap.lt_size e3
      rw [upd_ne (Nat.ne_of_lt hlt)]
      exact (hf c hcm).1
  done := by
    intro X hP hw hK hc i pins s σ H E I hf st hg
    subst hP hw hK
    obtain ⟨hz, hTI, ⟨x0, y0, v0, hTO⟩, h1, h2, h3⟩ := st
    obtain ⟨xs, ys, zs, hqx, hqy, hqz, g1, g2, g3, hend⟩ := hg
    obtain ⟨its, rv, p, _⟩ := I.list hqx
    obtain ⟨its2, rv2, p2, _⟩ := I.list hqy
    obtain ⟨its3, rv3, p3, _⟩ := I.list hqz
    have hh := I.ok.hd hc
    have e1 : its.toArray.size = xs.length := by simpa using rv.length.symm
    have e2 : its2.toArray.size = ys.length := by simpa using rv2.length.symm
    have e3 : its3.toArray.size = zs.length := by simpa using rv3.length.symm
    exact wpAny_pyNext_zipD3_end D (Draws.list (A := X.A.in1) hh i1 a n1 its.toArray) (Draws.list (A := X.A.in1) hh i2 b n2 its2.toArray) (Draws.list (A := X.A.in1) hh i3 c n3 its3.toArray) hz hTI hTO ⟨h1, p.isList⟩ ⟨h2, p2.isList⟩ ⟨h3, p3.isList⟩ (by omega) (by omega) (by omega) (by omega)
      fun h' tk hk => ⟨rfl, I.turnedL (t' := tk) (ch := [z, TI, TO, i1, i2, i3]) (fun c o hb q =>
      hk c o (fun q' => hb (by simp [q'])) (fun q' => hb (by simp [q'])) (fun q' => hb (by simp [q'])) (fun q' => hb (by simp [q'])) (fun q' => hb (by simp [q'])) q) hf⟩
  self := fun A i s Q E st h => wpAny_pyIter_zip st.1 h
def iZip3 (K : PySem.W.Frag) (ta : TA) : TI := fun σ H R => ta σ H fun vs H1 => ∃ a b c xs ys zs, vs = [.ref a, .ref b, .ref c] ∧ SqL K H1 a xs ∧ SqL K H1 b ys ∧ SqL K H1 c zs ∧ R (Itz3 K a b c) H1
theorem pi_zip3 {X : Cx} {e e2 e3 : Expr} {ta : TA} {p pos tpos : Pos} {elts : List Expr} {kk : Nat} (hg : Gl X "zip") (hm : X.mg "zip" = none) (ha : PA X [e, e2, e3] ta)
    (hs : starEach [e, e2, e3] X.env = (false, eval e X.env) :: starEach [e2, e3] X.env := by rfl) (hpl : (backTo pos (starEach [e2, e3] X.env)).any (·.1) = false := by rfl) :
    PI X (.Tuple elts kk tpos) (.Call (.Name "zip" p) [e, e2, e3] [] pos) (iZip3 X.K ta) := by
  refine ⟨fun pins s σ H R I h => ?_⟩
  refine Call_ (ld_blt I hg hm PyProof.Rows.boot_zip (PyProof.Rows.callWith_type1 (thn (ha.run pos pins s σ H _ I h) fun us s1 ⟨vs, H1, I1, r1, q1⟩ => ?_) hs hpl))
  obtain ⟨a, b, c, xs, ys, zs, ex, hqx, hqy, hqz, q⟩ := q1
  subst ex
  cases r1 with
  | cons r rr =>
    cases rr with
    | cons r' rr =>
      cases rr with
      | cons r'' rr =>
        cases rr
        cases r
        cases r'
        cases r''
        obtain ⟨its, rv, p1, _⟩ := I1.list hqx
        obtain ⟨its2, rv2, p2, _⟩ := I1.list hqy
        obtain ⟨its3, rv3, p3, _⟩ := I1.list hqz
        have la : a < s1.heap.objs.size := p1.lt
        have lb : b < s1.heap.objs.size := p2.lt
        have lc : c < s1.heap.objs.size := p3.lt
        refine zip_begins3 (begins_list a its.toArray) (begins_list b its2.toArray) (begins_list c its3.toArray) p1.isList p2.isList p3.isList fun h' hz hTI hTO g1 g2 g3 hsz hk => wpAny_pyIter_zip hz ?_
        have I2 : Inv X pins σ H1 { s1 with heap := h' } := I1.kept (t' := s1.toks) hk
        refine ⟨s1.heap.objs.size + 5, [s1.heap.objs.size + 5, s1.heap.objs.size + 3, s1.heap.objs.size + 4, s1.heap.objs.size, s1.heap.objs.size + 1, s1.heap.objs.size + 2], _, _, H1, rfl, I2,
          turn_zip3 (zip_sep3 (fp1 := [a]) (fp2 := [b]) (fp3 := [c]) (by simpa using la) (by simpa using lb) (by simpa using lc)) (Nat.ne_of_lt la) (Nat.ne_of_lt (Nat.lt_succ_of_lt lb)) (Nat.ne_of_lt (Nat.lt_succ_of_lt (Nat.lt_succ_of_lt lc))),
          ⟨hz, hTI, ⟨_, _, _, hTO⟩, ⟨_, g1, rfl, rfl⟩, ⟨_, g2, rfl, rfl⟩, ⟨_, g3, rfl, rfl⟩⟩, fun d hcm => ?_, q⟩
        have hle : s1.heap.objs.size ≤ d := by
          have e' : d = s1.heap.objs.size + 5 ∨ d = s1.heap.objs.size + 3 ∨ d = s1.heap.objs.size + 4 ∨ d = s1.heap.objs.size ∨ d = s1.heap.objs.size + 1 ∨ d = s1.heap.objs.size + 2 := by simpa using hcm
          rcases e' with z | z | z | z | z | z
          · rw [z]; exact Nat.le_add_right _ _
          · rw [z]; exact Nat.le_add_right _ _
          · rw [z]; exact Nat.le_add_right _ _
          · rw [z]; exact Nat.le_refl _
          · rw [z]; exact Nat.le_add_right _ _
          · rw [z]; exact Nat.le_add_right _ _
        exact I1.fpOk hle (I1.hok.fresh hle)
end Ho

/-! Ho, part C: dicts of texts to texts; == and != of them -/
namespace Ho
open PySem PySem.Spec PyProof.Rows L2 Evl

abbrev Row := List Nat
/-- a dict of texts to texts -/
abbrev Dic := List (Row × Row)
def DS (r : Dic) : List (Key × V) := r.map fun p => (Sum.inr (S p.1), VS p.2)
def look (r : Dic) (k : Row) : Option Row := (r.find? fun p => decide (p.1 = k)).map (·.2)
def put (r : Dic) (k v : Row) : Dic := if (r.any fun p => decide (p.1 = k)) = true then r.map (fun p => if p.1 = k then (p.1, v) else p) else r ++ [(k, v)]
def dEq (r q : Dic) : Bool := r.length == q.length && r.all fun p => decide (look q p.1 = some p.2)
theorem keyS_eq {a b : Row} : (Sum.inr (S a) : Key) = Sum.inr (S b) ↔ a = b := ⟨fun h => S_inj (Sum.inr.inj h), fun h => by rw [h]⟩
theorem look_nil (k : Row) : look [] k = none := rfl
theorem look_cons (p : Row × Row) (r : Dic) (k : Row) : look (p :: r) k = if p.1 = k then some p.2 else look r k := by
  unfold look
  by_cases h : p.1 = k
  · simp [h]
  · simp [h]
theorem DS_val (k : Row) : ∀ r : Dic, valV (DS r) (Sum.inr (S k) : Key) = (look r k).map VS
  | [] => rfl
  | p :: r => by
    rw [look_cons]
    by_cases h : p.1 = k
    · rw [if_pos h]
      exact valV_pos (keyS_eq.mpr h)
    · rw [if_neg h, ← DS_val k r]
      exact valV_neg fun e => h (keyS_eq.mp e)
theorem DS_len (r : Dic) : (DS r).length = r.length := by simp [DS]
theorem DS_any (k : Row) (r : Dic) : ((DS r).any fun kv => decide (kv.1 = (Sum.inr (S k) : Key))) = r.any fun p => decide (p.1 = k) := by
  unfold DS
  rw [List.any_map]
  congr 1
  funext p
  show decide ((Sum.inr (S p.1) : Key) = Sum.inr (S k)) = decide (p.1 = k)
  by_cases h : p.1 = k
  · rw [h]; simp
  · rw [decide_eq_false h, decide_eq_false fun e => h (keyS_eq.mp e)]
theorem DS_put (r : Dic) (k v : Row) : putK (DS r) (Sum.inr (S k) : Key) (VS v) = DS (put r k v) := by
  unfold putK put
  rw [DS_any]
  by_cases h : (r.any fun p => decide (p.1 = k)) = true
  · rw [if_pos h, if_pos h]
    unfold DS
    rw [List.map_map, List.map_map]
    congr 1
    funext p
    show (if (Sum.inr (S p.1) : Key) = Sum.inr (S k) then _ else _) = ((Sum.inr (S (if p.1 = k then (p.1, v) else p).1) : Key), VS (if p.1 = k then (p.1, v) else p).2)
    by_cases e : p.1 = k
    · rw [if_pos (keyS_eq.mpr e), if_pos e]
    · rw [if_neg fun q => e (keyS_eq.mp q), if_neg e]
  · rw [if_neg h, if_neg h]
    simp [DS]
theorem DS_nil : DS [] = [] := rfl
theorem look_mem {r : Dic} {k v : Row} (h : look r k = some v) : (k, v) ∈ r := by
  induction r with
  | nil => cases h
  | cons p r ih =>
    rw [look_cons] at h
    by_cases e : p.1 = k
    · rw [if_pos e] at h
      cases h
      subst e
      exact List.mem_cons_self
    · rw [if_neg e] at h
      exact List.mem_cons_of_mem _ (ih h)
theorem look_nodup {r : Dic} (nd : (r.map (·.1)).Nodup) : ∀ p ∈ r, look r p.1 = some p.2 := by
  induction r with
  | nil => intro p h; cases h
  | cons q r ih =>
    intro p h
    rw [List.map_cons, List.nodup_cons] at nd
    rw [look_cons]
    rcases List.mem_cons.mp h with e | h'
    · rw [e, if_pos rfl]
    · rw [if_neg fun e => nd.1 (List.mem_map.mpr ⟨p, h', e.symm⟩)]
      exact ih nd.2 p h'
theorem dEq_same {r : Dic} (nd : (r.map (·.1)).Nodup) : dEq r r = true := by
  unfold dEq
  simp only [beq_self_eq_true, Bool.true_and, List.all_eq_true, decide_eq_true_eq]
  exact look_nodup nd
theorem look_none {r : Dic} {k : Row} : look r k = none ↔ ∀ p ∈ r, p.1 ≠ k := by
  unfold look
  simp
theorem look_isSome {r : Dic} {k : Row} : (look r k).isSome = r.any fun p => decide (p.1 = k) := by
  unfold look
  rw [Option.isSome_map, Bool.eq_iff_iff, List.find?_isSome, List.any_eq_true]
theorem put_keys (r : Dic) (k v : Row) : (put r k v).map (·.1) = if k ∈ r.map (·.1) then r.map (·.1) else r.map (·.1) ++ [k] := by
  unfold put
  by_cases h : (r.any fun p => decide (p.1 = k)) = true
  · rw [if_pos h, if_pos]
    · rw [List.map_map]
      apply List.map_congr_left
      intro p hp
      show (if p.1 = k then (p.1, v) else p).1 = p.1
      by_cases e : p.1 = k
      · rw [if_pos e]
      · rw [if_neg e]
    · obtain ⟨p, hp, e⟩ := List.any_eq_true.mp h
      exact List.mem_map.mpr ⟨p, hp, of_decide_eq_true e⟩
  · rw [if_neg h, if_neg]
    · simp
    · intro hm
      obtain ⟨p, hp, e⟩ := List.mem_map.mp hm
      exact h (List.any_eq_true.mpr ⟨p, hp, decide_eq_true e⟩)
theorem put_nodup {r : Dic} (nd : (r.map (·.1)).Nodup) (k v : Row) : ((put r k v).map (·.1)).Nodup := by
  rw [put_keys]
  by_cases h : k ∈ r.map (·.1)
  · rw [if_pos h]; exact nd
  · rw [if_neg h]
    rw [List.nodup_append]
    refine ⟨nd, by simp, ?_⟩
    intro a ha b hb
    have : b = k := by simpa using hb
    subst this
    exact fun e => h (e ▸ ha)
theorem put_mem {r : Dic} {k v : Row} {p : Row × Row} (h : p ∈ put r k v) : p ∈ r ∨ p = (k, v) := by
  unfold put at h
  split at h
  · obtain ⟨q, hq, e⟩ := List.mem_map.mp h
    by_cases z : q.1 = k
    · rw [if_pos z] at e
      right; rw [← e, z]
    · rw [if_neg z] at e
      left; rw [← e]; exact hq
  · rcases List.mem_append.mp h with h | h
    · exact .inl h
    · right; simpa using h
theorem put_ne_nil (r : Dic) (k v : Row) : put r k v ≠ [] := by
  unfold put
  split
  · rename_i h
    obtain ⟨p, hp, _⟩ := List.any_eq_true.mp h
    intro e
    have : r = [] := by simpa using e
    rw [this] at hp; cases hp
  · simp
theorem put_len (r : Dic) (k v : Row) : (put r k v).length ≤ r.length + 1 := by
  unfold put
  split <;> simp

/-! ### == of two such dicts -/
theorem hits_S {A : Around} {s : Shared} {q : Dic} {vb : List (Key × Value)} (rb : KV (DS q) vb) : ∀ (r : Dic) (va : List (Key × Value)), KV (DS r) va →
    PySem.W.KeqHits A s vb va (r.all fun p => decide (look q p.1 = some p.2))
  | [], va, ra => by
    cases ra
    exact .nil
  | p :: r, va, ra => by
    unfold KV DS at ra
    rw [List.map_cons] at ra
    cases ra with
    | @cons _ z _ zs h t =>
      obtain ⟨h1, h2⟩ := h
      obtain ⟨k, v⟩ := z
      have h1' : (Sum.inr (S p.1) : Key) = k := h1
      subst h1'
      have h2' : RelV (VS p.2) v := h2
      obtain ⟨tv, rfl⟩ := h2'
      have rr := rb.val (Sum.inr (S p.1))
      rw [DS_val] at rr
      have ih := hits_S rb r zs t (A := A) (s := s)
      rw [List.all_cons]
      cases e : look q p.1 with
      | none =>
        rw [e] at rr
        rw [decide_eq_false (show ¬ (none : Option Row) = some p.2 from fun z => nomatch z), Bool.false_and]
        exact .miss rr.none_of
      | some y =>
        rw [e] at rr
        obtain ⟨u, hu, ru⟩ := rr.some_of
        obtain ⟨tu, rfl⟩ := ru
        have e2 : decide (some y = some p.2) = (S p.2 == S y) := by
          by_cases z : y = p.2
          · subst z; simp
          · rw [decide_eq_false fun w => z (Option.some.inj w)]
            exact (beq_eq_false_iff_ne.mpr fun w => z (S_inj w).symm).symm
        rw [e2]
        exact .hit hu (SeqAt.EqAt.str_str (S p.2) tv (S y) tu) ih
section
variable {X : Cx}
def rEqDS (neg : Bool) : R2 := fun x y H Q => ∃ a b r q, x = .ref a ∧ y = .ref b ∧ H a = some (.dK (DS r)) ∧ H b = some (.dK (DS q)) ∧ Q (.bl (if neg then !dEq r q else dEq r q)) H
theorem op_eq_dict (hu : X.A.units < cLine) : OpR X (compareOp .Eq) (rEqDS false) := by
  intro pins s σ H x y v u Q I rx ry h
  obtain ⟨a, b, r, q, rfl, rfl, ea, eb, k⟩ := h
  obtain rfl : v = Value.ref a := rx
  obtain rfl : u = Value.ref b := ry
  obtain ⟨_, ya, va, ra, da⟩ := (show ObjOk X.prog X.w H s.heap a (.dK (DS r)) from I.hok a _ ea)
  obtain ⟨_, yb, vb, rb, db⟩ := (show ObjOk X.prog X.w H s.heap b (.dK (DS q)) from I.hok b _ eb)
  refine PySem.W.keq_eq (knd := mixKind X.prog X.w) ya yb da db hu (fun _ => hits_S rb r va ra) (fin_bl I k ?_)
  have h1 := ra.length
  have h2 := rb.length
  rw [DS_len] at h1 h2
  simp only [Bool.false_eq_true, if_false]
  rw [dEq, ← h1, ← h2]
theorem op_ne_dict (hu : X.A.units < cLine) : OpR X (compareOp .NotEq) (rEqDS true) := by
  intro pins s σ H x y v u Q I rx ry h
  obtain ⟨a, b, r, q, rfl, rfl, ea, eb, k⟩ := h
  obtain rfl : v = Value.ref a := rx
  obtain rfl : u = Value.ref b := ry
  obtain ⟨_, ya, va, ra, da⟩ := (show ObjOk X.prog X.w H s.heap a (.dK (DS r)) from I.hok a _ ea)
  obtain ⟨_, yb, vb, rb, db⟩ := (show ObjOk X.prog X.w H s.heap b (.dK (DS q)) from I.hok b _ eb)
  refine PySem.W.keq_ne (knd := mixKind X.prog X.w) ya yb da db hu (fun _ => hits_S rb r va ra) (fin_bl I k ?_)
  have h1 := ra.length
  have h2 := rb.length
  rw [DS_len] at h1 h2
  simp only [if_true]
  rw [dEq, ← h1, ← h2]
end
end Ho

/-! Ho, part D: expressions: what each evaluates to -/
namespace Ho
open PySem PySem.Spec PyProof.Rows L2 Evl

/-! ### texts by their codes: joined, counted, cut -/
theorem joinL_nil : ∀ ys : List Row, TL.joinL [] ys = ys.flatten
  | [] => rfl
  | [p] => by simp [TL.joinL]
  | p :: q :: r => by
    show p ++ ([] ++ TL.joinL [] (q :: r)) = _
    rw [joinL_nil (q :: r)]
    simp
theorem map_S_tl : ∀ l : List Row, (l.map S).map TL.tl = l
  | [] => rfl
  | x :: l => by
    rw [List.map_cons, List.map_cons, map_S_tl l]
    rfl
theorem join_nil (ys : List Row) : Txt.join (S []) (ys.map S) = S ys.flatten := by
  rw [TL.join_eq]
  refine TL.ext_tl ?_
  rw [TL.tl_join, map_S_tl]
  show TL.joinL (S []).cps.toList ys = (S ys.flatten).cps.toList
  rw [S_cps, S_cps, joinL_nil]
theorem at_one {l : Row} {c i : Nat} : StrLaws.At (S l) (S [c]) (S l).length i ↔ l[i]? = some c := by
  have hne : TL.tl (S [c]) ≠ [] := by show (S [c]).cps.toList ≠ []; rw [S_cps]; simp
  rw [TL.at_iff hne]
  show ((((S l).cps.toList.drop i).take (S [c]).cps.toList.length) == (S [c]).cps.toList) = true ↔ _
  rw [S_cps, S_cps]
  simp only [beq_iff_eq, List.length_singleton]
  rw [← List.head?_drop]
  cases l.drop i with
  | nil => simp
  | cons a r => simp
theorem chain_count {l : Row} {c : Nat} : ∀ (cuts : List Nat) (a f : Nat), StrLaws.ChainG (S l) (S [c]) (S l).length a cuts f → (∀ k, f ≤ k → ¬ StrLaws.At (S l) (S [c]) (S l).length k) → cuts.length = (l.drop a).count c
  | [], a, f, h, hn => by
    have e : f = a := h
    subst e
    rw [eq_comm, List.length_nil, List.count_eq_zero]
    intro hm
    obtain ⟨i, hi⟩ := List.getElem?_of_mem hm
    rw [List.getElem?_drop] at hi
    exact hn (f + i) (Nat.le_add_right _ _) (at_one.mpr hi)
  | d :: r, a, f, h, hn => by
    obtain ⟨hac, hA, hno, hr⟩ := h
    have ih := chain_count r (d + 1) f (by rw [S_len] at hr; exact hr) hn
    have hd : l[d]? = some c := at_one.mp hA
    obtain ⟨hlt, hdc⟩ := List.getElem?_eq_some_iff.mp hd
    have e1 : l.drop a = (l.drop a).take (d - a) ++ (c :: l.drop (d + 1)) := by
      rw [← hdc, ← List.drop_eq_getElem_cons hlt]
      have : l.drop d = (l.drop a).drop (d - a) := by rw [List.drop_drop]; congr 1; omega
      rw [this, List.take_append_drop]
    rw [e1, List.count_append, List.count_cons, List.length_cons, ih]
    have e2 : ((l.drop a).take (d - a)).count c = 0 := by
      rw [List.count_eq_zero]
      intro hm
      obtain ⟨i, hi⟩ := List.getElem?_of_mem hm
      have hi2 : i < d - a := by
        have := (List.getElem?_eq_some_iff.mp hi).1
        rw [List.length_take] at this
        omega
      rw [List.getElem?_take_of_lt hi2, List.getElem?_drop] at hi
      exact hno (a + i) (Nat.le_add_right _ _) (by omega) (at_one.mpr hi)
    rw [e2]
    simp
theorem count_one (l : Row) (c : Nat) : Txt.count (S l) (S [c]) = (l.count c : Nat) := by
  obtain ⟨f, h1, h2⟩ := StrLaws.occ_tight (S l) (S [c]) (by rw [S_len]; exact Nat.le_refl _)
  have := chain_count _ 0 f h1 h2
  rw [List.drop_zero] at this
  show ((_ : Nat) : Int) = _
  rw [this]
/-- a cut of any list -/
def cutG {α : Type} (l : List α) (lo hi : Option Int) : List α := List.take (HT.sIx l.length l.length hi - HT.sIx l.length 0 lo) (List.drop (HT.sIx l.length 0 lo) l)
theorem cutV_map {α : Type} (f : α → V) (l : List α) (lo hi : Option Int) : cutV (l.map f) lo hi = (cutG l lo hi).map f := by
  unfold cutV cutG
  rw [List.length_map, List.map_take, List.map_drop]
theorem cutS_S (l : Row) (lo hi : Option Int) : cutS (S l) lo hi = S (cutG l lo hi) := by
  unfold cutS cutG
  rw [S_len, S_cps]
  rfl
theorem cutG_to {α : Type} (l : List α) {n : Int} (h : 0 ≤ n) : cutG l none (some n) = l.take n.toNat := by
  obtain ⟨k, rfl⟩ := Int.eq_ofNat_of_zero_le h
  unfold cutG
  rw [HT.sIx_nat, HT.sIx_none]
  simp only [Nat.sub_zero, List.drop_zero, Int.toNat_natCast]
  rw [List.take_eq_take_iff]
  omega
theorem cutG_from {α : Type} (l : List α) {n : Int} (h : 0 ≤ n) : cutG l (some n) none = l.drop n.toNat := by
  obtain ⟨k, rfl⟩ := Int.eq_ofNat_of_zero_le h
  unfold cutG
  rw [HT.sIx_nat, HT.sIx_none]
  simp only [Int.toNat_natCast]
  rw [List.take_of_length_le (by rw [List.length_drop]; omega)]
  by_cases hk : k ≤ l.length
  · rw [Nat.min_eq_left hk]
  · rw [Nat.min_eq_right (by omega), List.drop_eq_nil_of_le (Nat.le_refl _), List.drop_eq_nil_of_le (by omega)]
theorem cutG_both {α : Type} (l : List α) {m n : Int} (h : 0 ≤ m) (h2 : 0 ≤ n) : cutG l (some m) (some n) = (l.take n.toNat).drop m.toNat := by
  obtain ⟨j, rfl⟩ := Int.eq_ofNat_of_zero_le h
  obtain ⟨k, rfl⟩ := Int.eq_ofNat_of_zero_le h2
  unfold cutG
  rw [HT.sIx_nat, HT.sIx_nat]
  simp only [Int.toNat_natCast]
  rw [List.drop_take]
  by_cases hj : j ≤ l.length
  · rw [Nat.min_eq_left hj, List.take_eq_take_iff, List.length_drop]
    omega
  · rw [Nat.min_eq_right (show l.length ≤ j by omega), List.drop_eq_nil_of_le (Nat.le_refl _), List.drop_eq_nil_of_le (as := l) (i := j) (by omega)]
    simp
theorem cutG_butlast {α : Type} (l : List α) : cutG l none (some (-1)) = l.dropLast := by
  unfold cutG
  rw [HT.sIx_none]
  have e : HT.sIx l.length l.length (some (-1)) = l.length - 1 := by
    show (if (-1 : Int) < 0 then ((-1 : Int) + (l.length : Int)).toNat else min (-1 : Int).toNat l.length) = _
    rw [if_pos (by decide)]
    omega
  rw [e, Nat.sub_zero, List.drop_zero, List.dropLast_eq_take]
theorem cutG_all {α : Type} (l : List α) : cutG l none none = l := by
  unfold cutG
  rw [HT.sIx_none, HT.sIx_none]
  simp

/-! ### readings with names -/
section
variable {X : Cx}
def rAddS : R2 := fun x y H Q => ∃ i j, x = .str i ∧ y = .str j ∧ i.length + j.length ≤ sizeLine ∧ Q (.str (i ++ j)) H
theorem op_addS : OpR X (binaryOp .Add) rAddS := op_add_str
def rInC (neg : Bool) : R2 := fun x y H Q => ∃ (c : Nat) (z : Str), x = .str ⟨#[c]⟩ ∧ y = .str z ∧ Q (.bl (if neg then !decide (c ∈ z.cps.toList) else decide (c ∈ z.cps.toList))) H
theorem op_inC : OpR X (compareOp .In) (rInC false) := op_in_sign
theorem op_ninC : OpR X (compareOp .NotIn) (rInC true) := op_notIn_sign
def rIsNo (neg : Bool) : R2 := fun x y H Q => y = .non ∧ Q (.bl (if neg then !decide (x = .non) else decide (x = .non))) H
theorem op_isNo : OpR X (compareOp .Is) (rIsNo false) := op_isN
theorem op_isntNo : OpR X (compareOp .IsNot) (rIsNo true) := op_notN
def rAbs : List V → Hp → VK → Prop := fun xs H Q => ∃ i, xs = [.int i] ∧ Q (.int (if i < 0 then -i else i)) H
theorem cb_abs : CallR X (.builtin "abs") rAbs := call_abs
def rMx : List V → Hp → VK → Prop := fun xs H Q => ∃ i j, xs = [.int i, .int j] ∧ Q (.int (if j > i then j else i)) H
def rMn : List V → Hp → VK → Prop := fun xs H Q => ∃ i j, xs = [.int i, .int j] ∧ Q (.int (if j < i then j else i)) H
theorem cb_max2 (hc : X.calm = true) : CallR X (.builtin "max") rMx := call_max2 hc
theorem cb_min2 (hc : X.calm = true) : CallR X (.builtin "min") rMn := call_min2 hc
def rLenQ (K : PySem.W.Frag) : List V → Hp → VK → Prop := fun xs H Q => ∃ p ys, xs = [.ref p] ∧ (SqL K H p ys ∨ SqT K H p ys) ∧ Q (.int ys.length) H
theorem cb_lenQ : CallR X (.builtin "len") (rLenQ X.K) := call_len_seq
def rLenS : List V → Hp → VK → Prop := fun xs H Q => ∃ z, xs = [.str z] ∧ z.length ≤ sizeLine ∧ Q (.int z.length) H
theorem cb_lenS : CallR X (.builtin "len") rLenS := call_len_str
def rLenD : List V → Hp → VK → Prop := fun xs H Q => ∃ a kvs, xs = [V.ref a] ∧ H a = some (.dK kvs) ∧ Q (.int kvs.length) H
theorem cb_lenD : CallR X (.builtin "len") rLenD := call_lenD
def rListQ (K : PySem.W.Frag) : List V → Hp → VK → Prop := fun xs H Q => ∃ p ys, xs = [.ref p] ∧ (SqL K H p ys ∨ SqT K H p ys) ∧ ∀ l, H l = none → Q (.ref l) (upd H l (.lst ys))
theorem ct_list : CallR X (.type "list") (rListQ X.K) := call_list_of
def rDictD : List V → Hp → VK → Prop := fun xs H Q => ∃ (a : Addr) (kvs : List (Key × V)), xs = [.ref a] ∧ Rd H a (.dK kvs) ∧ ∀ p, H p = none → Q (.ref p) (upd H p (.dK kvs))
theorem ct_dict : CallR X (.type "dict") rDictD := call_dictD
def rInt1 : List V → Hp → VK → Prop := fun xs H Q => (∃ i, xs = [.int i] ∧ Q (.int i) H) ∨ ∃ k, xs = [.bl k] ∧ Q (.int (if k then 1 else 0)) H
theorem ct_int : CallR X (.type "int") rInt1 := call_int1
def rJoin (K : PySem.W.Frag) : V → List V → Hp → VK → Prop := fun x xs H Q => ∃ a p, ∃ ys : List Str, x = .str a ∧ xs = [.ref p] ∧ (SqL K H p (ys.map V.str) ∨ SqT K H p (ys.map V.str)) ∧
    (ys.map (·.length)).sum + ys.length * a.length ≤ 16777216 ∧ Q (.str (Txt.join a ys)) H
theorem pe_joinQ {o e : Expr} {to te : TE} {apos pos : Pos} (ho : PE X o to) (he : PE X e te) (hs : starEach [e] X.env = [(false, eval e X.env)] := by rfl) (hbase : attributeBase o "join" X.env (eval o X.env) = eval o X.env := by rfl) (hline : (apos.endLine == pos.line) = true := by rfl) :
    PE X (.Call (.Attribute o "join" apos) [e] [] pos) (tM1 (rJoin X.K) to te) := pe_join ho he hs hbase hline
def rCount : V → List V → Hp → VK → Prop := fun x xs H Q => ∃ a b, x = .str a ∧ xs = [.str b] ∧ Q (.int (Txt.count a b)) H
theorem mt_countS : MtR X "str.count" rCount := mt_count
def rIsTF (neg : Bool) : R2 := fun x y H Q => ∃ a b, x = .bl a ∧ y = .bl b ∧ Q (.bl (if neg then !decide (a = b) else decide (a = b))) H
theorem op_isTF : OpR X (compareOp .Is) (rIsTF false) := op_is_bl
theorem op_isntTF : OpR X (compareOp .IsNot) (rIsTF true) := op_isnot_bl
end

/-! ### the same rules, the written part by its name -/
section
variable {X : Cx} {K : PySem.W.Frag}
theorem kop_in (hK : X.K = K := by rfl) : OpR X (compareOp .In) (rIn K false) := hK ▸ op_in_seq
theorem kop_notIn (hK : X.K = K := by rfl) : OpR X (compareOp .NotIn) (rIn K true) := hK ▸ op_notIn_seq
theorem kcb_lenQ (hK : X.K = K := by rfl) : CallR X (.builtin "len") (rLenQ K) := hK ▸ cb_lenQ
theorem kct_list (hK : X.K = K := by rfl) : CallR X (.type "list") (rListQ K) := hK ▸ ct_list
theorem kcr_sum (hc : X.calm = true) (hK : X.K = K := by rfl) : CallR X (.builtin "sum") (rSum K) := hK ▸ cr_sum hc
theorem kcr_all (hc : X.calm = true) (hK : X.K = K := by rfl) : CallR X (.builtin "all") (rAll K) := hK ▸ cr_all hc
theorem kcr_any (hc : X.calm = true) (hK : X.K = K := by rfl) : CallR X (.builtin "any") (rAny K) := hK ▸ cr_any hc
theorem kcr_max (hc : X.calm = true) (hK : X.K = K := by rfl) : CallR X (.builtin "max") (rMax K) := hK ▸ cr_max hc
theorem kcr_min (hc : X.calm = true) (hK : X.K = K := by rfl) : CallR X (.builtin "min") (rMin K) := hK ▸ cr_min hc
theorem kix_list (hK : X.K = K := by rfl) : IxR X (rIxL K) := hK ▸ ix_list
theorem kix_tup (hK : X.K = K := by rfl) : IxR X (rIxT K) := hK ▸ ix_tup
theorem ksl_list (hK : X.K = K := by rfl) : SlR X (rSlL K) := hK ▸ sl_list
theorem kcall_isi (hK : X.K = K := by rfl) : CallR X (.builtin "isinstance") (rIsi K) := hK ▸ call_isi
theorem kop_eqD (hu : X.A.units + 64 < cLine) (hK : X.K = K := by rfl) : OpR X (compareOp .Eq) (rEqD K) := hK ▸ op_eqD hu
theorem kop_neD (hu : X.A.units + 64 < cLine) (hK : X.K = K := by rfl) : OpR X (compareOp .NotEq) (rNeD K) := hK ▸ op_neD hu
theorem kpi_list {l : Expr} {tg : Expr} {tl : TE} (hl : PE X l tl) (hK : X.K = K := by rfl) : PI X tg l (iList K tl) := hK ▸ pi_list hl
theorem kpi_tup {l : Expr} {tg : Expr} {tl : TE} (hl : PE X l tl) (hK : X.K = K := by rfl) : PI X tg l (iTup K tl) := hK ▸ pi_tup hl
theorem kpi_zip {e e2 : Expr} {ta : TA} {p pos tpos : Pos} {elts : List Expr} {kk : Nat} (hg : Gl X "zip") (hm : X.mg "zip" = none) (ha : PA X [e, e2] ta)
    (hs : starEach [e, e2] X.env = (false, eval e X.env) :: starEach [e2] X.env := by rfl) (hpl : (backTo pos (starEach [e2] X.env)).any (·.1) = false := by rfl) (hK : X.K = K := by rfl) :
    PI X (.Tuple elts kk tpos) (.Call (.Name "zip" p) [e, e2] [] pos) (iZip K ta) := hK ▸ pi_zip hg hm ha hs hpl
theorem kpi_zip3 {e e2 e3 : Expr} {ta : TA} {p pos tpos : Pos} {elts : List Expr} {kk : Nat} (hg : Gl X "zip") (hm : X.mg "zip" = none) (ha : PA X [e, e2, e3] ta)
    (hs : starEach [e, e2, e3] X.env = (false, eval e X.env) :: starEach [e2, e3] X.env := by rfl) (hpl : (backTo pos (starEach [e2, e3] X.env)).any (·.1) = false := by rfl) (hK : X.K = K := by rfl) :
    PI X (.Tuple elts kk tpos) (.Call (.Name "zip" p) [e, e2, e3] [] pos) (iZip3 K ta) := hK ▸ pi_zip3 hg hm ha hs hpl
theorem kpi_enum {e : Expr} {ta : TA} {p pos tpos : Pos} {elts : List Expr} {kk : Nat} (hg : Gl X "enumerate") (hm : X.mg "enumerate" = none) (ha : PA X [e] ta) (hs : starEach [e] X.env = [(false, eval e X.env)] := by rfl) (hK : X.K = K := by rfl) :
    PI X (.Tuple elts kk tpos) (.Call (.Name "enumerate" p) [e] [] pos) (iEnum K ta) := hK ▸ pi_enum hg hm ha hs
theorem kpe_joinQ {o e : Expr} {to te : TE} {apos pos : Pos} (ho : PE X o to) (he : PE X e te) (hs : starEach [e] X.env = [(false, eval e X.env)] := by rfl) (hbase : attributeBase o "join" X.env (eval o X.env) = eval o X.env := by rfl) (hline : (apos.endLine == pos.line) = true := by rfl) (hK : X.K = K := by rfl) :
    PE X (.Call (.Attribute o "join" apos) [e] [] pos) (tM1 (rJoin K) to te) := hK ▸ pe_joinQ ho he hs hbase hline
theorem kpe_revL {e : Expr} {te : TE} {k : Nat} {p1 p2 p3 pos : Pos} (he : PE X e te) (hK : X.K = K := by rfl) : PE X (.Subscript e (.Slice none none (some (.UnaryOp .USub (.Constant (.int 1) k p1) p2)) p3) pos) (tRevL K te) := hK ▸ pe_revL he
end

/-! ### what evaluates to what -/
section
variable {K : PySem.W.Frag} {σ : L2.St} {H H' : Hp} {ta tb tc te tx tl : TE} {t u : TT} {x y z v : V} {r : R2} {xs ys : List V} {P : V → Hp → Prop} {Ps : List (V → Hp → Prop)} {tr : TA} {i j k : Int} {a b : Row}

theorem ev_cS {z : Str} {l : Row} (h : z = S l) : Ev (tC (.str z)) σ H (VS l) := h ▸ ev_c
theorem lit_nil : (Str.ofString "" : Str) = S [] := by decide +kernel
theorem lit_o : (Str.ofString "o" : Str) = S [111] := by decide +kernel
theorem lit_dot : (Str.ofString "." : Str) = S [46] := by decide +kernel

/-! numbers -/
theorem ev_add (ha : Ev ta σ H (.int i)) (hb : Ev tb σ H (.int j)) : Ev (tOp (rI0 fun i j => .int (i + j)) ta tb) σ H (.int (i + j)) := ev_op ha hb rv_I0
theorem ev_sub (ha : Ev ta σ H (.int i)) (hb : Ev tb σ H (.int j)) : Ev (tOp (rI0 fun i j => .int (i - j)) ta tb) σ H (.int (i - j)) := ev_op ha hb rv_I0
theorem ev_mul (ha : Ev ta σ H (.int i)) (hb : Ev tb σ H (.int j)) (h : CMul i j) : Ev (tOp (rI CMul fun i j => .int (i * j)) ta tb) σ H (.int (i * j)) := ev_op ha hb (rv_I h)
theorem ev_fdiv (ha : Ev ta σ H (.int i)) (hb : Ev tb σ H (.int j)) (h : CDiv i j) : Ev (tOp (rI CDiv fun i j => .int (i / j)) ta tb) σ H (.int (i / j)) := ev_op ha hb (rv_I h)
theorem ev_mod (ha : Ev ta σ H (.int i)) (hb : Ev tb σ H (.int j)) (h : 0 < j) : Ev (tOp (rI (fun _ j => 0 < j) fun i j => .int (i % j)) ta tb) σ H (.int (i % j)) := ev_op ha hb (rv_I h)
theorem ev_pow (ha : Ev ta σ H (.int i)) (hb : Ev tb σ H (.int j)) (h : CPow i j) : Ev (tOp (rI CPow fun i j => .int (i ^ j.toNat)) ta tb) σ H (.int (i ^ j.toNat)) := ev_op ha hb (rv_I h)
theorem ev_shl (ha : Ev ta σ H (.int i)) (hb : Ev tb σ H (.int j)) (h : CPow i j) : Ev (tOp (rI CPow fun i j => .int (i * 2 ^ j.toNat)) ta tb) σ H (.int (i * 2 ^ j.toNat)) := ev_op ha hb (rv_I h)
theorem ev_shr (ha : Ev ta σ H (.int i)) (hb : Ev tb σ H (.int j)) (h : 0 ≤ j) : Ev (tOp (rI (fun _ j => 0 ≤ j) fun i j => .int (i / 2 ^ j.toNat)) ta tb) σ H (.int (i / 2 ^ j.toNat)) := ev_op ha hb (rv_I h)
theorem ev_and (ha : Ev ta σ H (.int i)) (hb : Ev tb σ H (.int j)) : Ev (tOp (rI0 fun i j => .int (Builtin.bitAnd i j)) ta tb) σ H (.int (Builtin.bitAnd i j)) := ev_op ha hb rv_I0
theorem ev_or (ha : Ev ta σ H (.int i)) (hb : Ev tb σ H (.int j)) : Ev (tOp (rI0 fun i j => .int (Builtin.bitOr i j)) ta tb) σ H (.int (Builtin.bitOr i j)) := ev_op ha hb rv_I0
theorem ev_neg (ha : Ev ta σ H (.int i)) : Ev (tUn (rU fun i => .int (-i)) ta) σ H (.int (-i)) := ev_un ha ru_neg
theorem ev_lt (ha : Ev ta σ H (.int i)) (hb : Ev tb σ H (.int j)) : Ev (tOp (rI0 fun i j => .bl (decide (i < j))) ta tb) σ H (.bl (decide (i < j))) := ev_op ha hb rv_I0
theorem ev_le (ha : Ev ta σ H (.int i)) (hb : Ev tb σ H (.int j)) : Ev (tOp (rI0 fun i j => .bl (decide (i ≤ j))) ta tb) σ H (.bl (decide (i ≤ j))) := ev_op ha hb rv_I0
theorem ev_gt (ha : Ev ta σ H (.int i)) (hb : Ev tb σ H (.int j)) : Ev (tOp (rI0 fun i j => .bl (decide (j < i))) ta tb) σ H (.bl (decide (j < i))) := ev_op ha hb rv_I0
theorem ev_ge (ha : Ev ta σ H (.int i)) (hb : Ev tb σ H (.int j)) : Ev (tOp (rI0 fun i j => .bl (decide (j ≤ i))) ta tb) σ H (.bl (decide (j ≤ i))) := ev_op ha hb rv_I0
theorem rv_eqI : RV rEq (.int i) (.int j) H (.bl (decide (i = j))) := fun H1 e Q q => ⟨rfl, by rw [dec_VI]; exact q H1 (Ex.refl H1)⟩
theorem rv_neI : RV rNe (.int i) (.int j) H (.bl (!decide (i = j))) := fun H1 e Q q => ⟨rfl, by rw [dec_VI]; exact q H1 (Ex.refl H1)⟩
theorem rv_eqS : RV rEq (VS a) (VS b) H (.bl (decide (a = b))) := fun H1 e Q q => ⟨rfl, by rw [dec_VS]; exact q H1 (Ex.refl H1)⟩
theorem rv_neS : RV rNe (VS a) (VS b) H (.bl (!decide (a = b))) := fun H1 e Q q => ⟨rfl, by rw [dec_VS]; exact q H1 (Ex.refl H1)⟩
theorem rv_eqB {a b : Bool} : RV rEq (.bl a) (.bl b) H (.bl (decide (a = b))) := fun H1 e Q q => ⟨rfl, by rw [dec_VB]; exact q H1 (Ex.refl H1)⟩
theorem rv_neB {a b : Bool} : RV rNe (.bl a) (.bl b) H (.bl (!decide (a = b))) := fun H1 e Q q => ⟨rfl, by rw [dec_VB]; exact q H1 (Ex.refl H1)⟩
theorem ev_eqI (ha : Ev ta σ H (.int i)) (hb : Ev tb σ H (.int j)) : Ev (tOp rEq ta tb) σ H (.bl (decide (i = j))) := ev_op ha hb rv_eqI
theorem ev_neI (ha : Ev ta σ H (.int i)) (hb : Ev tb σ H (.int j)) : Ev (tOp rNe ta tb) σ H (.bl (!decide (i = j))) := ev_op ha hb rv_neI
theorem ev_eqS (ha : Ev ta σ H (VS a)) (hb : Ev tb σ H (VS b)) : Ev (tOp rEq ta tb) σ H (.bl (decide (a = b))) := ev_op ha hb rv_eqS
theorem ev_neS (ha : Ev ta σ H (VS a)) (hb : Ev tb σ H (VS b)) : Ev (tOp rNe ta tb) σ H (.bl (!decide (a = b))) := ev_op ha hb rv_neS
theorem ev_eqB {a b : Bool} (ha : Ev ta σ H (.bl a)) (hb : Ev tb σ H (.bl b)) : Ev (tOp rEq ta tb) σ H (.bl (decide (a = b))) := ev_op ha hb rv_eqB
theorem ev_neB {a b : Bool} (ha : Ev ta σ H (.bl a)) (hb : Ev tb σ H (.bl b)) : Ev (tOp rNe ta tb) σ H (.bl (!decide (a = b))) := ev_op ha hb rv_neB
theorem ev_isNo (ha : Ev ta σ H x) (hb : Ev tb σ H .non) : Ev (tOp (rIsNo false) ta tb) σ H (.bl (decide (x = .non))) := ev_op ha hb fun H1 _ _ q => ⟨rfl, q H1 (Ex.refl H1)⟩
theorem ev_isntNo (ha : Ev ta σ H x) (hb : Ev tb σ H .non) : Ev (tOp (rIsNo true) ta tb) σ H (.bl (!decide (x = .non))) := ev_op ha hb fun H1 _ _ q => ⟨rfl, q H1 (Ex.refl H1)⟩
theorem ev_isTF {a b : Bool} (ha : Ev ta σ H (.bl a)) (hb : Ev tb σ H (.bl b)) : Ev (tOp (rIsTF false) ta tb) σ H (.bl (decide (a = b))) := ev_op ha hb fun H1 _ _ q => ⟨a, b, rfl, rfl, q H1 (Ex.refl H1)⟩
theorem ev_isntTF {a b : Bool} (ha : Ev ta σ H (.bl a)) (hb : Ev tb σ H (.bl b)) : Ev (tOp (rIsTF true) ta tb) σ H (.bl (!decide (a = b))) := ev_op ha hb fun H1 _ _ q => ⟨a, b, rfl, rfl, q H1 (Ex.refl H1)⟩
/-- a <= b < c and its like -/
theorem ev_chain {p q : Int → Int → Bool} (ha : Ev ta σ H (.int i)) (hb : Ev tb σ H (.int j)) (hc : Ev tc σ H (.int k)) : Ev (tChain (rI0 fun i j => .bl (p i j)) (rI0 fun i j => .bl (q i j)) ta tb tc) σ H (.bl (p i j && q j k)) := fun H1 e Q kq =>
  ha H1 e _ fun H2 e2 => hb H2 (e.trans e2) _ fun H3 e3 => ⟨i, j, rfl, rfl, p i j, rfl, by
    cases hp : p i j with
    | true =>
      rw [hp, Bool.true_and] at kq
      show tc σ H3 _
      exact hc H3 ((e.trans e2).trans e3) _ fun H4 e4 => ⟨j, k, rfl, rfl, kq H4 ((e2.trans e3).trans e4)⟩
    | false =>
      rw [hp, Bool.false_and] at kq
      show Q (.bl false) H3
      exact kq H3 (e2.trans e3)⟩

/-! texts -/
theorem ev_addS (ha : Ev ta σ H (VS a)) (hb : Ev tb σ H (VS b)) (hl : a.length + b.length ≤ 100000) : Ev (tOp rAddS ta tb) σ H (VS (a ++ b)) := ev_op ha hb fun H1 _ _ q =>
  ⟨S a, S b, rfl, rfl, by rw [S_len, S_len]; exact sz_of hl, by rw [S_add]; exact q H1 (Ex.refl H1)⟩
theorem ev_inC {c : Nat} (ha : Ev ta σ H (VS [c])) (hb : Ev tb σ H (VS b)) : Ev (tOp (rInC false) ta tb) σ H (.bl (decide (c ∈ b))) := ev_op ha hb fun H1 _ Q q =>
  ⟨c, S b, rfl, rfl, by
    show Q (.bl (decide (c ∈ (S b).cps.toList))) H1
    simp only [S_cps]
    exact q H1 (Ex.refl H1)⟩
theorem ev_ninC {c : Nat} (ha : Ev ta σ H (VS [c])) (hb : Ev tb σ H (VS b)) : Ev (tOp (rInC true) ta tb) σ H (.bl (!decide (c ∈ b))) := ev_op ha hb fun H1 _ Q q =>
  ⟨c, S b, rfl, rfl, by
    show Q (.bl (!decide (c ∈ (S b).cps.toList))) H1
    simp only [S_cps]
    exact q H1 (Ex.refl H1)⟩
theorem ev_lenS (ha : Ev ta σ H (VS a)) (hl : a.length ≤ 100000) : Ev (tCB rLenS (tCons ta tNil)) σ H (.int (a.length : Int)) := fun H1 e Q q =>
  ha H1 e _ fun H2 e2 => ⟨S a, rfl, by rw [S_len]; exact sz_of hl, by rw [S_len]; exact q H2 e2⟩
theorem atI_getD {α : Type} {l : List α} {i : Int} (d : α) (h0 : 0 ≤ i) (h1 : i < l.length) : atI l i = some (l.getD i.toNat d) := by
  obtain ⟨k, rfl⟩ := Int.eq_ofNat_of_zero_le h0
  have hk : k < l.length := by
    have : (k : Int) < l.length := h1
    omega
  refine atI_nat (j := k) ?_
  show l[k]? = some (l.getD k d)
  rw [List.getD_eq_getElem?_getD, List.getElem?_eq_getElem hk]
  rfl
theorem ev_ixS {i : Int} (ha : Ev ta σ H (VS a)) (hb : Ev tb σ H (.int i)) (hl : a.length ≤ 100000) (h0 : 0 ≤ i) (h1 : i < a.length) : Ev (tOp rIxS ta tb) σ H (VS [a.getD i.toNat 0]) := ev_op ha hb fun H1 _ _ q =>
  ⟨S a, i, a.getD i.toNat 0, rfl, rfl, by rw [S_len]; exact sz_of hl, by rw [S_cps]; exact atI_getD 0 h0 h1, q H1 (Ex.refl H1)⟩
theorem ev_slS {tlo thi : TO} {lo hi : Option Int} (h : Ev te σ H (VS a)) (h1 : EvO tlo σ H lo) (h2 : EvO thi σ H hi) (hl : a.length ≤ 100000) : Ev (tSl rSlS te tlo thi) σ H (VS (cutG a lo hi)) := fun H1 e Q q =>
  h H1 e _ fun H2 e2 => h1 H2 (e.trans e2) _ fun H3 e3 => h2 H3 ((e.trans e2).trans e3) _ fun H4 e4 =>
    ⟨S a, rfl, by rw [S_len]; exact sz_of hl, by rw [cutS_S]; exact q H4 ((e2.trans e3).trans e4)⟩
theorem ev_count {c : Nat} (ha : Ev ta σ H (VS a)) (hb : Ev tb σ H (VS [c])) : Ev (tM1 rCount ta tb) σ H (.int (a.count c : Nat)) := fun H1 e Q q =>
  ha H1 e _ fun H2 e2 => ⟨⟨S a, rfl⟩, hb H2 (e.trans e2) _ fun H3 e3 => ⟨S a, S [c], rfl, rfl, by rw [count_one]; exact q H3 (e2.trans e3)⟩⟩

/-! lists -/
theorem ev_lenQ {α : Type} {l : List α} {g : α → V} (h : EvQ K te σ H (l.map g)) : Ev (tCB (rLenQ K) (tCons te tNil)) σ H (.int (l.length : Int)) := fun H1 e Q q =>
  h H1 e _ fun p H2 e2 h2 => ⟨p, l.map g, rfl, .inl (SL.q h2), by rw [List.length_map]; exact q H2 e2⟩
theorem el_listQ (h : EvQ K te σ H xs) : EvL (tCB (rListQ K) (tCons te tNil)) σ H xs := fun H1 e Q q =>
  h H1 e _ fun p H2 e2 h2 => ⟨p, xs, rfl, .inl (SL.q h2), fun l hl => q l _ (fresh_back e2 hl) (e2.trans (Ex.new hl)) upd_same⟩
theorem el_slQ {α : Type} {l : List α} {g : α → V} {tlo thi : TO} {lo hi : Option Int} (h : EvQ K te σ H (l.map g)) (h1 : EvO tlo σ H lo) (h2 : EvO thi σ H hi) : EvL (tSl (rSlL K) te tlo thi) σ H ((cutG l lo hi).map g) := fun H1 e Q q =>
  h H1 e _ fun a H2 e2 hs => h1 H2 (e.trans e2) _ fun H3 e3 => h2 H3 ((e.trans e2).trans e3) _ fun H4 e4 =>
    ⟨a, l.map g, rfl, (exl (K := K) (e3.trans e4) hs).q, fun p hp => by
      rw [cutV_map]
      exact q p _ (fresh_back ((e2.trans e3).trans e4) hp) (((e2.trans e3).trans e4).trans (Ex.new hp)) upd_same⟩
theorem ev_ixQ {α : Type} {l : List α} {g : α → V} {i : Int} (d : α) (h : EvQ K ta σ H (l.map g)) (hb : Ev tb σ H (.int i)) (h0 : 0 ≤ i) (h1 : i < l.length) : Ev (tOp (rIxL K) ta tb) σ H (g (l.getD i.toNat d)) := fun H1 e Q q =>
  h H1 e _ fun a H2 e2 hs => hb H2 (e.trans e2) _ fun H3 e3 => ⟨a, l.map g, i, _, rfl, rfl, (exl (K := K) e3 hs).q, by
    have h2 : i < ((l.map g).length : Int) := by rw [List.length_map]; exact h1
    rw [atI_getD (g d) h0 h2, List.getD_eq_getElem?_getD, List.getElem?_map, List.getD_eq_getElem?_getD, Option.getD_map]
    , q H3 (e2.trans e3)⟩
theorem ev_ixT {α : Type} {l : List α} {g : α → V} {i : Int} {p : Addr} (d : α) (h : Ev ta σ H (.ref p)) (hs : ST K H p (l.map g)) (hb : Ev tb σ H (.int i)) (h0 : 0 ≤ i) (h1 : i < l.length) : Ev (tOp (rIxT K) ta tb) σ H (g (l.getD i.toNat d)) := fun H1 e Q q =>
  h H1 e _ fun H2 e2 => hb H2 (e.trans e2) _ fun H3 e3 => ⟨p, l.map g, i, _, rfl, rfl, (ext (K := K) ((e.trans e2).trans e3) hs).q, by
    have h2 : i < ((l.map g).length : Int) := by rw [List.length_map]; exact h1
    rw [atI_getD (g d) h0 h2, List.getD_eq_getElem?_getD, List.getElem?_map, List.getD_eq_getElem?_getD, Option.getD_map]
    , q H3 (e2.trans e3)⟩
/-- the last one -/
theorem ev_ixLast {α : Type} {l : List α} {g : α → V} {w : α} (h : EvQ K ta σ H (l.map g)) (hb : Ev tb σ H (.int (-1))) (hw : l.getLast? = some w) : Ev (tOp (rIxL K) ta tb) σ H (g w) := fun H1 e Q q =>
  h H1 e _ fun a H2 e2 hs => hb H2 (e.trans e2) _ fun H3 e3 => ⟨a, l.map g, -1, _, rfl, rfl, (exl (K := K) e3 hs).q, by
    have e1 : l = l.dropLast ++ [w] := by
      cases l with
      | nil => simp at hw
      | cons c r =>
        rw [List.getLast?_eq_getLast (List.cons_ne_nil c r)] at hw
        have := Option.some.inj hw
        rw [← this, List.dropLast_concat_getLast]
    rw [e1, List.map_append, List.map_singleton]
    exact atI_last _ _, q H3 (e2.trans e3)⟩
theorem el_catQ {α : Type} {l m : List α} {g : α → V} (ha : EvL ta σ H (l.map g)) (hb : EvL tb σ H (m.map g)) (hz : l.length + m.length ≤ 100000) : EvL (tOp rCat ta tb) σ H ((l ++ m).map g) := fun H1 e Q q =>
  ha H1 e _ fun p H2 hp e2 h2 => hb H2 (e.trans e2) _ fun p' H3 hp' e3 h3 => ⟨p, p', _, _, rfl, rfl, e3 _ _ h2, h3, by rw [List.length_map, List.length_map]; exact sz_of hz, fun l hl => by
    rw [← List.map_append]
    exact q l _ (fresh_back (e2.trans e3) hl) ((e2.trans e3).trans (Ex.new hl)) upd_same⟩
/-- a list that stands here -/
def EvH (te : TE) (σ : L2.St) (H : Hp) (xs : List V) : Prop := ∀ H1, Ex H H1 → ∀ Q : VK, (∀ p H2, Ex H1 H2 → H2 p = some (.lst xs) → Q (.ref p) H2) → te σ H1 Q
theorem h_new (h : EvL te σ H xs) : EvH te σ H xs := fun H1 e Q q => h H1 e Q fun p H2 _ e2 h2 => q p H2 e2 h2
theorem h_old {p : Addr} (h : Ev te σ H (.ref p)) (hs : H p = some (.lst xs)) : EvH te σ H xs := fun H1 e Q q => h H1 e Q fun H2 e2 => q p H2 e2 (e2 _ _ (e _ _ hs))
theorem q_H (h : EvH te σ H xs) : EvQ K te σ H xs := fun H1 e Q q => h H1 e Q fun p H2 e2 h2 => q p H2 e2 (slof h2)
theorem el_catH {α : Type} {l m : List α} {g : α → V} (ha : EvH ta σ H (l.map g)) (hb : EvH tb σ H (m.map g)) (hz : l.length + m.length ≤ 100000) : EvL (tOp rCat ta tb) σ H ((l ++ m).map g) := fun H1 e Q q =>
  ha H1 e _ fun p H2 e2 h2 => hb H2 (e.trans e2) _ fun p' H3 e3 h3 => ⟨p, p', _, _, rfl, rfl, e3 _ _ h2, h3, by rw [List.length_map, List.length_map]; exact sz_of hz, fun l hl => by
    rw [← List.map_append]
    exact q l _ (fresh_back (e2.trans e3) hl) ((e2.trans e3).trans (Ex.new hl)) upd_same⟩
theorem el_repH {α : Type} {l : List α} {g : α → V} {n : Int} (ha : EvH ta σ H (l.map g)) (hb : Ev tb σ H (.int n)) (h0 : -100000 ≤ n) (h1 : n ≤ 100000) (hz : l.length * n.toNat ≤ 100000) : EvL (tOp rRep ta tb) σ H (((List.replicate n.toNat l).flatten).map g) := fun H1 e Q q =>
  ha H1 e _ fun p H2 e2 h2 => hb H2 (e.trans e2) _ fun H3 e3 => ⟨p, n, _, rfl, rfl, e3 _ _ h2, by omega, by omega, by rw [List.length_map]; exact sz_of hz, fun l hl => by
    rw [List.map_flatten, List.map_replicate] at q
    exact q l _ (fresh_back (e2.trans e3) hl) ((e2.trans e3).trans (Ex.new hl)) upd_same⟩
theorem el_nil : EvL (tLst tNil) σ H [] := el_lst ea_nil (Nat.zero_le _)
theorem ev_sumV {ns : List Int} (h : EvQ K te σ H (ns.map V.int)) : Ev (tCB (rSum K) (tCons te tNil)) σ H (.int ns.sum) := fun H1 e Q q =>
  h H1 e _ fun p H2 e2 h2 => ⟨p, ns, rfl, SL.q h2, q H2 e2⟩
theorem ev_sumQ {α : Type} {l : List α} {f : α → Int} (h : EvQ K te σ H (l.map fun x => V.int (f x))) : Ev (tCB (rSum K) (tCons te tNil)) σ H (.int (l.map f).sum) := ev_sumV (by rw [List.map_map]; exact h)
theorem ev_allV {bs : List Bool} (h : EvQ K te σ H (bs.map V.bl)) : Ev (tCB (rAll K) (tCons te tNil)) σ H (.bl (bs.all id)) := fun H1 e Q q =>
  h H1 e _ fun p H2 e2 h2 => ⟨p, bs, rfl, SL.q h2, q H2 e2⟩
theorem ev_anyV {bs : List Bool} (h : EvQ K te σ H (bs.map V.bl)) : Ev (tCB (rAny K) (tCons te tNil)) σ H (.bl (bs.any id)) := fun H1 e Q q =>
  h H1 e _ fun p H2 e2 h2 => ⟨p, bs, rfl, SL.q h2, q H2 e2⟩
theorem ev_allQ {α : Type} {l : List α} {p : α → Bool} (h : EvQ K te σ H (l.map fun x => V.bl (p x))) : Ev (tCB (rAll K) (tCons te tNil)) σ H (.bl (l.all p)) := by
  have := ev_allV (K := K) (bs := l.map p) (te := te) (σ := σ) (H := H) (by rw [List.map_map]; exact h)
  rw [List.all_map] at this
  exact this
theorem ev_anyQ {α : Type} {l : List α} {p : α → Bool} (h : EvQ K te σ H (l.map fun x => V.bl (p x))) : Ev (tCB (rAny K) (tCons te tNil)) σ H (.bl (l.any p)) := by
  have := ev_anyV (K := K) (bs := l.map p) (te := te) (σ := σ) (H := H) (by rw [List.map_map]; exact h)
  rw [List.any_map] at this
  exact this
theorem flat_len (l : List Row) : l.flatten.length = (l.map (·.length)).sum := List.length_flatten
theorem ev_joinV {l : List Row} (ha : Ev ta σ H (VS [])) (h : EvQ K te σ H (l.map VS)) (hz : l.flatten.length ≤ 100000) : Ev (tM1 (rJoin K) ta te) σ H (VS l.flatten) := fun H1 e Q q =>
  ha H1 e _ fun H2 e2 => ⟨⟨S [], rfl⟩, h H2 (e.trans e2) _ fun p H3 e3 h3 => ⟨S [], p, l.map S, rfl, rfl, .inl (by rw [List.map_map]; exact SL.q h3), by
    rw [List.map_map, show ((fun z : Str => z.length) ∘ S) = fun z : Row => z.length from funext S_len, ← flat_len, S_len]
    show l.flatten.length + _ * 0 ≤ 16777216
    omega, by rw [join_nil]; exact q H3 (e2.trans e3)⟩⟩
theorem ev_joinQ {α : Type} {l : List α} {f : α → Row} (ha : Ev ta σ H (VS [])) (h : EvQ K te σ H (l.map fun x => VS (f x))) (hz : (l.map f).flatten.length ≤ 100000) : Ev (tM1 (rJoin K) ta te) σ H (VS (l.map f).flatten) :=
  ev_joinV ha (by rw [List.map_map]; exact h) hz
theorem ev_inQ {x : V} (ha : Ev ta σ H x) (hb : EvQ K tb σ H xs) (hx : flatV x = true) (hf : xs.all flatV = true) : Ev (tOp (rIn K false) ta tb) σ H (.bl (inV x xs)) := fun H1 e Q q =>
  ha H1 e _ fun H2 e2 => hb H2 (e.trans e2) _ fun p H3 e3 h3 => ⟨p, xs, rfl, .inl (SL.q h3), hx, hf, q H3 (e2.trans e3)⟩
theorem ev_ninQ {x : V} (ha : Ev ta σ H x) (hb : EvQ K tb σ H xs) (hx : flatV x = true) (hf : xs.all flatV = true) : Ev (tOp (rIn K true) ta tb) σ H (.bl (!inV x xs)) := fun H1 e Q q =>
  ha H1 e _ fun H2 e2 => hb H2 (e.trans e2) _ fun p H3 e3 h3 => ⟨p, xs, rfl, .inl (SL.q h3), hx, hf, q H3 (e2.trans e3)⟩
theorem flat_Txts (l : List Row) : (l.map VS).all flatV = true := by simp [flatV]
theorem flat_Ints (l : List Int) : (l.map V.int).all flatV = true := by simp [flatV]
theorem inV_VS (a : Row) (l : List Row) : inV (VS a) (l.map VS) = decide (a ∈ l) := by
  unfold inV
  rw [List.any_map, Bool.eq_iff_iff, List.any_eq_true, decide_eq_true_eq]
  constructor
  · rintro ⟨b, hb, e⟩
    have e : eqV (VS b) (VS a) = true := e
    have : S b = S a := by simpa [eqV] using e
    rw [← S_inj this]; exact hb
  · intro h
    exact ⟨a, h, by simp [eqV]⟩
theorem inV_VI (a : Int) (l : List Int) : inV (.int a) (l.map V.int) = decide (a ∈ l) := by
  unfold inV
  rw [List.any_map, Bool.eq_iff_iff, List.any_eq_true, decide_eq_true_eq]
  constructor
  · rintro ⟨b, hb, e⟩
    have e : eqV (.int b) (.int a) = true := e
    have : b = a := by simpa [eqV] using e
    rw [← this]; exact hb
  · intro h
    exact ⟨a, h, by simp [eqV]⟩
theorem ev_inS {l : List Row} (ha : Ev ta σ H (VS a)) (hb : EvQ K tb σ H (l.map VS)) : Ev (tOp (rIn K false) ta tb) σ H (.bl (decide (a ∈ l))) := (inV_VS a l) ▸ ev_inQ ha hb rfl (flat_Txts l)
theorem ev_inI {l : List Int} (ha : Ev ta σ H (.int i)) (hb : EvQ K tb σ H (l.map V.int)) : Ev (tOp (rIn K false) ta tb) σ H (.bl (decide (i ∈ l))) := (inV_VI i l) ▸ ev_inQ ha hb rfl (flat_Ints l)
theorem ev_ninI {l : List Int} (ha : Ev ta σ H (.int i)) (hb : EvQ K tb σ H (l.map V.int)) : Ev (tOp (rIn K true) ta tb) σ H (.bl (!decide (i ∈ l))) := (inV_VI i l) ▸ ev_ninQ ha hb rfl (flat_Ints l)
/-- in a written tuple of texts -/
theorem ev_inTS {l : List Row} (ha : Ev ta σ H (VS a)) (hb : EvU tb σ H (l.map VS)) : Ev (tOp (rIn K false) ta tb) σ H (.bl (decide (a ∈ l))) := (inV_VS a l) ▸ ev_inU ha hb rfl (flat_Txts l)

/-! calls of built-ins on numbers -/
theorem ev_abs (ha : Ev ta σ H (.int i)) : Ev (tCB rAbs (tCons ta tNil)) σ H (.int (i.natAbs : Nat)) := fun H1 e Q q =>
  ha H1 e _ fun H2 e2 => ⟨i, rfl, by
    have : (if i < 0 then -i else i) = (i.natAbs : Int) := by split <;> omega
    rw [this]; exact q H2 e2⟩
theorem ev_mx2 (ha : Ev ta σ H (.int i)) (hb : Ev tb σ H (.int j)) : Ev (tCB rMx (tCons ta (tCons tb tNil))) σ H (.int (max i j)) := fun H1 e Q q =>
  ha H1 e _ fun H2 e2 => hb H2 (e.trans e2) _ fun H3 e3 => ⟨i, j, rfl, by
    have : (if j > i then j else i) = max i j := by split <;> omega
    rw [this]; exact q H3 (e2.trans e3)⟩
theorem ev_mn2 (ha : Ev ta σ H (.int i)) (hb : Ev tb σ H (.int j)) : Ev (tCB rMn (tCons ta (tCons tb tNil))) σ H (.int (min i j)) := fun H1 e Q q =>
  ha H1 e _ fun H2 e2 => hb H2 (e.trans e2) _ fun H3 e3 => ⟨i, j, rfl, by
    have : (if j < i then j else i) = min i j := by split <;> omega
    rw [this]; exact q H3 (e2.trans e3)⟩
theorem ev_intB {b : Bool} (ha : Ev ta σ H (.bl b)) : Ev (tCB rInt1 (tCons ta tNil)) σ H (.int (if b then 1 else 0)) := fun H1 e Q q =>
  ha H1 e _ fun H2 e2 => .inr ⟨b, rfl, q H2 e2⟩

/-! dicts of texts -/
theorem ed_new : EvD tDNewK σ H [] := fun H1 _ Q q => fun p hp => q p _ hp (Ex.new hp) upd_same
theorem ed_newS : EvD tDNewK σ H (DS []) := ed_new
theorem ed_dict {kvs : List (Key × V)} (h : EvG te σ H (isD kvs)) : EvD (tCB rDictD (tCons te tNil)) σ H kvs := fun H1 e Q q =>
  h H1 e _ fun v H2 e2 ⟨a, ea, h2⟩ => ⟨a, kvs, by rw [ea], .inl h2, fun p hp => q p _ (fresh_back e2 hp) (e2.trans (Ex.new hp)) upd_same⟩
theorem ev_get2 {r : Dic} {p : Addr} {d : Row} (h : Ev ta σ H (.ref p)) (hs : H p = some (.dK (DS r))) (hb : Ev tb σ H (VS a)) (hc : Ev tc σ H (VS d)) : Ev (tDGet2 ta tb tc) σ H (VS ((look r a).getD d)) := fun H1 e Q q =>
  h H1 e _ fun H2 e2 => ⟨p, rfl, .inl ⟨_, .inl (e2 _ _ (e _ _ hs))⟩, hb H2 (e.trans e2) _ fun H3 e3 => hc H3 ((e.trans e2).trans e3) _ fun H4 e4 => ⟨_, DGet.k (k := Sum.inr (S a)) (e4 _ _ (e3 _ _ (e2 _ _ (e _ _ hs)))), by
    rw [DS_val]
    have q4 := q H4 ((e2.trans e3).trans e4)
    cases hk : look r a with
    | none => rw [hk] at q4; exact q4
    | some v => rw [hk] at q4; exact q4⟩⟩
theorem ev_din {r : Dic} {p : Addr} (hb : Ev tb σ H (VS a)) (h : Ev ta σ H (.ref p)) (hs : H p = some (.dK (DS r))) : Ev (tDIn tb ta) σ H (.bl (look r a).isSome) := fun H1 e Q q =>
  hb H1 e _ fun H2 e2 => h H2 (e.trans e2) _ fun H3 e3 => ⟨p, _, rfl, DGet.k (k := Sum.inr (S a)) (e3 _ _ (e2 _ _ (e _ _ hs))), by
    rw [DS_val, Option.isSome_map]
    exact q H3 (e2.trans e3)⟩
theorem ev_dget {r : Dic} {p : Addr} (h : Ev ta σ H (.ref p)) (hs : H p = some (.dK (DS r))) (hb : Ev tb σ H (VS a)) (hv : (look r a).isSome = true) : Ev (tDGet ta tb) σ H (VS ((look r a).getD [])) := fun H1 e Q q =>
  h H1 e _ fun H2 e2 => hb H2 (e.trans e2) _ fun H3 e3 => ⟨p, VS ((look r a).getD []), rfl, by
    have := DGet.k (k := Sum.inr (S a)) (e3 _ _ (e2 _ _ (e _ _ hs)))
    obtain ⟨v, hv⟩ := Option.isSome_iff_exists.mp hv
    rw [DS_val, hv] at this
    rw [hv]
    exact this, q H3 (e2.trans e3)⟩
theorem ev_eqD {r s : Dic} (ha : EvG ta σ H (isD (DS r))) (hb : EvG tb σ H (isD (DS s))) : Ev (tOp (rEqDS false) ta tb) σ H (.bl (dEq r s)) := fun H1 e Q q =>
  ha H1 e _ fun v H2 e2 ⟨p, ep, h2⟩ => hb H2 (e.trans e2) _ fun w H3 e3 ⟨p', ep', h3⟩ => ⟨p, p', r, s, ep, ep', e3 _ _ h2, h3, q H3 (e2.trans e3)⟩
theorem ev_neD {r s : Dic} (ha : EvG ta σ H (isD (DS r))) (hb : EvG tb σ H (isD (DS s))) : Ev (tOp (rEqDS true) ta tb) σ H (.bl (!dEq r s)) := fun H1 e Q q =>
  ha H1 e _ fun v H2 e2 ⟨p, ep, h2⟩ => hb H2 (e.trans e2) _ fun w H3 e3 ⟨p', ep', h3⟩ => ⟨p, p', r, s, ep, ep', e3 _ _ h2, h3, q H3 (e2.trans e3)⟩
theorem el_keys {r : Dic} (h : EvG te σ H (isD (DS r))) : EvL (tCB rListD (tCons te tNil)) σ H ((r.map (·.1)).map VS) := fun H1 e Q q =>
  h H1 e _ fun v H2 e2 ⟨p, ep, h2⟩ => ⟨p, DS r, by rw [ep], h2, fun l hl => by
    have : ((DS r).map fun kv => kV kv.1) = (r.map (·.1)).map VS := by
      unfold DS
      rw [List.map_map, List.map_map]
      rfl
    rw [this]
    exact q l _ (fresh_back e2 hl) (e2.trans (Ex.new hl)) upd_same⟩
theorem ev_lenDS {r : Dic} (h : EvG te σ H (isD (DS r))) : Ev (tCB rLenD (tCons te tNil)) σ H (.int (r.length : Int)) := fun H1 e Q q =>
  h H1 e _ fun v H2 e2 ⟨p, ep, h2⟩ => ⟨p, DS r, by rw [ep], h2, by rw [DS_len]; exact q H2 e2⟩

/-! conditional expressions -/
theorem ev_ifV {b : Bool} (h : EvT t σ H b) (h1 : b = true → Ev ta σ H x) (h2 : b = false → Ev tb σ H y) : Ev (tIf t ta tb) σ H (if b then x else y) := by
  cases b with
  | true => exact ev_if h (fun e => h1 e) (fun e => nomatch e)
  | false => exact ev_if h (fun e => nomatch e) (fun e => h2 e)
theorem ev_ifS {c : Bool} (h : EvT t σ H c) (h1 : c = true → Ev ta σ H (VS a)) (h2 : c = false → Ev tb σ H (VS b)) : Ev (tIf t ta tb) σ H (VS (if c then a else b)) := by
  cases c with
  | true => exact ev_if h (fun e => h1 e) (fun e => nomatch e)
  | false => exact ev_if h (fun e => nomatch e) (fun e => h2 e)
theorem ev_ifI {c : Bool} (h : EvT t σ H c) (h1 : c = true → Ev ta σ H (.int i)) (h2 : c = false → Ev tb σ H (.int j)) : Ev (tIf t ta tb) σ H (.int (if c then i else j)) := by
  cases c with
  | true => exact ev_if h (fun e => h1 e) (fun e => nomatch e)
  | false => exact ev_if h (fun e => nomatch e) (fun e => h2 e)

/-! what kind of thing -/
theorem ev_isi {c : V} {tt cc : Value} {b : Bool} (ha : EvG ta σ H P) (hb : Ev tb σ H c) (hp : ∀ v H1, Ex H H1 → P v H1 → TyX K H1 v tt) (m : Mon P) (hc : ClsV c cc) (hk : PySem.W.kitOne K tt cc = some b) : Ev (tCB (rIsi K) (tCons ta (tCons tb tNil))) σ H (.bl b) := fun H1 e Q q =>
  ha H1 e _ fun v H2 e2 hv => hb H2 (e.trans e2) _ fun H3 e3 => ⟨v, c, tt, cc, b, rfl, hc, hp v H3 ((e.trans e2).trans e3) (m v _ _ e3 hv), hk, q H3 (e2.trans e3)⟩
theorem ev_isiS {n : String} {b : Bool} (ha : Ev ta σ H (VS a)) (hb : Ev tb σ H (.ty n)) (hk : kitB "str" n = some b) : Ev (tCB (rIsi K) (tCons ta (tCons tb tNil))) σ H (.bl b) :=
  ev_isi (g_V ha) hb (fun v H1 _ hv => by cases hv; exact .base (.str _)) (mon_V _) (.ty n) (kit_ty hk)
theorem ev_isiI {n : String} {b : Bool} (ha : Ev ta σ H (.int i)) (hb : Ev tb σ H (.ty n)) (hk : kitB "int" n = some b) : Ev (tCB (rIsi K) (tCons ta (tCons tb tNil))) σ H (.bl b) :=
  ev_isi (g_V ha) hb (fun v H1 _ hv => by cases hv; exact .base (.int _)) (mon_V _) (.ty n) (kit_ty hk)
theorem ev_isiB {n : String} {c b : Bool} (ha : Ev ta σ H (.bl c)) (hb : Ev tb σ H (.ty n)) (hk : kitB "bool" n = some b) : Ev (tCB (rIsi K) (tCons ta (tCons tb tNil))) σ H (.bl b) :=
  ev_isi (g_V ha) hb (fun v H1 _ hv => by cases hv; exact .base (.bl _)) (mon_V _) (.ty n) (kit_ty hk)
theorem ev_isiN {n : String} {b : Bool} (ha : Ev ta σ H .non) (hb : Ev tb σ H (.ty n)) (hk : kitB "NoneType" n = some b) : Ev (tCB (rIsi K) (tCons ta (tCons tb tNil))) σ H (.bl b) :=
  ev_isi (g_V ha) hb (fun v H1 _ hv => by cases hv; exact .base .non) (mon_V _) (.ty n) (kit_ty hk)
theorem tyx_L {p : Addr} (h : SL K H p xs) : TyX K H (.ref p) (.type "list") := by
  rcases h with h | ⟨o, h⟩
  · exact .base (.lst h)
  · exact .base (.frz h)
theorem tyx_T {p : Addr} (h : ST K H p xs) : TyX K H (.ref p) (.type "tuple") := by
  rcases h with h | ⟨o, h⟩
  · exact .base (.tup h)
  · exact .fTuple h
theorem ev_isiL {n : String} {b : Bool} (ha : EvQ K ta σ H xs) (hb : Ev tb σ H (.ty n)) (hk : kitB "list" n = some b) : Ev (tCB (rIsi K) (tCons ta (tCons tb tNil))) σ H (.bl b) :=
  ev_isi (g_L ha) hb (fun v H1 _ hv => by obtain ⟨p, rfl, h⟩ := hv; exact tyx_L h) (mon_L _ _) (.ty n) (kit_ty hk)
theorem ev_isiD {n : String} {b : Bool} {kvs : List (Key × V)} (ha : EvG ta σ H (isD kvs)) (hb : Ev tb σ H (.ty n)) (hk : kitB "dict" n = some b) : Ev (tCB (rIsi K) (tCons ta (tCons tb tNil))) σ H (.bl b) :=
  ev_isi ha hb (fun v H1 _ hv => by obtain ⟨p, rfl, h⟩ := hv; exact .base (.dK h)) (mon_D _) (.ty n) (kit_ty hk)
end
end Ho

/-! Ho, part E: what is walked; comprehensions; loops; statements -/
namespace Ho
open PySem PySem.Spec PyProof.Rows L2 Evl

/-! ### all but some addresses stay -/
def Xb (s : List Addr) (H H' : Hp) : Prop := ∀ a o, a ∉ s → H a = some o → H' a = some o
theorem Xb.refl (s : List Addr) (H : Hp) : Xb s H H := fun _ _ _ h => h
theorem Ex.xb {s : List Addr} {H H' : Hp} (e : Ex H H') : Xb s H H' := fun a o _ h => e a o h
theorem Xb.trans {s : List Addr} {H H1 H2 : Hp} (x : Xb s H H1) (y : Xb s H1 H2) : Xb s H H2 := fun a o n h => y a o n (x a o n h)
theorem Xb.ex {s : List Addr} {H H1 H2 : Hp} (x : Xb s H H1) (e : Ex H1 H2) : Xb s H H2 := fun a o n h => e a o (x a o n h)
theorem Xb.ex0 {s : List Addr} {H H1 H2 : Hp} (e : Ex H H1) (x : Xb s H1 H2) : Xb s H H2 := fun a o n h => x a o n (e a o h)
theorem Xb.upd {s : List Addr} {H H1 : Hp} {p : Addr} {o : HO} (x : Xb s H H1) (hp : p ∈ s) : Xb s H (upd H1 p o) := fun a u n h => by
  rw [upd_ne (fun e => n (by rw [e]; exact hp))]
  exact x a u n h
theorem xb_upd {H : Hp} {p : Addr} {o : HO} : Xb [p] H (upd H p o) := (Xb.refl _ H).upd (by simp)
theorem Xb.mono {s t : List Addr} {H H' : Hp} (x : Xb s H H') (h : ∀ a ∈ s, a ∈ t) : Xb t H H' := fun a o n => x a o fun m => n (h a m)
theorem Xb.nil {H H' : Hp} (x : Xb [] H H') : Ex H H' := fun a o h => x a o (by simp) h
/-- what H0 does not know may change -/
theorem Ex.xb0 {s : List Addr} {H0 H H' : Hp} (e : Ex H0 H) (x : Xb s H H') (n : ∀ a ∈ s, H0 a = none) : Ex H0 H' := fun a o h => x a o (fun m => by rw [n a m] at h; cases h) (e a o h)
theorem Xb.rd {s : List Addr} {H H' : Hp} {a : Addr} {u : HO} (x : Xb s H H') (n : a ∉ s) (h : Rd H a u) : Rd H' a u := by
  rcases h with h | ⟨o, h⟩
  · exact .inl (x a _ n h)
  · exact .inr ⟨o, x a _ n h⟩
theorem Xb.l {K : PySem.W.Frag} {s : List Addr} {H H' : Hp} {a : Addr} {xs : List V} (x : Xb s H H') (n : a ∉ s) (h : SL K H a xs) : SL K H' a xs := x.rd n h
theorem Xb.t {K : PySem.W.Frag} {s : List Addr} {H H' : Hp} {a : Addr} {xs : List V} (x : Xb s H H') (n : a ∉ s) (h : ST K H a xs) : ST K H' a xs := x.rd n h
theorem Xb.lq {K : PySem.W.Frag} {s : List Addr} {H H' : Hp} {a : Addr} {xs : List V} (x : Xb s H H') (n : a ∉ s) (h : SqL K H a xs) : SqL K H' a xs := by
  rcases h with h | h
  · exact .inl (x.rd n h)
  · exact .inr h
theorem Xb.tq {K : PySem.W.Frag} {s : List Addr} {H H' : Hp} {a : Addr} {xs : List V} (x : Xb s H H') (n : a ∉ s) (h : SqT K H a xs) : SqT K H' a xs := by
  rcases h with h | h
  · exact .inl (x.rd n h)
  · exact .inr h
theorem nin1 {a p : Addr} (h : a ≠ p) : a ∉ [p] := by simpa using h
theorem nin2 {a p q : Addr} (h : a ≠ p) (h2 : a ≠ q) : a ∉ [p, q] := by simp [h, h2]
theorem nin0 {a : Addr} : a ∉ ([] : List Addr) := by simp
theorem ne_fresh {H : Hp} {a b : Addr} {o : HO} (h : H a = some o) (h' : H b = none) : a ≠ b := ne_of_none h h'
theorem ne_new {H : Hp} {a b : Addr} {o : HO} (h : H b = none) (h' : H a = some o) : b ≠ a := fun e => by rw [e, h'] at h; cases h

/-! ### what is walked -/
/-- J walks l; g stores each; τ: the slots behind; while Gd -/
structure Src (J : It) {α : Type} (l : List α) (g : TG) (τ : α → L2.St → L2.St) (Gd : Hp → Prop) : Prop where
  go : ∀ i H, i < l.length → Gd H → J.go i H
  stop : ∀ H, Gd H → J.stop l.length H
  yld : ∀ i H x H' σ K, (hi : i < l.length) → Gd H → J.yld i H x H' → (∀ H'', Ex H H'' → K (τ l[i] σ) H'') → g x σ H' K
/-- the iterable begins a walk of l; it reads addresses of A or new ones alone -/
def EvI (A : Addr → Prop) {α : Type} (wi : TI) (g : TG) (σ : L2.St) (H : Hp) (l : List α) (τ : α → L2.St → L2.St) : Prop :=
  ∀ H1, Ex H H1 → ∀ R : It → Hp → Prop, (∀ (J : It) (H2 : Hp) (Gd : Hp → Prop) (fp : List Addr), Ex H1 H2 → (∀ a ∈ fp, A a ∨ H1 a = none) → Gd H2 → (∀ s Ha Hb, Xb s Ha Hb → (∀ a ∈ fp, a ∉ s) → Gd Ha → Gd Hb) → Src J l g τ Gd → R J H2) → wi σ H1 R
def isLA (K : PySem.W.Frag) (A : Addr → Prop) (H0 : Hp) (xs : List V) : V → Hp → Prop := fun u H => ∃ a, u = .ref a ∧ (A a ∨ H0 a = none) ∧ SL K H a xs
theorem mon_LA (K : PySem.W.Frag) (A : Addr → Prop) (H0 : Hp) (xs : List V) : Mon (isLA K A H0 xs) := fun _ _ _ e ⟨a, h1, h2, h3⟩ => ⟨a, h1, h2, exl e h3⟩
def EvQA (K : PySem.W.Frag) (A : Addr → Prop) (te : TE) (σ : L2.St) (H : Hp) (xs : List V) : Prop := ∀ H1, Ex H H1 → ∀ Q : VK, (∀ a H2, Ex H1 H2 → (A a ∨ H1 a = none) → SL K H2 a xs → Q (.ref a) H2) → te σ H1 Q
def EvQT (K : PySem.W.Frag) (A : Addr → Prop) (te : TE) (σ : L2.St) (H : Hp) (xs : List V) : Prop := ∀ H1, Ex H H1 → ∀ Q : VK, (∀ a H2, Ex H1 H2 → (A a ∨ H1 a = none) → ST K H2 a xs → Q (.ref a) H2) → te σ H1 Q
section
variable {K : PySem.W.Frag} {A : Addr → Prop} {σ : L2.St} {H H' : Hp} {ta tb tc te tx tl : TE} {t u : TT} {x y z v : V} {xs ys : List V} {tr : TA} {α β γ : Type}
theorem qa_new (h : EvL te σ H xs) : EvQA K A te σ H xs := fun H1 e Q q => h H1 e Q fun p H2 hp e2 h2 => q p H2 e2 (.inr hp) (slof h2)
theorem qa_old {a : Addr} (h : Ev te σ H (.ref a)) (hs : SL K H a xs) (ha : A a) : EvQA K A te σ H xs := fun H1 e Q q => h H1 e Q fun H2 e2 => q a H2 e2 (.inl ha) (exl (e.trans e2) hs)
theorem qt_new (h : EvU te σ H xs) : EvQT K A te σ H xs := fun H1 e Q q => h H1 e Q fun p H2 hp e2 h2 => q p H2 e2 (.inr hp) (stof h2)
theorem qt_old {a : Addr} (h : Ev te σ H (.ref a)) (hs : ST K H a xs) (ha : A a) : EvQT K A te σ H xs := fun H1 e Q q => h H1 e Q fun H2 e2 => q a H2 e2 (.inl ha) (ext (e.trans e2) hs)
theorem i_list {l : List α} {gv : α → V} {j : Nat} (h : EvQA K A tl σ H (l.map gv)) : EvI A (iList K tl) (gName j) σ H l (fun x s => s.set j (some (gv x))) := fun H1 e R q =>
  h H1 e _ fun a H2 e2 ha hs => have hs := hs.q; ⟨a, rfl, ⟨_, hs⟩, q (Itl K a) H2 (fun H => SqL K H a (l.map gv)) [a] e2 (by simpa using ha) hs (fun s Ha Hb x n g => x.lq (n a (by simp)) g)
    ⟨fun i H hi g => ⟨_, gv l[i], g, by simp [hi]⟩, fun H g => ⟨_, g, by simp⟩, fun i H x H' σ K hi g y k => by
      obtain ⟨e1, y⟩ := y
      subst e1
      have := y _ g
      simp [hi] at this
      subst this
      exact k H' (Ex.refl _)⟩⟩
theorem i_tup {l : List α} {gv : α → V} {j : Nat} (h : EvQT K A tl σ H (l.map gv)) : EvI A (iTup K tl) (gName j) σ H l (fun x s => s.set j (some (gv x))) := fun H1 e R q =>
  h H1 e _ fun a H2 e2 ha hs => have hs := hs.q; ⟨a, rfl, ⟨_, hs⟩, q (Itt K a) H2 (fun H => SqT K H a (l.map gv)) [a] e2 (by simpa using ha) hs (fun s Ha Hb x n g => x.tq (n a (by simp)) g)
    ⟨fun i H hi g => ⟨_, gv l[i], g, by simp [hi]⟩, fun H g => ⟨_, g, by simp⟩, fun i H x H' σ K hi g y k => by
      obtain ⟨e1, y⟩ := y
      subst e1
      have := y _ g
      simp [hi] at this
      subst this
      exact k H' (Ex.refl _)⟩⟩
theorem i_tupV {j : Nat} (h : EvQT K A tl σ H xs) : EvI A (iTup K tl) (gName j) σ H xs (fun x s => s.set j (some x)) := by
  have := i_tup (l := xs) (gv := fun x => x) (j := j) (by rw [List.map_id']; exact h)
  exact this
theorem i_listV {j : Nat} (h : EvQA K A tl σ H xs) : EvI A (iList K tl) (gName j) σ H xs (fun x s => s.set j (some x)) := by
  have := i_list (l := xs) (gv := fun x => x) (j := j) (by rw [List.map_id']; exact h)
  exact this
theorem i_str {l : Row} {j : Nat} (h : Ev te σ H (VS l)) : EvI A (iStr te) (gName j) σ H l (fun c s => s.set j (some (VS [c]))) := fun H1 e R q =>
  h H1 e _ fun H2 e2 => ⟨S l, rfl, q (Its (S l)) H2 (fun _ => True) [] e2 (by simp) trivial (fun _ _ _ _ _ _ => trivial)
    ⟨fun i H hi _ => by show i < l.toArray.size; simpa using hi, fun H _ => by show l.toArray.size ≤ l.length; simp, fun i H x H' σ K hi _ y k => by
      obtain ⟨e1, c, ec, e3⟩ := y
      subst e1
      have ec : l.toArray[i]? = some c := ec
      simp [hi] at ec
      subst ec e3
      exact k H' (Ex.refl _)⟩⟩
theorem i_rng1 {ta : TA} {n : Int} {j : Nat} (h : EvA ta σ H [.int n]) (hn : -1000000 ≤ n ∧ n ≤ 1000000) : EvI A (iRng1 ta) (gName j) σ H (List.range n.toNat) (fun (i : Nat) s => s.set j (some (.int (i : Int)))) := fun H1 e R q =>
  h H1 e _ fun H2 e2 => ⟨n, rfl, by omega, by omega, q (Itr 0 n.toNat) H2 (fun _ => True) [] e2 (by simp) trivial (fun _ _ _ _ _ _ => trivial)
    ⟨fun i H hi _ => by show i < n.toNat; simpa using hi, fun H _ => by show n.toNat ≤ _; simp, fun i H x H' σ K hi _ y k => by
      obtain ⟨e1, e3⟩ := y
      subst e1 e3
      simp only [List.getElem_range] at k
      show K (σ.set j (some (.int (0 + (i : Int))))) H'
      rw [Int.zero_add]
      exact k H' (Ex.refl _)⟩⟩
theorem i_rng2 {ta : TA} {lo n : Int} {j : Nat} (h : EvA ta σ H [.int lo, .int n]) (hn : -1000000 ≤ n ∧ n ≤ 1000000) (hl : -1000000 ≤ lo ∧ lo ≤ 1000000) : EvI A (iRng2 ta) (gName j) σ H (List.range (n - lo).toNat) (fun (i : Nat) s => s.set j (some (.int (lo + (i : Int))))) := fun H1 e R q =>
  h H1 e _ fun H2 e2 => ⟨lo, n, rfl, ⟨by omega, by omega, by omega, by omega⟩, q (Itr lo (n - lo).toNat) H2 (fun _ => True) [] e2 (by simp) trivial (fun _ _ _ _ _ _ => trivial)
    ⟨fun i H hi _ => by show i < (n - lo).toNat; simpa using hi, fun H _ => by show (n - lo).toNat ≤ _; simp, fun i H x H' σ K hi _ y k => by
      obtain ⟨e1, e3⟩ := y
      subst e1 e3
      simp only [List.getElem_range] at k
      exact k H' (Ex.refl _)⟩⟩
theorem zip_get {l : List α} {m : List β} {i : Nat} (hi : i < (l.zip m).length) : ∃ (h1 : i < l.length) (h2 : i < m.length), (l.zip m)[i] = (l[i], m[i]) := by
  rw [List.length_zip] at hi
  exact ⟨by omega, by omega, List.getElem_zip⟩
theorem gTup2 {g1 g2 : TG} {T : Addr} {H : Hp} {σ : L2.St} {K' : L2.St → Hp → Prop} (hT : SqT K H T [x, y]) (k : g1 x σ H fun σ' H' => g2 y σ' H' K') : gTup K 2 (gCons g1 (gCons g2 gNil)) (.ref T) σ H K' :=
  ⟨T, [x, y], rfl, hT, rfl, x, [y], rfl, by
    show g1 x σ H _
    have : (fun σ' H' => g2 y σ' H' K') = fun σ' H' => gCons g2 gNil [y] σ' H' K' := by
      funext σ' H'
      apply propext
      constructor
      · intro h
        refine ⟨y, [], rfl, ?_⟩
        have : (fun σ' H' => gNil [] σ' H' K') = K' := by
          funext a b
          apply propext
          exact ⟨fun h => h.2, fun h => ⟨rfl, h⟩⟩
        rw [this]; exact h
      · rintro ⟨v, r, e, h⟩
        injection e with e1 e2
        subst e1 e2
        have : (fun σ' H' => gNil [] σ' H' K') = K' := by
          funext a b
          apply propext
          exact ⟨fun h => h.2, fun h => ⟨rfl, h⟩⟩
        rw [this] at h; exact h
    rw [← this]; exact k⟩
theorem gTup2n {j1 j2 : Nat} {T : Addr} {H : Hp} {σ : L2.St} {K' : L2.St → Hp → Prop} (hT : SqT K H T [x, y]) (k : K' ((σ.set j1 (some x)).set j2 (some y)) H) : gTup K 2 (gCons (gName j1) (gCons (gName j2) gNil)) (.ref T) σ H K' :=
  ⟨T, [x, y], rfl, hT, rfl, x, [y], rfl, y, [], rfl, rfl, k⟩
theorem gTup3n {j1 j2 j3 : Nat} {T : Addr} {H : Hp} {σ : L2.St} {K' : L2.St → Hp → Prop} (hT : SqT K H T [x, y, z]) (k : K' (((σ.set j1 (some x)).set j2 (some y)).set j3 (some z)) H) : gTup K 3 (gCons (gName j1) (gCons (gName j2) (gCons (gName j3) gNil))) (.ref T) σ H K' :=
  ⟨T, [x, y, z], rfl, hT, rfl, x, [y, z], rfl, y, [z], rfl, z, [], rfl, rfl, k⟩
theorem i_zip {l : List α} {m : List β} {g1 : α → V} {g2 : β → V} {j1 j2 : Nat} (h1 : EvQA K A ta σ H (l.map g1)) (h2 : EvQA K A tb σ H (m.map g2)) :
    EvI A (iZip K (tCons ta (tCons tb tNil))) (gTup K 2 (gCons (gName j1) (gCons (gName j2) gNil))) σ H (l.zip m) (fun p s => (s.set j1 (some (g1 p.1))).set j2 (some (g2 p.2))) := fun H1 e R q =>
  h1 H1 e _ fun a H2 e2 ha hs => have hs := hs.q; h2 H2 (e.trans e2) _ fun b H3 e3 hb ht => have ht := ht.q; ⟨a, b, _, _, rfl, ex_l e3 hs, ht, q (Itz K a b) H3 (fun H => SqL K H a (l.map g1) ∧ SqL K H b (m.map g2)) [a, b] (e2.trans e3)
    (by
      intro c hc
      rcases List.mem_cons.mp hc with rfl | hc
      · exact ha
      · obtain rfl := List.mem_singleton.mp hc
        rcases hb with hb | hb
        · exact .inl hb
        · exact .inr (fresh_back e2 hb)) ⟨ex_l e3 hs, ht⟩ (fun s Ha Hb x n g => ⟨x.lq (n a (by simp)) g.1, x.lq (n b (by simp)) g.2⟩)
    ⟨fun i H hi g => by
      obtain ⟨p1, p2, _⟩ := zip_get hi
      exact ⟨_, _, g1 l[i], g2 m[i], g.1, g.2, by simp [p1], by simp [p2]⟩, fun H g => ⟨_, _, g.1, g.2, by
      rw [List.length_map, List.length_map, List.length_zip]; omega⟩, fun i H x H' σ K hi g y k => by
      obtain ⟨p1, p2, e1⟩ := zip_get hi
      obtain ⟨T, x1, x2, rfl, hT, rfl, y1, y2⟩ := y
      have y1 := y1 _ g.1
      have y2 := y2 _ g.2
      simp [p1] at y1
      simp [p2] at y2
      subst y1 y2
      rw [e1] at k
      exact gTup2n (st_of upd_same) (k _ (Ex.new hT))⟩⟩
theorem i_zipSS {l m : Row} {j1 j2 : Nat} (h1 : Ev ta σ H (VS l)) (h2 : Ev tb σ H (VS m)) :
    EvI A (iZipSS (tCons ta (tCons tb tNil))) (gTup K 2 (gCons (gName j1) (gCons (gName j2) gNil))) σ H (l.zip m) (fun p s => (s.set j1 (some (VS [p.1]))).set j2 (some (VS [p.2]))) := fun H1 e R q =>
  h1 H1 e _ fun H2 e2 => h2 H2 (e.trans e2) _ fun H3 e3 => ⟨S l, S m, rfl, q (ItzS (S l) (S m)) H3 (fun _ => True) [] (e2.trans e3) (by simp) trivial (fun _ _ _ _ _ _ => trivial)
    ⟨fun i H hi _ => by
      obtain ⟨p1, p2, _⟩ := zip_get hi
      show i < l.toArray.size ∧ i < m.toArray.size
      simpa using ⟨p1, p2⟩, fun H _ => by
      show l.toArray.size ≤ _ ∨ m.toArray.size ≤ _
      simp only [List.size_toArray, List.length_zip]; omega, fun i H x H' σ K hi _ y k => by
      obtain ⟨p1, p2, e1⟩ := zip_get hi
      obtain ⟨T, c, d, rfl, hT, rfl, y1, y2⟩ := y
      have y1 : l.toArray[i]? = some c := y1
      have y2 : m.toArray[i]? = some d := y2
      simp [p1] at y1
      simp [p2] at y2
      subst y1 y2
      rw [e1] at k
      exact gTup2n (st_of upd_same) (k _ (Ex.new hT))⟩⟩
theorem i_enum {l : List α} {g1 : α → V} {j1 j2 : Nat} (h1 : EvQA K A ta σ H (l.map g1)) :
    EvI A (iEnum K (tCons ta tNil)) (gTup K 2 (gCons (gName j1) (gCons (gName j2) gNil))) σ H (l.zipIdx) (fun p s => (s.set j1 (some (.int (p.2 : Nat)))).set j2 (some (g1 p.1))) := fun H1 e R q =>
  h1 H1 e _ fun a H2 e2 ha hs => have hs := hs.q; ⟨a, _, rfl, hs, q (Ite K a) H2 (fun H => SqL K H a (l.map g1)) [a] e2 (by simpa using ha) hs (fun s Ha Hb x n g => x.lq (n a (by simp)) g)
    ⟨fun i H hi g => by
      rw [List.length_zipIdx] at hi
      exact ⟨_, g1 l[i], g, by simp [hi]⟩, fun H g => ⟨_, g, by simp⟩, fun i H x H' σ K hi g y k => by
      have hi' : i < l.length := by rw [List.length_zipIdx] at hi; exact hi
      obtain ⟨T, x2, rfl, hT, rfl, y2⟩ := y
      have y2 := y2 _ g
      simp [hi'] at y2
      subst y2
      have k := k (upd H T (.tup [.int (i : Nat), g1 l[i]])) (Ex.new hT)
      simp only [List.getElem_zipIdx, Nat.zero_add] at k
      exact gTup2n (st_of upd_same) k⟩⟩
theorem i_zip3 {l : List α} {m : List β} {n : List γ} {g1 : α → V} {g2 : β → V} {g3 : γ → V} {j1 j2 j3 : Nat} (h1 : EvQA K A ta σ H (l.map g1)) (h2 : EvQA K A tb σ H (m.map g2)) (h3 : EvQA K A tc σ H (n.map g3)) :
    EvI A (iZip3 K (tCons ta (tCons tb (tCons tc tNil)))) (gTup K 3 (gCons (gName j1) (gCons (gName j2) (gCons (gName j3) gNil)))) σ H (l.zip (m.zip n)) (fun p s => ((s.set j1 (some (g1 p.1))).set j2 (some (g2 p.2.1))).set j3 (some (g3 p.2.2))) := fun H1 e R q =>
  h1 H1 e _ fun a H2 e2 ha hs => have hs := hs.q; h2 H2 (e.trans e2) _ fun b H3 e3 hb ht => have ht := ht.q; h3 H3 ((e.trans e2).trans e3) _ fun c H4 e4 hc hu => have hu := hu.q; ⟨a, b, c, _, _, _, rfl, ex_l (e3.trans e4) hs, ex_l e4 ht, hu,
    q (Itz3 K a b c) H4 (fun H => SqL K H a (l.map g1) ∧ SqL K H b (m.map g2) ∧ SqL K H c (n.map g3)) [a, b, c] ((e2.trans e3).trans e4)
    (by
      intro d hd
      simp only [List.mem_cons, List.not_mem_nil, or_false] at hd
      rcases hd with rfl | rfl | rfl
      · exact ha
      · rcases hb with hb | hb
        · exact .inl hb
        · exact .inr (fresh_back e2 hb)
      · rcases hc with hc | hc
        · exact .inl hc
        · exact .inr (fresh_back (e2.trans e3) hc)) ⟨ex_l (e3.trans e4) hs, ex_l e4 ht, hu⟩ (fun s Ha Hb x n g => ⟨x.lq (n a (by simp)) g.1, x.lq (n b (by simp)) g.2.1, x.lq (n c (by simp)) g.2.2⟩)
    ⟨fun i H hi g => by
      obtain ⟨p1, p2, _⟩ := zip_get hi
      obtain ⟨p3, p4, _⟩ := zip_get p2
      exact ⟨_, _, _, g1 l[i], g2 m[i], g3 n[i], g.1, g.2.1, g.2.2, by simp [p1], by simp [p3], by simp [p4]⟩, fun H g => ⟨_, _, _, g.1, g.2.1, g.2.2, by
      simp only [List.length_map, List.length_zip]; omega⟩, fun i H x H' σ K hi g y k => by
      obtain ⟨p1, p2, e1⟩ := zip_get hi
      obtain ⟨p3, p4, e2⟩ := zip_get p2
      obtain ⟨T, x1, x2, x3, rfl, hT, rfl, y1, y2, y3⟩ := y
      have y1 := y1 _ g.1
      have y2 := y2 _ g.2.1
      have y3 := y3 _ g.2.2
      simp [p1] at y1
      simp [p3] at y2
      simp [p4] at y3
      subst y1 y2 y3
      rw [e1, e2] at k
      exact gTup3n (st_of upd_same) (k _ (Ex.new hT))⟩⟩

/-! ### comprehensions -/
theorem wipe_one (σ : L2.St) (j : Nat) (y : Option V) : wipe ((wipe σ [j]).set j y) [j] = wipe σ [j] := by
  show (((σ.set j none).set j y).set j none) = σ.set j none
  rw [List.set_set, List.set_set]
theorem wipe_two (σ : L2.St) {i j : Nat} (h : i ≠ j) (y z : Option V) : wipe (((wipe σ [i, j]).set i y).set j z) [i, j] = wipe σ [i, j] := by
  show (((((σ.set j none).set i none).set i y).set j z).set j none).set i none = (σ.set j none).set i none
  rw [List.set_set, List.set_set, List.set_comm _ _ h, List.set_set, List.set_set]
/-- l gone through so far: what stands at Dl -/
def CwL (H : Hp) (Dl : Addr) (acc : List V) (H' : Hp) : Prop := H Dl = none ∧ Ex H H' ∧ H' Dl = some (.lst acc)
theorem el_lc {l : List α} {b : α → Bool} {f : α → V} {wi : TI} {g : TG} {τ : α → L2.St → L2.St} {vs : List Nat} (src : EvI (fun _ => True) wi g σ H l τ) (hz : l.length ≤ 40000) (hw : ∀ x, wipe (τ x (wipe σ vs)) vs = wipe σ vs)
    (ht : ∀ x ∈ l, ∀ H1, Ex H H1 → EvT t (τ x (wipe σ vs)) H1 (b x)) (he : ∀ x ∈ l, b x = true → ∀ H1, Ex H H1 → Ev te (τ x (wipe σ vs)) H1 (f x)) : EvL (tLc wi g t te vs) σ H ((l.filter b).map f) := fun H0 e Q q =>
  src H0 e _ fun J H1 Gd fp e1 hfp gd0 stay S Dl hD => by
    refine ⟨fun i m H' => m = l.length - i ∧ i ≤ l.length ∧ CwL H1 Dl (((l.take i).filter b).map f) H', ⟨l.length, by simp, Nat.zero_le _, hD, Ex.new hD, upd_same⟩, ?_⟩
    rintro i m H' ⟨rfl, hi, p1, p2, p3⟩
    have gd : Gd H' := stay [] H1 H' (fun a o _ h => p2 a o h) (fun _ _ => by simp) gd0
    by_cases hlt : i < l.length
    · refine .inr ⟨S.go i H' hlt gd, fun H'' => CwL H1 Dl (((l.take (i + 1)).filter b).map f) H'', fun H'' c => ⟨l.length - (i + 1), by omega, rfl, hlt, c⟩, fun x H2 y => ?_⟩
      refine S.yld i H' x H2 (wipe σ vs) _ hlt gd y fun H3 e3 => ⟨hw _, ?_⟩
      have eH : Ex H H3 := (e.trans e1).trans (p2.trans e3)
      have hm : l[i] ∈ l := List.getElem_mem hlt
      have hx : l.take (i + 1) = l.take i ++ [l[i]] := by rw [List.take_succ, List.getElem?_eq_getElem hlt]; rfl
      refine ht l[i] hm H3 eH H3 (Ex.refl _) _ fun H4 e4 => ?_
      cases hb : b l[i] with
      | true =>
        show te _ H4 _
        refine he l[i] hm hb H4 (eH.trans e4) H4 (Ex.refl _) _ fun H5 e5 => ⟨_, e5 _ _ (e4 _ _ (e3 _ _ p3)), ?_, p1, Ex.mut (((p2.trans e3).trans e4).trans e5) p1, ?_⟩
        · refine sz_lt ?_
          rw [List.length_map]
          have := List.length_filter_le b (l.take i)
          rw [List.length_take] at this
          omega
        · rw [upd_same, hx, List.filter_append, List.map_append, List.filter_cons, if_pos hb]
          rfl
      | false =>
        show CwL H1 Dl _ H4
        refine ⟨p1, (p2.trans e3).trans e4, ?_⟩
        rw [hx, List.filter_append, List.filter_cons, if_neg (by rw [hb]; decide), List.filter_nil, List.append_nil]
        exact e4 _ _ (e3 _ _ p3)
    · have ei : i = l.length := by omega
      subst ei
      rw [List.take_length] at p3
      exact .inl ⟨S.stop H' gd, q Dl H' (fresh_back e1 p1) (e1.trans p2) p3⟩
theorem el_lc1 {l : List α} {f : α → V} {wi : TI} {g : TG} {τ : α → L2.St → L2.St} {vs : List Nat} (src : EvI (fun _ => True) wi g σ H l τ) (hz : l.length ≤ 40000) (hw : ∀ x, wipe (τ x (wipe σ vs)) vs = wipe σ vs)
    (he : ∀ x ∈ l, ∀ H1, Ex H H1 → Ev te (τ x (wipe σ vs)) H1 (f x)) : EvL (tLc wi g tYes te vs) σ H (l.map f) := by
  have := el_lc (b := fun _ => true) (t := tYes) (te := te) (f := f) src hz hw (fun x _ H1 _ H2 _ Q q => q H2 (Ex.refl _)) (fun x hx _ => he x hx)
  rwa [List.filter_eq_self.mpr (fun _ _ => rfl)] at this

/-! ### loops -/
variable {D : Ends} {tu tw tz : TS} {g : TG}
theorem s_for {s : List Addr} {l : List α} {wi : TI} {τ : α → L2.St → L2.St} (src : EvI (· ∉ s) wi g σ H l τ) (hs : ∀ a ∈ s, H a ≠ none)
    (k : ∀ H1, Ex H H1 → ∃ Pv : Nat → L2.St → Hp → Prop, Pv 0 σ H1 ∧ (∀ i σ' H', Pv i σ' H' → Xb s H1 H') ∧
      (∀ i x σ' H' H2, l[i]? = some x → Pv i σ' H' → Ex H' H2 → tu { D with nx := Pv (i + 1), ct := Pv (i + 1), bk := D.nx } (τ x σ') H2) ∧ (∀ σ' H', Pv l.length σ' H' → D.nx σ' H')) : tFor wi g tu D σ H :=
  src H (Ex.refl H) _ fun J H1 Gd fp e1 hfp gd0 stay S => by
    obtain ⟨Pv, h0, hx, hst, hd⟩ := k H1 e1
    refine ⟨fun i m σ' H' => m = l.length - i ∧ i ≤ l.length ∧ Pv i σ' H', ⟨l.length, by simp, Nat.zero_le _, h0⟩, ?_⟩
    rintro i m σ' H' ⟨rfl, hi, p⟩
    have gd : Gd H' := stay s H1 H' (hx i σ' H' p) (fun a ha hm => by
      rcases hfp a ha with h | h
      · exact h hm
      · exact hs a hm h) gd0
    by_cases hlt : i < l.length
    · refine .inr ⟨S.go i H' hlt gd, Pv (i + 1), fun σ'' H'' c => ⟨l.length - (i + 1), by omega, rfl, hlt, c⟩, fun x H2 y => ?_⟩
      exact S.yld i H' x H2 σ' _ hlt gd y fun H3 e3 => hst i l[i] σ' H' H3 (by simp [hlt]) p e3
    · have ei : i = l.length := by omega
      subst ei
      exact .inl ⟨S.stop H' gd, hd σ' H' p⟩
theorem q_for {s : List Addr} {l : List α} {wi : TI} {τ : α → L2.St → L2.St} (src : EvI (· ∉ s) wi g σ H l τ) (hs : ∀ a ∈ s, H a ≠ none)
    (k : ∀ H1, Ex H H1 → ∃ Pv : Nat → L2.St → Hp → Prop, Pv 0 σ H1 ∧ (∀ i σ' H', Pv i σ' H' → Xb s H1 H') ∧
      (∀ i x σ' H' H2, l[i]? = some x → Pv i σ' H' → Ex H' H2 → tu { D with nx := Pv (i + 1), ct := Pv (i + 1), bk := tz D } (τ x σ') H2) ∧ (∀ σ' H', Pv l.length σ' H' → tz D σ' H')) : tSeq (tFor wi g tu) tz D σ H :=
  s_for (D := { D with nx := tz D }) src hs k

/-- d while it is walked -/
def Lk (H : Hp) (d : Addr) (r : Dic) (od : Obj) : Hp := upd H d (.frz od (.dK (DS r)))
theorem lk_back {r : Dic} {d : Addr} {od : Obj} (hd : H d = some (.dK (DS r))) {H' : Hp} (e : Ex (Lk H d r od) H') : H' d = some (.frz od (.dK (DS r))) ∧ Ex H (upd H' d (.dK (DS r))) := ⟨e d _ upd_same, fun a o h => by
  by_cases ha : a = d
  · subst ha; rw [upd_same, ← hd, h]
  · rw [upd_ne ha]; exact e a o (by unfold Lk; rw [upd_ne ha]; exact h)⟩
/-- for row, letter in d.items(): .., a body that changes nothing -/
theorem s_items {r : Dic} {d : Addr} {td : TE} {j1 j2 : Nat} {Pv : Nat → L2.St → Prop} (hd : H d = some (.dK (DS r))) (ht : ∀ od, Ev td σ (Lk H d r od) (.ref d)) (h0 : Pv 0 σ)
    (hs : ∀ od i p σ' H', r[i]? = some p → Pv i σ' → Ex (Lk H d r od) H' →
      tu ⟨fun σ2 H2 => Ex (Lk H d r od) H2 ∧ Pv (i + 1) σ2, fun v H2 => H2 d = some (.frz od (.dK (DS r))) ∧ D.rt v (upd H2 d (.dK (DS r))), fun σ2 H2 => H2 d = some (.frz od (.dK (DS r))) ∧ D.nx σ2 (upd H2 d (.dK (DS r))), fun σ2 H2 => Ex (Lk H d r od) H2 ∧ Pv (i + 1) σ2⟩ ((σ'.set j1 (some (VS p.1))).set j2 (some (VS p.2))) H')
    (k : ∀ σ' H', Ex H H' → Pv r.length σ' → D.nx σ' H') : tLock (tFor (iItems td) (gTup K 2 (gCons (gName j1) (gCons (gName j2) gNil))) tu) D σ H := by
  refine ⟨d, _, hd, trivial, fun od => ?_⟩
  refine ht od _ (Ex.refl _) _ fun H1 e1 => ⟨d, od, DS r, rfl, e1 d _ upd_same, ?_⟩
  refine ⟨fun i m σ' H' => m = r.length - i ∧ i ≤ r.length ∧ Ex (Lk H d r od) H' ∧ Pv i σ', ⟨r.length, by simp, Nat.zero_le _, e1, h0⟩, ?_⟩
  rintro i m σ' H' ⟨rfl, hi, ex, p⟩
  have hq := lk_back hd ex
  by_cases hlt : i < r.length
  · refine .inr ⟨⟨hq.1, by rw [DS_len]; exact hlt⟩, fun σ'' H'' => Ex (Lk H d r od) H'' ∧ Pv (i + 1) σ'', fun σ'' H'' c => ⟨r.length - (i + 1), by omega, rfl, hlt, c⟩, fun x H2 y => ?_⟩
    obtain ⟨T, kk, v, hkv, rfl, hT, rfl⟩ := y
    have hkv : (DS r)[i]? = some (kk, v) := hkv
    unfold DS at hkv
    simp [hlt] at hkv
    obtain ⟨rfl, rfl⟩ := hkv
    exact gTup2n (x := VS r[i].1) (st_of upd_same) (hs od i r[i] σ' _ (by simp [hlt]) p (ex.trans (Ex.new hT)))
  · have ei : i = r.length := by omega
    subst ei
    exact .inl ⟨⟨hq.1, by rw [DS_len]; exact Nat.le_refl _⟩, hq.1, k σ' _ hq.2 p⟩
theorem q_items {r : Dic} {d : Addr} {td : TE} {j1 j2 : Nat} {Pv : Nat → L2.St → Prop} (hd : H d = some (.dK (DS r))) (ht : ∀ od, Ev td σ (Lk H d r od) (.ref d)) (h0 : Pv 0 σ)
    (hs : ∀ od i p σ' H', r[i]? = some p → Pv i σ' → Ex (Lk H d r od) H' →
      tu ⟨fun σ2 H2 => Ex (Lk H d r od) H2 ∧ Pv (i + 1) σ2, fun v H2 => H2 d = some (.frz od (.dK (DS r))) ∧ D.rt v (upd H2 d (.dK (DS r))), fun σ2 H2 => H2 d = some (.frz od (.dK (DS r))) ∧ tz D σ2 (upd H2 d (.dK (DS r))), fun σ2 H2 => Ex (Lk H d r od) H2 ∧ Pv (i + 1) σ2⟩ ((σ'.set j1 (some (VS p.1))).set j2 (some (VS p.2))) H')
    (k : ∀ σ' H', Ex H H' → Pv r.length σ' → tz D σ' H') : tSeq (tLock (tFor (iItems td) (gTup K 2 (gCons (gName j1) (gCons (gName j2) gNil))) tu)) tz D σ H :=
  s_items (D := { D with nx := tz D }) hd ht h0 hs k

/-! ### statements -/
theorem s_par {i j : Nat} {P1 P2 : V → Hp → Prop} (h : EvAG tr σ H [P1, P2]) (k : ∀ v w H1, Ex H H1 → P1 v H1 → P2 w H1 → D.nx ((σ.set i (some v)).set j (some w)) H1) : tPar i j tr D σ H :=
  h H (Ex.refl H) _ fun vs H1 e1 hp => by
    obtain ⟨v, r, rfl, h1, w, r', rfl, h2, rfl⟩ := hp
    exact ⟨v, w, rfl, k v w H1 e1 h1 h2⟩
theorem q_par {i j : Nat} {P1 P2 : V → Hp → Prop} (h : EvAG tr σ H [P1, P2]) (k : ∀ v w H1, Ex H H1 → P1 v H1 → P2 w H1 → tz D ((σ.set i (some v)).set j (some w)) H1) : tSeq (tPar i j tr) tz D σ H := s_par (D := { D with nx := tz D }) h k
/-- a new list, a new dict -/
def isNL (H0 : Hp) (xs : List V) : V → Hp → Prop := fun u H => ∃ p, u = .ref p ∧ H0 p = none ∧ H p = some (.lst xs)
def isND (H0 : Hp) (kvs : List (Key × V)) : V → Hp → Prop := fun u H => ∃ p, u = .ref p ∧ H0 p = none ∧ H p = some (.dK kvs)
theorem ag_NL {Ps : List (V → Hp → Prop)} (h : EvL te σ H xs) (hr : EvAG tr σ H Ps) : EvAG (tCons te tr) σ H (isNL H xs :: Ps) :=
  ag_cons (fun H1 e Q q => h H1 e Q fun p H2 hp e2 h2 => q _ H2 e2 ⟨p, rfl, fresh_back e hp, h2⟩) (fun _ _ _ e ⟨p, h1, h2, h3⟩ => ⟨p, h1, h2, e _ _ h3⟩) hr
theorem ag_ND {Ps : List (V → Hp → Prop)} {kvs : List (Key × V)} (h : EvD te σ H kvs) (hr : EvAG tr σ H Ps) : EvAG (tCons te tr) σ H (isND H kvs :: Ps) :=
  ag_cons (fun H1 e Q q => h H1 e Q fun p H2 hp e2 h2 => q _ H2 e2 ⟨p, rfl, fresh_back e hp, h2⟩) (fun _ _ _ e ⟨p, h1, h2, h3⟩ => ⟨p, h1, h2, e _ _ h3⟩) hr
theorem s_asgD {i : Nat} {kvs : List (Key × V)} (h : EvD te σ H kvs) (k : ∀ p H1, H p = none → Ex H H1 → H1 p = some (.dK kvs) → D.nx (σ.set i (some (.ref p))) H1) : tAsg te (gName i) D σ H := h H (Ex.refl H) _ fun p H1 hp e h1 => k p H1 hp e h1
theorem q_asgD {i : Nat} {kvs : List (Key × V)} (h : EvD te σ H kvs) (k : ∀ p H1, H p = none → Ex H H1 → H1 p = some (.dK kvs) → tz D (σ.set i (some (.ref p))) H1) : tSeq (tAsg te (gName i)) tz D σ H := s_asgD (D := { D with nx := tz D }) h k
theorem s_asgG {i : Nat} {P : V → Hp → Prop} (h : EvG te σ H P) (k : ∀ v H1, Ex H H1 → P v H1 → D.nx (σ.set i (some v)) H1) : tAsg te (gName i) D σ H := h H (Ex.refl H) _ fun v H1 e h1 => k v H1 e h1
theorem q_asgG {i : Nat} {P : V → Hp → Prop} (h : EvG te σ H P) (k : ∀ v H1, Ex H H1 → P v H1 → tz D (σ.set i (some v)) H1) : tSeq (tAsg te (gName i)) tz D σ H := s_asgG (D := { D with nx := tz D }) h k
theorem s_retD {kvs : List (Key × V)} (h : EvD te σ H kvs) (k : ∀ p H1, H p = none → Ex H H1 → H1 p = some (.dK kvs) → D.rt (.ref p) H1) : tRet te D σ H := h H (Ex.refl H) _ fun p H1 hp e h1 => k p H1 hp e h1
theorem s_retG {P : V → Hp → Prop} (h : EvG te σ H P) (k : ∀ v H1, Ex H H1 → P v H1 → D.rt v H1) : tRet te D σ H := h H (Ex.refl H) _ k
/-- d[k] = v, a dict of texts -/
theorem s_dput {d : Addr} {r : Dic} {a b : Row} (hd : H d = some (.dK (DS r))) (hv : Ev te σ H (VS b)) (ho : Ev ta σ H (.ref d)) (hk : Ev tb σ H (VS a)) (hz : r.length < 100000) (k : ∀ H1, Ex H H1 → D.nx σ (upd H1 d (.dK (DS (put r a b))))) : sDPut ta tb te D σ H :=
  hv H (Ex.refl H) _ fun H1 e1 => ho H1 e1 _ fun H2 e2 => hk H2 (e1.trans e2) _ fun H3 e3 => ⟨d, _, rfl, DPut.k (k := Sum.inr (S a)) (e3 _ _ (e2 _ _ (e1 _ _ hd))) (by rw [DS_len]; exact sz_lt hz), by
    rw [DS_put]
    exact k H3 ((e1.trans e2).trans e3)⟩
theorem q_dput {d : Addr} {r : Dic} {a b : Row} (hd : H d = some (.dK (DS r))) (hv : Ev te σ H (VS b)) (ho : Ev ta σ H (.ref d)) (hk : Ev tb σ H (VS a)) (hz : r.length < 100000) (k : ∀ H1, Ex H H1 → tz D σ (upd H1 d (.dK (DS (put r a b))))) : tSeq (sDPut ta tb te) tz D σ H := s_dput (D := { D with nx := tz D }) hd hv ho hk hz k
/-- a test whose answer is known -/
theorem q_ifT (h : EvT t σ H true) (k : ∀ H1, Ex H H1 → tu { D with nx := tz D } σ H1) : tSeq (tIfS t tu tw) tz D σ H := q_if h (fun _ => k) (fun e => nomatch e)
theorem q_ifF (h : EvT t σ H false) (k : ∀ H1, Ex H H1 → tw { D with nx := tz D } σ H1) : tSeq (tIfS t tu tw) tz D σ H := q_if h (fun e => nomatch e) (fun _ => k)
/-- if ..: (never) -/
theorem q_skip (h : EvT t σ H false) (k : ∀ H1, Ex H H1 → tz D σ H1) : tSeq (tIfS t tu tNext) tz D σ H := q_if h (fun e => nomatch e) (fun _ => k)
theorem s_skip (h : EvT t σ H false) (k : ∀ H1, Ex H H1 → D.nx σ H1) : tIfS t tu tNext D σ H := s_if h (fun e => nomatch e) (fun _ => k)
/-- an if without else whose ways meet in J -/
theorem q_whenJ {b : Bool} (J : L2.St → Hp → Prop) (h : EvT t σ H b) (h1 : b = true → ∀ H1, Ex H H1 → (∀ σ' H', J σ' H' → tz D σ' H') → tu { D with nx := tz D } σ H1) (h2 : b = false → ∀ H1, Ex H H1 → J σ H1)
    (k : ∀ σ' H', J σ' H' → tz D σ' H') : tSeq (tIfS t tu tNext) tz D σ H := q_when h (fun hb H1 e => h1 hb H1 e k) fun hb H1 e => k _ _ (h2 hb H1 e)
/-- an if with else whose ways meet in J -/
theorem q_ifJ {b : Bool} (J : L2.St → Hp → Prop) (h : EvT t σ H b) (h1 : b = true → ∀ H1, Ex H H1 → (∀ σ' H', J σ' H' → tz D σ' H') → tu { D with nx := tz D } σ H1)
    (h2 : b = false → ∀ H1, Ex H H1 → (∀ σ' H', J σ' H' → tz D σ' H') → tw { D with nx := tz D } σ H1)
    (k : ∀ σ' H', J σ' H' → tz D σ' H') : tSeq (tIfS t tu tw) tz D σ H := q_if h (fun hb H1 e => h1 hb H1 e k) fun hb H1 e => h2 hb H1 e k
theorem s_ret2 (h : Ev te σ H v) (k : RetV v H D.rt) : tRet te D σ H := s_ret h k
theorem s_retL2 (h : EvL te σ H xs) (k : RetL xs H D.rt) : tRet te D σ H := s_retL h k
end
theorem exh {H H' : Hp} {a : Addr} {o : HO} (e : Ex H H') (h : H a = some o) : H' a = some o := e a o h
/-- the promises, transported -/
theorem RetV.ex {v : V} {H H1 : Hp} {Q : VK} (k : RetV v H Q) (e : Ex H H1) : RetV v H1 Q := fun H2 e2 => k H2 (e.trans e2)
theorem RetL.ex {xs : List V} {H H1 : Hp} {Q : VK} (k : RetL xs H Q) (e : Ex H H1) : RetL xs H1 Q := fun p H2 hp e2 h => k p H2 (fresh_back e hp) (e.trans e2) h
end Ho

/-! Ho, part F: == of lists of texts and numbers; displays -/
namespace Ho
open PySem PySem.Spec PyProof.Rows L2 Evl

/-- codes that a text may hold -/
def SmR (r : Row) : Prop := ∀ c ∈ r, c < 1114112
def SmT (l : List Row) : Prop := ∀ r ∈ l, SmR r
def dS (r : Row) : PyData := .str (S r)
theorem strOk_S {r : Row} (h : SmR r) : PyData.strOk (S r) = true := by
  unfold PyData.strOk
  show (r.toArray).all (· < 0x110000) = true
  rw [List.all_toArray]
  simp only [List.all_eq_true, decide_eq_true_eq]
  exact h
theorem eqvAll_S : ∀ l m : List Row, PyData.eqvAll (l.map dS) (m.map dS) = decide (l = m)
  | [], [] => by simp [PyData.eqvAll]
  | [], b :: m => by simp [PyData.eqvAll]
  | a :: l, [] => by simp [PyData.eqvAll]
  | a :: l, b :: m => by
    rw [List.map_cons, List.map_cons, PyData.eqvAll, eqvAll_S l m]
    show (PyData.eqv (.str (S a)) (.str (S b)) && _) = _
    rw [PyData.eqv]
    by_cases h : a = b
    · subst h; simp
    · have : (S a == S b) = false := beq_eq_false_iff_ne.mpr fun e => h (S_inj e)
      rw [this]; simp [h]
theorem eqvAll_I : ∀ l m : List Int, PyData.eqvAll (l.map .int) (m.map .int) = decide (l = m)
  | [], [] => by simp [PyData.eqvAll]
  | [], b :: m => by simp [PyData.eqvAll]
  | a :: l, [] => by simp [PyData.eqvAll]
  | a :: l, b :: m => by
    rw [List.map_cons, List.map_cons, PyData.eqvAll, eqvAll_I l m, PyData.eqv]
    by_cases h : a = b
    · subst h; simp
    · simp [h]
theorem lay_S : ∀ l : List Row, SmT l → PyData.canLayAll0 (l.map dS) = true
  | [], _ => by simp [PyData.canLayAll0]
  | a :: l, h => by
    rw [List.map_cons, PyData.canLayAll0, lay_S l fun r hr => h r (List.mem_cons_of_mem _ hr)]
    show (PyData.canLay0 (.str (S a)) && true) = true
    rw [PyData.canLay0, strOk_S (h a List.mem_cons_self)]
    rfl
theorem lay_I : ∀ l : List Int, PyData.canLayAll0 (l.map .int) = true
  | [] => by simp [PyData.canLayAll0]
  | a :: l => by rw [List.map_cons, PyData.canLayAll0, lay_I l, PyData.canLay0]; rfl
theorem depth_S : ∀ l : List Row, PyData.depthAll (l.map dS) = 0
  | [] => by simp [PyData.depthAll]
  | a :: l => by
    rw [List.map_cons, PyData.depthAll, depth_S l]
    show max (PyData.depth (.str (S a))) 0 = 0
    rw [PyData.depth]; rfl
theorem depth_I : ∀ l : List Int, PyData.depthAll (l.map .int) = 0
  | [] => by simp [PyData.depthAll]
  | a :: l => by rw [List.map_cons, PyData.depthAll, depth_I l, PyData.depth]; rfl
theorem shaped_S {l : List Row} (h : SmT l) : SeqAt.shaped (.list (l.map dS)) = true := by
  unfold SeqAt.shaped
  rw [PyData.canLay0, lay_S l h, PyData.depth, depth_S]
  rfl
theorem shaped_I (l : List Int) : SeqAt.shaped (.list (l.map .int)) = true := by
  unfold SeqAt.shaped
  rw [PyData.canLay0, lay_I l, PyData.depth, depth_I]
  rfl
section
variable {K : PySem.W.Frag} {σ : L2.St} {H : Hp} {ta tb te : TE} {t : TT} {tr : TA} {a b : Row} {i : Int}
theorem dp_S : ∀ l : List Row, DpAll K H (l.map VS) (l.map dS)
  | [] => .nil
  | a :: l => .cons (.str (S a)) (dp_S l)
theorem dp_I : ∀ l : List Int, DpAll K H (l.map V.int) (l.map .int)
  | [] => .nil
  | a :: l => .cons (.int a) (dp_I l)
theorem ev_eqLS {l m : List Row} (h1 : EvQ K ta σ H (l.map VS)) (h2 : EvQ K tb σ H (m.map VS)) (s1 : SmT l) (s2 : SmT m) : Ev (tOp (rEqD K) ta tb) σ H (.bl (decide (l = m))) := fun H1 e Q q =>
  h1 H1 e _ fun p H2 e2 g1 => h2 H2 (e.trans e2) _ fun p' H3 e3 g2 => ⟨.list (l.map dS), .list (m.map dS), .lst (SL.q (K := K) (exl (K := K) e3 g1)) (dp_S l), .lst (SL.q g2) (dp_S m), shaped_S s1, shaped_S s2, by
    rw [PyData.eqv, eqvAll_S]; exact q H3 (e2.trans e3)⟩
theorem ev_neLS {l m : List Row} (h1 : EvQ K ta σ H (l.map VS)) (h2 : EvQ K tb σ H (m.map VS)) (s1 : SmT l) (s2 : SmT m) : Ev (tOp (rNeD K) ta tb) σ H (.bl (!decide (l = m))) := fun H1 e Q q =>
  h1 H1 e _ fun p H2 e2 g1 => h2 H2 (e.trans e2) _ fun p' H3 e3 g2 => ⟨.list (l.map dS), .list (m.map dS), .lst (SL.q (K := K) (exl (K := K) e3 g1)) (dp_S l), .lst (SL.q g2) (dp_S m), shaped_S s1, shaped_S s2, by
    rw [PyData.eqv, eqvAll_S]; exact q H3 (e2.trans e3)⟩
theorem ev_eqLI {l m : List Int} (h1 : EvQ K ta σ H (l.map V.int)) (h2 : EvQ K tb σ H (m.map V.int)) : Ev (tOp (rEqD K) ta tb) σ H (.bl (decide (l = m))) := fun H1 e Q q =>
  h1 H1 e _ fun p H2 e2 g1 => h2 H2 (e.trans e2) _ fun p' H3 e3 g2 => ⟨.list (l.map .int), .list (m.map .int), .lst (SL.q (K := K) (exl (K := K) e3 g1)) (dp_I l), .lst (SL.q g2) (dp_I m), shaped_I l, shaped_I m, by
    rw [PyData.eqv, eqvAll_I]; exact q H3 (e2.trans e3)⟩
theorem ev_neLI {l m : List Int} (h1 : EvQ K ta σ H (l.map V.int)) (h2 : EvQ K tb σ H (m.map V.int)) : Ev (tOp (rNeD K) ta tb) σ H (.bl (!decide (l = m))) := fun H1 e Q q =>
  h1 H1 e _ fun p H2 e2 g1 => h2 H2 (e.trans e2) _ fun p' H3 e3 g2 => ⟨.list (l.map .int), .list (m.map .int), .lst (SL.q (K := K) (exl (K := K) e3 g1)) (dp_I l), .lst (SL.q g2) (dp_I m), shaped_I l, shaped_I m, by
    rw [PyData.eqv, eqvAll_I]; exact q H3 (e2.trans e3)⟩

/-! ### displays -/
theorem el_nilM {α : Type} {g : α → V} : EvL (tLst tNil) σ H (List.map g []) := el_nil
theorem emS_nil : EvA tNil σ H (List.map VS []) := ea_nil
theorem emS_cons {l : List Row} (h : Ev te σ H (VS a)) (hr : EvA tr σ H (List.map VS l)) : EvA (tCons te tr) σ H (List.map VS (a :: l)) := ea_cons h hr
theorem emI_nil : EvA tNil σ H (List.map V.int []) := ea_nil
theorem emI_cons {l : List Int} (h : Ev te σ H (.int i)) (hr : EvA tr σ H (List.map V.int l)) : EvA (tCons te tr) σ H (List.map V.int (i :: l)) := ea_cons h hr
/-- {k: v, ..} of texts -/
def EvPS (trs : List (TE × TE)) (σ : L2.St) (H : Hp) (ps : Dic) : Prop := ∀ H1, Ex H H1 → ∀ Q : List (V × V) → Hp → Prop, (∀ H2, Ex H1 H2 → Q (ps.map fun p => (VS p.1, VS p.2)) H2) → tPairs trs σ H1 Q
theorem ep_nil : EvPS [] σ H [] := fun H1 _ Q q => q H1 (Ex.refl _)
theorem ep_cons {trs : List (TE × TE)} {ps : Dic} (hk : Ev ta σ H (VS a)) (hv : Ev tb σ H (VS b)) (hr : EvPS trs σ H ps) : EvPS ((ta, tb) :: trs) σ H ((a, b) :: ps) := fun H1 e Q q =>
  hk H1 e _ fun H2 e2 => hv H2 (e.trans e2) _ fun H3 e3 => hr H3 ((e.trans e2).trans e3) _ fun H4 e4 => q H4 ((e2.trans e3).trans e4)
def putAll (ps : Dic) : Dic := ps.foldl (fun acc p => put acc p.1 p.2) []
theorem mergeK_DS : ∀ (ps acc : Dic), mergeK (DS acc) (DS ps) = DS (ps.foldl (fun acc p => put acc p.1 p.2) acc)
  | [], acc => rfl
  | p :: ps, acc => by
    show mergeK (putK (DS acc) (Sum.inr (S p.1)) (VS p.2)) (DS ps) = _
    rw [DS_put, mergeK_DS ps]
    rfl
theorem ed_disp {trs : List (TE × TE)} {ps : Dic} (h : EvPS trs σ H ps) (hl : ps.length ≤ 15) : EvD (tDisp trs) σ H (DS (putAll ps)) := fun H1 e Q q => fun p hp =>
  h _ (e.trans (Ex.new hp)) _ fun H2 e2 => ⟨e2 _ _ upd_same, DS ps, by
    unfold DS
    rw [List.map_map]
    rfl, by rw [DS_len]; exact hl, by
    have := mergeK_DS ps []
    rw [DS_nil] at this
    rw [this]
    exact q p _ hp (Ex.xb0 ((Ex.new hp).trans e2) (xb_upd (p := p)) (fun a ha => by rw [List.mem_singleton.mp ha]; exact hp)) upd_same⟩
end
end Ho

/-! Ho, part G: enumerate of a text; count, order, sorting of texts; lists of lists -/
namespace Ho
open PySem PySem.Spec PyProof.Rows L2 Evl

/-! ### enumerate(text) -/
def IteS (x : Str) : It :=
  ⟨fun i _ => i < x.cps.size, fun i H v H' => ∃ T c, v = .ref T ∧ H T = none ∧ H' = upd H T (.tup [.int (i : Nat), .str ⟨#[c]⟩]) ∧ x.cps[i]? = some c, fun i _ => x.cps.size ≤ i⟩
theorem turn_enumS {P : Program} {w : World} {K : PySem.W.Frag} {elts : List Expr} {kk : Nat} {tpos : Pos} {x : Str} {t : Tok} (e it : Addr) :
    Turn P w K (.Tuple elts kk tpos) (IteS x) [e, it] e (fun i h => i ≤ x.cps.size ∧ (∃ old, IsEnum h e it ((i : Nat) : Int) old) ∧ h.IsStrIter it (strIterType x) x t i ∧ e ≠ it) where
  mem := by simp
  obj := fun i h st b hb => by
    obtain ⟨_, ⟨old, he⟩, ⟨o, ho, hc, hd⟩, _⟩ := st
    have e' : b = e ∨ b = it := by simpa using hb
    rcases e' with z | z
    · rw [z]; exact ⟨_, he, fun v q => nomatch q⟩
    · rw [z]; exact ⟨o, ho, fun v q => by rw [hd] at q; cases q⟩
  keep := fun i h h' st k => let ⟨hl, ⟨old, he⟩, hi, hne⟩ := st; ⟨hl, ⟨old, k e (by simp) _ he⟩, strit_at hi fun o q => k it (by simp) o q, hne⟩
  item := by
    intro X hP hw hK hc i pins s σ H E I hf st hg
    subst hP hw hK
    obtain ⟨_, ⟨old, he⟩, hit, hne⟩ := st
    have hg : i < x.cps.size := hg
    have hh := I.ok.hd hc
    have hel : e < s.heap.objs.size := Heap.lt_size he
    have hil : it < s.heap.objs.size := by obtain ⟨_, q, _⟩ := hit; exact Heap.lt_size q
    refine wpAny_pyNext_enum_itemD (Draws.text (A := X.A.in1) hh it x t) he hit hg hne (by simpa using hne) fun y h' tk hP ho hit' hT hsz hk => ?_
    obtain ⟨c, tc, ec, rfl⟩ := hP
    refine ⟨_, rfl, wpAny_letOwnedTupleGo_enum (s := { s with heap := h', toks := tk + 1 }) ho fun h'' he' sb => ?_⟩
    have hT2 : h''.get? s.heap.objs.size = some { cls := .type "tuple", data := .seq #[.int i tk, .str ⟨#[c]⟩ tc] } := (sb.2 _ (Nat.ne_of_gt hel)).trans hT
    have new : ObjOk X.prog X.w (upd H s.heap.objs.size (.tup [.int (i : Nat), .str ⟨#[c]⟩])) h'' s.heap.objs.size (.tup [.int (i : Nat), .str ⟨#[c]⟩]) :=
      ⟨by show 2 ≤ sizeLine; decide, [.int i tk, .str ⟨#[c]⟩ tc], .cons ⟨_, rfl⟩ (.cons ⟨_, rfl⟩ .nil), ⟨_, hT2, rfl, _, rfl⟩⟩
    have I1 : Inv X pins σ (upd H s.heap.objs.size (.tup [.int (i : Nat), .str ⟨#[c]⟩])) { s with heap := h'', toks := tk + 1 } :=
      I.turnedNew (ch := [e, it]) (fun b ob hb q => (sb.2 b (fun z => hb (by simp [z]))).trans (hk b ob (fun z => hb (by simp [z])) (fun z => hb (by simp [z])) q)) hf (Nat.le_refl _) new
    refine ⟨.ref s.heap.objs.size, _, I1, rfl, ⟨_, c, rfl, I.hok.fresh (Nat.le_refl _), rfl, ec⟩, ⟨hg, ⟨.str ⟨#[c]⟩ tc, ?_⟩, strit_at hit' fun o q => (sb.2 it (Ne.symm hne)).trans q, hne⟩, fun b hb => ?_⟩
    · have e1 : ((i + 1 : Nat) : Int) = (i : Int) + 1 := by omega
      rw [e1]; exact he'
    · have hb' : b < s.heap.objs.size := by
        have e' : b = e ∨ b = it := by simpa using hb
        rcases e' with z | z
        · rw [z]; exact hel
        · rw [z]; exact hil
      rw [upd_ne (Nat.ne_of_lt hb')]
      exact (hf b hb).1
  done := by
    intro X hP hw hK hc i pins s σ H E I hf st hg
    subst hP hw hK
    obtain ⟨hl, ⟨old, he⟩, hit, hne⟩ := st
    have hg : x.cps.size ≤ i := hg
    have hi : i = x.cps.size := Nat.le_antisymm hl hg
    subst hi
    obtain ⟨f0, f1, f2, f3, f4, f5⟩ := hf it (by simp)
    exact wpAny_pyNext_enum_endD (Draws.text (A := X.A.in1) (I.ok.hd hc) it x t) he hit fun h' eb => ⟨rfl, I.turned (t' := s.toks) (fun b o hb q => eb b o hb q) f0 f1 f3 f4 f5⟩
  self := fun A i s Q E st h => let ⟨_, ⟨_, he⟩, _⟩ := st; wpAny_pyIter_enum he h
def iEnumS (ta : TA) : TI := fun σ H R => ta σ H fun vs H1 => ∃ x, vs = [.str x] ∧ R (IteS x) H1
theorem pi_enumS {X : Cx} {e : Expr} {ta : TA} {p pos tpos : Pos} {elts : List Expr} {kk : Nat} (hg : Gl X "enumerate") (hm : X.mg "enumerate" = none) (ha : PA X [e] ta) (hs : starEach [e] X.env = [(false, eval e X.env)] := by rfl) :
    PI X (.Tuple elts kk tpos) (.Call (.Name "enumerate" p) [e] [] pos) (iEnumS ta) := by
  refine ⟨fun pins s σ H R I h => ?_⟩
  refine Call_ (ld_blt I hg hm boot_enumerate (PyProof.Rows.callWith_type1 (thn (ha.run pos pins s σ H _ I h) fun us s1 ⟨vs, H1, I1, r1, q1⟩ => ?_) hs rfl))
  obtain ⟨x, ex, q⟩ := q1
  subst ex
  cases r1 with
  | cons r rr =>
    cases rr
    obtain ⟨t, rfl⟩ := r
    refine call_enumerate_str fun h' he hit hsz hk => wpAny_pyIter_enum he ?_
    have I2 : Inv X pins σ H1 { s1 with heap := h' } := I1.kept (t' := s1.toks) hk
    refine ⟨s1.heap.objs.size + 1, [s1.heap.objs.size + 1, s1.heap.objs.size], _, _, H1, rfl, I2, turn_enumS (t := t) (s1.heap.objs.size + 1) s1.heap.objs.size, ⟨Nat.zero_le _, ⟨.none, he⟩, hit, Nat.succ_ne_self _⟩, fun b hb => ?_, q⟩
    have e' : b = s1.heap.objs.size + 1 ∨ b = s1.heap.objs.size := by simpa using hb
    have hle : s1.heap.objs.size ≤ b := by
      rcases e' with z | z
      · rw [z]; exact Nat.le_add_right _ _
      · rw [z]; exact Nat.le_refl _
    exact I1.fpOk hle (I1.hok.fresh hle)

/-! ### xs.count(x), flat items -/
def rCntG (K : PySem.W.Frag) : V → List V → Hp → VK → Prop := fun x xs H Q => ∃ (p : Addr) (ys : List V) (y : V), x = .ref p ∧ xs = [y] ∧ SqL K H p ys ∧ flatV y = true ∧ ys.all flatV = true ∧ Q (.int (ys.countP fun z => eqV z y : Nat)) H
theorem count_eqU {x : V} : ∀ {xs : List V} {us : List Value}, Vals xs us → xs.all flatV = true → us.countP (eqU x) = xs.countP fun y => eqV y x
  | _, _, .nil, _ => rfl
  | y :: xs, u :: us, .cons r t, f => by
    rw [List.all_cons, Bool.and_eq_true] at f
    rw [List.countP_cons, List.countP_cons, eqU_of r f.1, count_eqU t f.2]
theorem kmt_lcount {X : Cx} {K : PySem.W.Frag} (hK : X.K = K := by rfl) : MtR X "list.count" (rCntG K) := by
  subst hK
  intro pins s σ H x xs v us Q I rx rxs h
  obtain ⟨p, ys, y, rfl, rfl, hs, fy, fs, q⟩ := h
  cases rx
  obtain ⟨u, rfl, ru⟩ := rxs.one
  obtain ⟨its, rv, ⟨⟨cls, dd, data, sl⟩, n, ho, hc, hdn, hd⟩, hlen⟩ := I.list hs
  simp only at hc hd
  subst hc hd
  refine call_meets PySem.F.slot_list_count ⟨_, ho, rfl⟩ PySem.F.entry_list_count (PySem.F.args_list_count_2 _ _)
    (SeqAt.list_countAt p its.toArray n dd sl u (eqU y)) ⟨ho, fun z hz => mem_eqAt ru fy rv fs z (by simpa using hz), ?_⟩
  refine ⟨.int (ys.countP fun z => eqV z y : Nat), H, I.tok _, ⟨s.toks, ?_⟩, q⟩
  show Value.int ((its.toArray.toList.countP (eqU y) : Nat) : Int) s.toks = _
  rw [show its.toArray.toList = its from rfl, count_eqU rv fs]

/-! ### texts: order -/
theorem lt_iff_ltCps : ∀ (a b : Row), PySem.Spec.ltCps a b = decide (a < b)
  | [], [] => by simp [PySem.Spec.ltCps]
  | [], _ :: _ => by simp [PySem.Spec.ltCps]
  | _ :: _, [] => by simp [PySem.Spec.ltCps]
  | a :: r, b :: t => by
    unfold PySem.Spec.ltCps
    rw [lt_iff_ltCps r t, Bool.eq_iff_iff]
    simp [List.cons_lt_cons_iff]
def rising : List Row → Prop
  | [] => True
  | a :: r => (∀ b ∈ r, ¬ b < a) ∧ rising r
theorem row_le_trans {a b c : Row} (h1 : ¬ b < a) (h2 : ¬ c < b) : ¬ c < a := List.not_lt.mpr (List.le_trans (List.not_lt.mp h1) (List.not_lt.mp h2))
theorem risingS_rows : ∀ (p : Row) (l : List Row), risingS (S p) (l.map S) = true → (∀ b ∈ l, ¬ b < p) ∧ rising l
  | p, [], _ => ⟨fun b hb => (nomatch hb), trivial⟩
  | p, a :: r, h => by
    have h : (!PySem.Spec.ltCps a p && risingS (S a) (r.map S)) = true := h
    rw [Bool.and_eq_true, lt_iff_ltCps] at h
    have ih := risingS_rows a r h.2
    have hp : ¬ a < p := by simpa using h.1
    refine ⟨fun b hb => ?_, ih.1, ih.2⟩
    rcases List.mem_cons.mp hb with rfl | hb
    · exact hp
    · exact row_le_trans hp (ih.1 b hb)
theorem sortedS_rows : ∀ (l : List Row), sortedS (l.map S) = true → rising l
  | [], _ => trivial
  | a :: r, h => ⟨(risingS_rows a r h).1, (risingS_rows a r h).2⟩
theorem rising_perm : ∀ {l m : List Row}, rising l → rising m → l.Perm m → l = m
  | [], m, _, _, p => (List.perm_nil.mp p.symm).symm
  | a :: r, [], _, _, p => by simpa using p
  | a :: r, b :: t, h1, h2, p => by
    have e : a = b := by
      have ha : a ∈ b :: t := p.subset List.mem_cons_self
      have hb : b ∈ a :: r := p.symm.subset List.mem_cons_self
      rcases List.mem_cons.mp ha with e | ha
      · exact e
      · rcases List.mem_cons.mp hb with e | hb
        · exact e.symm
        · have q1 := h1.1 b hb
          have q2 := h2.1 a ha
          exact List.le_antisymm (List.not_lt.mp q1) (List.not_lt.mp q2)
    subst e
    rw [rising_perm h1.2 h2.2 (List.Perm.cons_inv p)]
theorem map_S_inj : ∀ {ys : List Str} {l : List Row}, ys.Perm (l.map S) → ∃ m : List Row, ys = m.map S ∧ m.Perm l := by
  intro ys l p
  refine ⟨ys.map fun z => z.cps.toList, ?_, ?_⟩
  · rw [List.map_map]
    have : (S ∘ fun z : Str => z.cps.toList) = id := by
      funext z
      show (⟨z.cps.toList.toArray⟩ : Str) = z
      cases z
      simp
    rw [this, List.map_id]
  · have := p.map fun z : Str => z.cps.toList
    rw [List.map_map] at this
    have e : ((fun z : Str => z.cps.toList) ∘ S) = id := rfl
    rwa [e, List.map_id] at this
section
variable {K : PySem.W.Frag} {σ : L2.St} {H H' : Hp} {ta tb tc te tx tl : TE} {t u : TT} {x y z v : V} {r : R2} {xs ys : List V} {P : V → Hp → Prop} {Ps : List (V → Hp → Prop)} {tr : TA} {i j k : Int} {a b : Row} {A : Addr → Prop}
theorem kcr_sortedS {X : Cx} (hK : X.K = K := by rfl) : CallR X (.builtin "sorted") (rSortedS K) := hK ▸ cr_sortedS
theorem el_sortedS {l m : List Row} (h : EvQ K te σ H (l.map VS)) (hz : l.length < 64) (hp : m.Perm l) (hm : rising m) : EvL (tCB (rSortedS K) (tCons te tNil)) σ H (m.map VS) := fun H1 e Q q =>
  h H1 e _ fun a H2 e2 hs => ⟨a, l.map S, rfl, by
    rw [List.map_map]
    exact hs.q, by rw [List.length_map]; exact hz, fun ys p h1 h2 hn => by
    obtain ⟨m', rfl, h3⟩ := map_S_inj h1
    have e : m' = m := rising_perm (sortedS_rows m' h2) hm (h3.trans hp.symm)
    subst e
    refine q p _ (fresh_back e2 hn) (e2.trans (Ex.new hn)) ?_
    rw [upd_same, List.map_map]
    rfl⟩
theorem ev_ltS (ha : Ev ta σ H (VS a)) (hb : Ev tb σ H (VS b)) : Ev (tOp (fun x y H Q => ∃ i j, x = .str i ∧ y = .str j ∧ Q (.bl (decide (i.cps.toList < j.cps.toList))) H) ta tb) σ H (.bl (decide (a < b))) := fun H1 e Q q =>
  ha H1 e _ fun H2 e2 => hb H2 (e.trans e2) _ fun H3 e3 => ⟨S a, S b, rfl, rfl, q H3 (e2.trans e3)⟩
theorem flat_texts (l : List Row) : (l.map VS).all flatV = true := by
  rw [List.all_map]
  exact List.all_eq_true.mpr fun _ _ => rfl
theorem eqV_S (a b : Row) : eqV (VS a) (VS b) = decide (a = b) := by
  show decide (S a = S b) = _
  by_cases h : a = b
  · simp [h]
  · rw [decide_eq_false h, decide_eq_false (fun e => h (S_inj e))]
theorem ev_lcountS {l : List Row} (h : EvQ K ta σ H (l.map VS)) (hb : Ev tb σ H (VS b)) : Ev (tBM K "list" (rCntG K) ta (tCons tb tNil)) σ H (.int ((l.count b : Nat) : Int)) := fun H1 e Q q =>
  h H1 e _ fun p H2 e2 hs => ⟨.inl ⟨rfl, _, hs.q⟩, hb H2 (e.trans e2) _ fun H3 e3 => ⟨p, l.map VS, VS b, rfl, rfl, (exl (K := K) e3 hs).q, rfl, flat_texts l, by
    have : ((l.map VS).countP fun z => eqV z (VS b)) = l.count b := by
      rw [List.countP_map, List.count_eq_countP]
      refine List.countP_congr fun c _ => ?_
      show eqV (VS c) (VS b) = true ↔ _
      rw [eqV_S]
      simp
    rw [this]
    exact q H3 (e2.trans e3)⟩⟩
theorem i_enumS {l : Row} {j1 j2 : Nat} (h : Ev ta σ H (VS l)) :
    EvI A (iEnumS (tCons ta tNil)) (gTup K 2 (gCons (gName j1) (gCons (gName j2) gNil))) σ H l.zipIdx (fun p s => (s.set j1 (some (.int (p.2 : Nat)))).set j2 (some (VS [p.1]))) := fun H1 e R q =>
  h H1 e _ fun H2 e2 => ⟨S l, rfl, q (IteS (S l)) H2 (fun _ => True) [] e2 (by simp) trivial (fun _ _ _ _ _ _ => trivial)
    ⟨fun i H hi _ => by
      show i < l.toArray.size
      rw [List.length_zipIdx] at hi
      simpa using hi, fun H _ => by
      show l.toArray.size ≤ _
      simp, fun i H x H' σ K hi _ y k => by
      have hi' : i < l.length := by rw [List.length_zipIdx] at hi; exact hi
      obtain ⟨T, c, rfl, hT, rfl, y1⟩ := y
      have y1 : l.toArray[i]? = some c := y1
      simp [hi'] at y1
      subst y1
      have e1 : l.zipIdx[i] = (l[i], i) := by simp
      rw [e1] at k
      exact gTup2n (st_of upd_same) (k _ (Ex.new hT))⟩⟩
end
end Ho

/-! Ho, part H: lists of lists, of tuples -/
namespace Ho
open PySem PySem.Spec PyProof.Rows L2 Evl
/-- an address of A, of a list (a tuple) with these items -/
def kL {β : Type} (K : PySem.W.Frag) (f : β → List V) (A : Addr → Prop) (y : β) : V → Hp → Prop := fun u H => ∃ a, u = .ref a ∧ H a = some (.lst (f y)) ∧ A a
def kT {β : Type} (K : PySem.W.Frag) (f : β → List V) (A : Addr → Prop) (y : β) : V → Hp → Prop := fun u H => ∃ a, u = .ref a ∧ H a = some (.tup (f y)) ∧ A a
def tru : Addr → Prop := fun _ => True
def fre (H0 : Hp) : Addr → Prop := fun a => H0 a = none
def frx (H0 : Hp) (p : Addr) : Addr → Prop := fun a => H0 a = none ∧ a ≠ p
def oldx (H : Hp) (p : Addr) : Addr → Prop := fun a => H a ≠ none ∧ a ≠ p
theorem SL.some {K : PySem.W.Frag} {H : Hp} {a : Addr} {xs : List V} (h : SL K H a xs) : H a ≠ none := fun n => h.ne n rfl
theorem ST.some {K : PySem.W.Frag} {H : Hp} {a : Addr} {xs : List V} (h : ST K H a xs) : H a ≠ none := fun n => h.ne n rfl
def MonK {β : Type} (Pk : β → V → Hp → Prop) : Prop := ∀ y, Mon (Pk y)
theorem mkL {β : Type} {K : PySem.W.Frag} {f : β → List V} {A : Addr → Prop} : MonK (kL K f A) := fun y v H H' e ⟨a, h1, h2, h3⟩ => ⟨a, h1, e _ _ h2, h3⟩
theorem mkT {β : Type} {K : PySem.W.Frag} {f : β → List V} {A : Addr → Prop} : MonK (kT K f A) := fun y v H H' e ⟨a, h1, h2, h3⟩ => ⟨a, h1, e _ _ h2, h3⟩
theorem allP_imp {β : Type} {P Q : β → V → Hp → Prop} {H H' : Hp} (h : ∀ y u, P y u H → Q y u H') : ∀ {ys : List β} {vs : List V}, AllP (ys.map P) vs H → AllP (ys.map Q) vs H'
  | [], _, z => z
  | y :: ys, _, ⟨v, r, e, p, t⟩ => ⟨v, r, e, h y v p, allP_imp h t⟩
theorem allP_impM {β : Type} {P Q : β → V → Hp → Prop} {H H' : Hp} : ∀ {ys : List β} {vs : List V}, (∀ y ∈ ys, ∀ u, P y u H → Q y u H') → AllP (ys.map P) vs H → AllP (ys.map Q) vs H'
  | [], _, _, z => z
  | y :: ys, _, h, ⟨v, r, e, p, t⟩ => ⟨v, r, e, h y List.mem_cons_self v p, allP_impM (fun y' hy => h y' (List.mem_cons_of_mem _ hy)) t⟩
theorem allP_ex {β : Type} {P : β → V → Hp → Prop} {H H' : Hp} (m : MonK P) (e : Ex H H') {ys : List β} {vs : List V} (h : AllP (ys.map P) vs H) : AllP (ys.map P) vs H' := allP_imp (fun y u p => m y u _ _ e p) h
theorem allP_len {β : Type} {P : β → V → Hp → Prop} {H : Hp} {ys : List β} {vs : List V} (h : AllP (ys.map P) vs H) : vs.length = ys.length := by rw [AllP.length h, List.length_map]
theorem allP_at {β : Type} {P : β → V → Hp → Prop} {H : Hp} : ∀ {ys : List β} {vs : List V}, AllP (ys.map P) vs H → ∀ (i : Nat) (y : β), ys[i]? = some y → ∃ v, vs[i]? = some v ∧ P y v H
  | [], _, _, i, y, h => by simp at h
  | y0 :: ys, _, ⟨v, r, rfl, p, t⟩, i, y, h => by
    cases i with
    | zero =>
      simp at h
      subst h
      exact ⟨v, rfl, p⟩
    | succ i =>
      simp at h
      simpa using allP_at t i y h
theorem allP_app {Ps Qs : List (V → Hp → Prop)} {H : Hp} : ∀ {vs ws : List V}, AllP Ps vs H → AllP Qs ws H → AllP (Ps ++ Qs) (vs ++ ws) H := by
  induction Ps with
  | nil =>
    intro vs ws h1 h2
    have h1 : vs = [] := h1
    subst h1
    exact h2
  | cons P Ps ih =>
    intro vs ws h1 h2
    obtain ⟨v, r, rfl, p, t⟩ := h1
    exact ⟨v, r ++ ws, rfl, p, ih t h2⟩
theorem allP_snoc {β : Type} {P : β → V → Hp → Prop} {H : Hp} {ys : List β} {vs : List V} {y : β} {v : V} (h : AllP (ys.map P) vs H) (hv : P y v H) : AllP ((ys ++ [y]).map P) (vs ++ [v]) H := by
  rw [List.map_append]
  exact allP_app h ⟨v, [], rfl, hv, rfl⟩
theorem allP_rev {β : Type} {P : β → V → Hp → Prop} {H : Hp} : ∀ {ys : List β} {vs : List V}, AllP (ys.map P) vs H → AllP (ys.reverse.map P) vs.reverse H
  | [], _, h => by
    obtain rfl : _ = [] := h
    exact rfl
  | y :: ys, _, ⟨v, r, rfl, p, t⟩ => by
    rw [List.reverse_cons, List.reverse_cons]
    exact allP_snoc (allP_rev t) p
theorem allP_filter {β : Type} {P : β → V → Hp → Prop} {H : Hp} : ∀ {ys : List β} {vs : List V}, AllP (ys.map P) vs H → ∀ b : β → Bool, ∃ ws, AllP ((ys.filter b).map P) ws H
  | [], _, h, b => ⟨[], rfl⟩
  | y :: ys, _, ⟨v, r, _, p, t⟩, b => by
    obtain ⟨ws, hw⟩ := allP_filter t b
    rw [List.filter_cons]
    split
    · exact ⟨v :: ws, v, ws, rfl, p, hw⟩
    · exact ⟨ws, hw⟩
/-- the list at a, its items as told -/
def AG {β : Type} (K : PySem.W.Frag) (H : Hp) (a : Addr) (Pk : β → V → Hp → Prop) (ys : List β) : Prop := ∃ vs, SL K H a vs ∧ AllP (ys.map Pk) vs H
def isA {β : Type} (K : PySem.W.Frag) (Pk : β → V → Hp → Prop) (ys : List β) : V → Hp → Prop := fun u H => ∃ a, u = .ref a ∧ AG K H a Pk ys
theorem AG.ex {β : Type} {K : PySem.W.Frag} {H H' : Hp} {a : Addr} {Pk : β → V → Hp → Prop} {ys : List β} (m : MonK Pk) (e : Ex H H') (h : AG K H a Pk ys) : AG K H' a Pk ys := by
  obtain ⟨vs, h1, h2⟩ := h
  exact ⟨vs, exl e h1, allP_ex m e h2⟩
theorem mon_A {β : Type} {K : PySem.W.Frag} {Pk : β → V → Hp → Prop} (m : MonK Pk) (ys : List β) : Mon (isA K Pk ys) := fun v H H' e ⟨a, h1, h2⟩ => ⟨a, h1, h2.ex m e⟩
theorem AG.imp {β : Type} {K : PySem.W.Frag} {H : Hp} {a : Addr} {P Q : β → V → Hp → Prop} {ys : List β} (h : AG K H a P ys) (i : ∀ y u, P y u H → Q y u H) : AG K H a Q ys := by
  obtain ⟨vs, h1, h2⟩ := h
  exact ⟨vs, h1, allP_imp i h2⟩
theorem AG.tru {β : Type} {K : PySem.W.Frag} {H : Hp} {a : Addr} {f : β → List V} {A : Addr → Prop} {ys : List β} (h : AG K H a (kL K f A) ys) : AG K H a (kL K f tru) ys := h.imp fun y u ⟨a, h1, h2, _⟩ => ⟨a, h1, h2, trivial⟩
theorem AG.ne {β : Type} {K : PySem.W.Frag} {H : Hp} {a b : Addr} {P : β → V → Hp → Prop} {ys : List β} (h : AG K H a P ys) (n : H b = none) : a ≠ b := by
  obtain ⟨vs, h1, _⟩ := h
  exact h1.ne n
/-- while p alone changes -/
theorem allx_xb {β : Type} {K : PySem.W.Frag} {f : β → List V} {A : Addr → Prop} {H H' : Hp} {p : Addr} {ys : List β} {vs : List V} (hA : ∀ a, A a → a ≠ p) (x : Xb [p] H H') (h : AllP (ys.map (kL K f A)) vs H) : AllP (ys.map (kL K f A)) vs H' :=
  allP_imp (fun y u ⟨a, h1, h2, h3⟩ => ⟨a, h1, x _ _ (nin1 (hA a h3)) h2, h3⟩) h
theorem allx_xbT {β : Type} {K : PySem.W.Frag} {f : β → List V} {A : Addr → Prop} {H H' : Hp} {p : Addr} {ys : List β} {vs : List V} (hA : ∀ a, A a → a ≠ p) (x : Xb [p] H H') (h : AllP (ys.map (kT K f A)) vs H) : AllP (ys.map (kT K f A)) vs H' :=
  allP_imp (fun y u ⟨a, h1, h2, h3⟩ => ⟨a, h1, x _ _ (nin1 (hA a h3)) h2, h3⟩) h
/-- to a new list of new items -/
def EvNA {β : Type} (te : TE) (σ : L2.St) (H : Hp) (N : Hp → β → V → Hp → Prop) (ys : List β) : Prop := ∀ H1, Ex H H1 → ∀ Q : VK, (∀ p vs H2, H1 p = none → Ex H1 H2 → H2 p = some (.lst vs) → AllP (ys.map (N H1)) vs H2 → Q (.ref p) H2) → te σ H1 Q
def RetA {β : Type} (N : Hp → β → V → Hp → Prop) (ys : List β) (H : Hp) (Q : VK) : Prop := ∀ p vs H2, H p = none → Ex H H2 → H2 p = some (.lst vs) → AllP (ys.map (N H)) vs H2 → Q (.ref p) H2
def spA {β : Type} (N : Hp → β → V → Hp → Prop) (n : Nat) (R : List V → Hp → List β → Prop) : Sp := fun vs H Q _ => vs.length = n ∧ ∃ ys H0, Ex H0 H ∧ R vs H0 ys ∧ RetA N ys H Q
def AntiN {β : Type} (N : Hp → β → V → Hp → Prop) : Prop := ∀ H0 H1 y u H, Ex H0 H1 → N H1 y u H → N H0 y u H
abbrev nL {β : Type} (K : PySem.W.Frag) (f : β → List V) : Hp → β → V → Hp → Prop := fun H0 => kL K f (fre H0)
abbrev nT {β : Type} (K : PySem.W.Frag) (f : β → List V) : Hp → β → V → Hp → Prop := fun H0 => kT K f (fre H0)
abbrev tS2 (p : Row × Row) : List V := [VS p.1, VS p.2]
theorem anti_nL {β : Type} {K : PySem.W.Frag} {f : β → List V} : AntiN (nL K f) := fun H0 H1 y u H e ⟨a, h1, h2, h3⟩ => ⟨a, h1, h2, fresh_back e h3⟩
theorem anti_nT {β : Type} {K : PySem.W.Frag} {f : β → List V} : AntiN (nT K f) := fun H0 H1 y u H e ⟨a, h1, h2, h3⟩ => ⟨a, h1, h2, fresh_back e h3⟩
section
variable {K : PySem.W.Frag} {σ : L2.St} {H H' : Hp} {ta tb tc te tx tl : TE} {t u : TT} {x y z v : V} {r : R2} {xs : List V} {P : V → Hp → Prop} {Ps : List (V → Hp → Prop)} {tr : TA} {i j k : Int} {a b : Row} {A : Addr → Prop} {β : Type} {N : Hp → β → V → Hp → Prop} {Pk : β → V → Hp → Prop} {ys : List β}
theorem RetA.ex {Q : VK} (m : AntiN N) (k : RetA N ys H Q) {H1 : Hp} (e : Ex H H1) : RetA N ys H1 Q := fun p vs H2 hp e2 h1 h2 => k p vs H2 (fresh_back e hp) (e.trans e2) h1 (allP_imp (fun y u q => m _ _ y u _ e q) h2)
theorem en_callG {n : Nat} {R : List V → Hp → List β → Prop} {E : XK} (m : AntiN N) (h : EvAG tr σ H Ps) (hn : Ps.length = n) (hr : ∀ vs H1, Ex H H1 → AllP Ps vs H1 → R vs H1 ys) : EvNA (tCallO (spA N n R) E tr) σ H N ys := fun H1 e Q q =>
  h H1 e _ fun vs H2 e2 hp => ⟨hp.length.trans hn, ys, H2, Ex.refl H2, hr vs H2 (e.trans e2) hp, fun p ws H3 hp3 e3 h3 h4 => q p ws H3 (fresh_back e2 hp3) (e2.trans e3) h3 (allP_imp (fun y u z => m _ _ y u _ e2 z) h4)⟩
theorem g_A (h : EvNA te σ H N ys) (w : ∀ H0 y u H1, N H0 y u H1 → Pk y u H1) : EvG te σ H (isA K Pk ys) := fun H1 e Q q => h H1 e Q fun p vs H2 _ e2 h2 h3 => q _ H2 e2 ⟨p, rfl, vs, slof h2, allP_imp (fun y u z => w _ y u _ z) h3⟩
theorem g_AL {f : β → List V} (h : EvNA te σ H (nL K f) ys) : EvG te σ H (isA K (kL K f tru) ys) := g_A h fun _ _ _ _ ⟨a, h1, h2, _⟩ => ⟨a, h1, h2, trivial⟩
theorem g_AT {f : β → List V} (h : EvNA te σ H (nT K f) ys) : EvG te σ H (isA K (kT K f tru) ys) := g_A h fun _ _ _ _ ⟨a, h1, h2, _⟩ => ⟨a, h1, h2, trivial⟩
theorem g_Aold {p : Addr} (m : MonK Pk) (h : Ev te σ H (.ref p)) (hs : AG K H p Pk ys) : EvG te σ H (isA K Pk ys) := fun H1 e Q q => h H1 e Q fun H2 e2 => q _ H2 e2 ⟨p, rfl, hs.ex m (e.trans e2)⟩
theorem q_G (h : EvG te σ H (isL K xs)) : EvQ K te σ H xs := fun H1 e Q q => h H1 e Q fun v H2 e2 ⟨a, ea, hs⟩ => by
  subst ea
  exact q a H2 e2 hs
theorem q_GL {f : β → List V} {y : β} (h : EvG te σ H (kL K f A y)) : EvQ K te σ H (f y) := fun H1 e Q q => h H1 e Q fun v H2 e2 ⟨a, ea, hs, _⟩ => by
  subst ea
  exact q a H2 e2 (slof hs)
theorem ag_A (m : MonK Pk) (h : EvG te σ H (isA K Pk ys)) (hr : EvAG tr σ H Ps) : EvAG (tCons te tr) σ H (isA K Pk ys :: Ps) := ag_cons h (mon_A m ys) hr
theorem ev_lenA (h : EvG te σ H (isA K Pk ys)) : Ev (tCB (rLenQ K) (tCons te tNil)) σ H (.int (ys.length : Int)) := fun H1 e Q q =>
  h H1 e _ fun v H2 e2 ⟨p, ev, vs, h1, h2⟩ => by
    subst ev
    refine ⟨p, vs, rfl, .inl (SL.q h1), ?_⟩
    rw [allP_len h2]
    exact q H2 e2
theorem eg_ixA (d : β) (m : MonK Pk) (h : EvG ta σ H (isA K Pk ys)) (hb : Ev tb σ H (.int i)) (h0 : 0 ≤ i) (h1 : i < ys.length) : EvG (tOp (rIxL K) ta tb) σ H (Pk (ys.getD i.toNat d)) := fun H1 e Q q =>
  h H1 e _ fun v H2 e2 ⟨p, ev, vs, h2, h3⟩ => hb H2 (e.trans e2) _ fun H3 e3 => by
    subst ev
    have hy : ys[i.toNat]? = some (ys.getD i.toNat d) := by
      rw [List.getD_eq_getElem?_getD, List.getElem?_eq_getElem (show i.toNat < ys.length by omega)]
      rfl
    obtain ⟨w, hw, hp⟩ := allP_at h3 i.toNat _ hy
    have hl : i < (vs.length : Int) := by rw [allP_len h3]; exact h1
    refine ⟨p, vs, i, _, rfl, rfl, (exl (K := K) e3 h2).q, atI_getD V.non h0 hl, ?_⟩
    rw [List.getD_eq_getElem?_getD, hw]
    exact q w H3 (e2.trans e3) (m _ _ _ _ e3 hp)
theorem eg_ixLastA {w : β} (m : MonK Pk) (h : EvG ta σ H (isA K Pk ys)) (hb : Ev tb σ H (.int (-1))) (hw : ys.getLast? = some w) : EvG (tOp (rIxL K) ta tb) σ H (Pk w) := fun H1 e Q q =>
  h H1 e _ fun v H2 e2 ⟨p, ev, vs, h2, h3⟩ => hb H2 (e.trans e2) _ fun H3 e3 => by
    subst ev
    have hl := allP_len h3
    have hn : ys ≠ [] := by rintro rfl; simp at hw
    have hy : ys[ys.length - 1]? = some w := by rw [← List.getLast?_eq_getElem?]; exact hw
    obtain ⟨w', hw', hp⟩ := allP_at h3 _ _ hy
    have hvn : vs ≠ [] := by
      rintro rfl
      simp at hw'
    have hv : vs = vs.dropLast ++ [w'] := by
      have : vs.getLast hvn = w' := by
        rw [← hl, ← List.getLast?_eq_getElem?, List.getLast?_eq_getLast hvn] at hw'
        exact Option.some.inj hw'
      rw [← this, List.dropLast_concat_getLast]
    refine ⟨p, vs, -1, w', rfl, rfl, (exl (K := K) e3 h2).q, ?_, q w' H3 (e2.trans e3) (m _ _ _ _ e3 hp)⟩
    rw [hv]
    exact atI_last _ _
/-- a list made of what is told -/
theorem en_lst {N : Hp → β → V → Hp → Prop} (h : ∀ H1, Ex H H1 → ∀ Q : List V → Hp → Prop, (∀ vs H2, Ex H1 H2 → AllP (ys.map (N H1)) vs H2 → Q vs H2) → tr σ H1 Q) (m : ∀ H0, MonK (N H0)) (hz : ys.length ≤ 100000) : EvNA (tLst tr) σ H N ys := fun H1 e Q q =>
  h H1 e _ fun vs H2 e2 hp => ⟨sz_of (by rw [allP_len hp]; exact hz), fun p hp0 => q p vs _ (fresh_back e2 hp0) (e2.trans (Ex.new hp0)) upd_same (allP_ex (m _) (Ex.new hp0) hp)⟩
theorem en_one {f : β → List V} {y : β} (h : EvL te σ H (f y)) : EvNA (tLst (tCons te tNil)) σ H (nL K f) [y] :=
  en_lst (fun H1 e Q q => h H1 e _ fun p H2 hp e2 h2 => q [.ref p] H2 e2 ⟨_, _, rfl, ⟨p, rfl, h2, hp⟩, rfl⟩) (fun H0 => mkL) (by simp)
theorem en_nilA : EvNA (tLst tNil) σ H N [] := fun H1 e Q q => ⟨sz_of (Nat.zero_le _), fun p hp0 => q p [] _ hp0 (Ex.new hp0) upd_same rfl⟩
/-- reversed: new, its items as they were -/
theorem s_retA {D : Ends} (h : EvNA te σ H N ys) (k : RetA N ys H D.rt) : tRet te D σ H := h H (Ex.refl H) _ fun p vs H1 hp e h1 h2 => k p vs H1 hp e h1 h2
theorem s_asgA {D : Ends} {i : Nat} (h : EvNA te σ H N ys) (k : ∀ p vs H1, H p = none → Ex H H1 → H1 p = some (.lst vs) → AllP (ys.map (N H)) vs H1 → D.nx (σ.set i (some (.ref p))) H1) : tAsg te (gName i) D σ H := h H (Ex.refl H) _ fun p vs H1 hp e h1 h2 => k p vs H1 hp e h1 h2
theorem q_asgA {D : Ends} {tz : TS} {i : Nat} (h : EvNA te σ H N ys) (k : ∀ p vs H1, H p = none → Ex H H1 → H1 p = some (.lst vs) → AllP (ys.map (N H)) vs H1 → tz D (σ.set i (some (.ref p))) H1) : tSeq (tAsg te (gName i)) tz D σ H := s_asgA (D := { D with nx := tz D }) h k
/-- xs[::-1] of what one has the items of -/
theorem el_revV {vs : List V} (h : EvQ K te σ H vs) : EvL (tRevL K te) σ H vs.reverse := fun H1 e Q q =>
  h H1 e _ fun a H2 e2 hs => ⟨a, vs, rfl, hs.q, fun p hp => q p _ (fresh_back e2 hp) (e2.trans (Ex.new hp)) upd_same⟩
theorem EvNA.is {zs : List β} (h : EvNA te σ H N ys) (e : ys = zs) : EvNA te σ H N zs := e ▸ h
/-- the items of a new list made here are not the list itself, where each is laid before it -/
theorem allP_one {f : β → List V} {H0 H1 : Hp} {p : Addr} {y : β} {vs : List V} (hp : H1 p = some (.lst vs)) (hv : AllP ([y].map (kL K f (fre H0))) vs H1) (hy : ∀ a, vs = [.ref a] → f y ≠ vs) : AllP ([y].map (kL K f (frx H0 p))) vs H1 := by
  obtain ⟨v, r, rfl, ⟨a, rfl, h1, h2⟩, h3⟩ := hv
  obtain rfl : r = [] := h3
  refine ⟨_, [], rfl, ⟨a, rfl, h1, h2, fun e => ?_⟩, rfl⟩
  subst e
  rw [hp] at h1
  exact hy a rfl (HO.lst.inj (Option.some.inj h1)).symm
theorem el_revQ {α : Type} {l : List α} {g : α → V} (h : EvQ K te σ H (l.map g)) : EvL (tRevL K te) σ H (l.reverse.map g) := by
  have := el_revV h
  rwa [← List.map_reverse] at this
/-- the items with their addresses -/
abbrev gR {β : Type} (q : Addr × β) : V := .ref q.1
theorem allP_pairs {f : β → List V} {A : Addr → Prop} {H : Hp} : ∀ {ys : List β} {vs : List V}, AllP (ys.map (kL K f A)) vs H → ∃ ps : List (Addr × β), vs = ps.map gR ∧ ys = ps.map (·.2) ∧ ∀ q ∈ ps, H q.1 = some (.lst (f q.2)) ∧ A q.1
  | [], _, h => ⟨[], h, rfl, fun q hq => nomatch hq⟩
  | y :: ys, _, ⟨v, r, e, ⟨a, ea, h1, h2⟩, t⟩ => by
    subst e ea
    obtain ⟨ps, e1, e2, e3⟩ := allP_pairs t
    refine ⟨(a, y) :: ps, by rw [e1]; rfl, by rw [e2]; rfl, fun q hq => ?_⟩
    rcases List.mem_cons.mp hq with rfl | hq
    · exact ⟨h1, h2⟩
    · exact e3 q hq
theorem allP_of {f : β → List V} {A : Addr → Prop} {H : Hp} : ∀ {ps : List (Addr × β)}, (∀ q ∈ ps, H q.1 = some (.lst (f q.2)) ∧ A q.1) → AllP ((ps.map (·.2)).map (kL K f A)) (ps.map gR) H
  | [], _ => rfl
  | q :: ps, h => ⟨_, _, rfl, ⟨q.1, rfl, (h q List.mem_cons_self).1, (h q List.mem_cons_self).2⟩, allP_of fun p hp => h p (List.mem_cons_of_mem _ hp)⟩
/-! in a par -/
def isNA {β : Type} (H0 : Hp) (N : Hp → β → V → Hp → Prop) (ys : List β) : V → Hp → Prop := fun u H => ∃ p vs, u = .ref p ∧ H0 p = none ∧ H p = some (.lst vs) ∧ AllP (ys.map (N H0)) vs H
theorem ag_NA (m : ∀ H0, MonK (N H0)) (an : AntiN N) (h : EvNA te σ H N ys) (hr : EvAG tr σ H Ps) : EvAG (tCons te tr) σ H (isNA H N ys :: Ps) :=
  ag_cons (fun H1 e Q q => h H1 e Q fun p vs H2 hp e2 h2 h3 => q _ H2 e2 ⟨p, vs, rfl, fresh_back e hp, h2, allP_imp (fun y u z => an _ _ y u _ e z) h3⟩) (fun _ _ _ e ⟨p, vs, h1, h2, h3, h4⟩ => ⟨p, vs, h1, h2, e _ _ h3, allP_ex (m _) e h4⟩) hr
theorem ag_G (m : Mon P) (h : EvG te σ H P) (hr : EvAG tr σ H Ps) : EvAG (tCons te tr) σ H (P :: Ps) := ag_cons h m hr
theorem s_par3 {D : Ends} {i j l : Nat} {P1 P2 P3 : V → Hp → Prop} (h : EvAG tr σ H [P1, P2, P3]) (k : ∀ v1 v2 v3 H1, Ex H H1 → P1 v1 H1 → P2 v2 H1 → P3 v3 H1 → D.nx (((σ.set i (some v1)).set j (some v2)).set l (some v3)) H1) : tPar3 i j l tr D σ H :=
  h H (Ex.refl H) _ fun vs H1 e1 hp => by
    obtain ⟨v1, _, rfl, h1, v2, _, rfl, h2, v3, _, rfl, h3, rfl⟩ := hp
    exact ⟨v1, v2, v3, rfl, k v1 v2 v3 H1 e1 h1 h2 h3⟩
theorem q_par3 {D : Ends} {tz : TS} {i j l : Nat} {P1 P2 P3 : V → Hp → Prop} (h : EvAG tr σ H [P1, P2, P3]) (k : ∀ v1 v2 v3 H1, Ex H H1 → P1 v1 H1 → P2 v2 H1 → P3 v3 H1 → tz D (((σ.set i (some v1)).set j (some v2)).set l (some v3)) H1) : tSeq (tPar3 i j l tr) tz D σ H := s_par3 (D := { D with nx := tz D }) h k
theorem s_par4 {D : Ends} {i j l m : Nat} {P1 P2 P3 P4 : V → Hp → Prop} (h : EvAG tr σ H [P1, P2, P3, P4]) (m1 : Mon P1) (m2 : Mon P2) (m3 : Mon P3) (m4 : Mon P4)
    (k : ∀ v1 v2 v3 v4 H1, Ex H H1 → P1 v1 H1 → P2 v2 H1 → P3 v3 H1 → P4 v4 H1 → D.nx ((((σ.set i (some v1)).set j (some v2)).set l (some v3)).set m (some v4)) H1) :
    tAsg (tTup tr) (gTup K 4 (gCons (gName i) (gCons (gName j) (gCons (gName l) (gCons (gName m) gNil))))) D σ H :=
  h H (Ex.refl H) _ fun vs H1 e1 hp => by
    obtain ⟨v1, _, rfl, h1, v2, _, rfl, h2, v3, _, rfl, h3, v4, _, rfl, h4, rfl⟩ := hp
    refine ⟨sz_of (by simp), fun p hp => ?_⟩
    have e2 : Ex H1 (upd H1 p (.tup [v1, v2, v3, v4])) := Ex.new hp
    exact ⟨p, _, rfl, st_of upd_same, rfl, v1, _, rfl, v2, _, rfl, v3, _, rfl, v4, _, rfl, rfl, k v1 v2 v3 v4 _ (e1.trans e2) (m1 _ _ _ e2 h1) (m2 _ _ _ e2 h2) (m3 _ _ _ e2 h3) (m4 _ _ _ e2 h4)⟩
theorem q_par4 {D : Ends} {tz : TS} {i j l m : Nat} {P1 P2 P3 P4 : V → Hp → Prop} (h : EvAG tr σ H [P1, P2, P3, P4]) (m1 : Mon P1) (m2 : Mon P2) (m3 : Mon P3) (m4 : Mon P4)
    (k : ∀ v1 v2 v3 v4 H1, Ex H H1 → P1 v1 H1 → P2 v2 H1 → P3 v3 H1 → P4 v4 H1 → tz D ((((σ.set i (some v1)).set j (some v2)).set l (some v3)).set m (some v4)) H1) :
    tSeq (tAsg (tTup tr) (gTup K 4 (gCons (gName i) (gCons (gName j) (gCons (gName l) (gCons (gName m) gNil)))))) tz D σ H := s_par4 (D := { D with nx := tz D }) h m1 m2 m3 m4 k
theorem s_tup2 {D : Ends} {i j : Nat} {P1 P2 : V → Hp → Prop} (h : EvAG tr σ H [P1, P2]) (m1 : Mon P1) (m2 : Mon P2)
    (k : ∀ v1 v2 H1, Ex H H1 → P1 v1 H1 → P2 v2 H1 → D.nx ((σ.set i (some v1)).set j (some v2)) H1) : tAsg (tTup tr) (gTup K 2 (gCons (gName i) (gCons (gName j) gNil))) D σ H :=
  h H (Ex.refl H) _ fun vs H1 e1 hp => by
    obtain ⟨v1, _, rfl, h1, v2, _, rfl, h2, rfl⟩ := hp
    refine ⟨sz_of (by simp), fun p hp => ?_⟩
    have e2 : Ex H1 (upd H1 p (.tup [v1, v2])) := Ex.new hp
    exact ⟨p, _, rfl, st_of upd_same, rfl, v1, _, rfl, v2, _, rfl, rfl, k v1 v2 _ (e1.trans e2) (m1 _ _ _ e2 h1) (m2 _ _ _ e2 h2)⟩
theorem q_tup2 {D : Ends} {tz : TS} {i j : Nat} {P1 P2 : V → Hp → Prop} (h : EvAG tr σ H [P1, P2]) (m1 : Mon P1) (m2 : Mon P2)
    (k : ∀ v1 v2 H1, Ex H H1 → P1 v1 H1 → P2 v2 H1 → tz D ((σ.set i (some v1)).set j (some v2)) H1) : tSeq (tAsg (tTup tr) (gTup K 2 (gCons (gName i) (gCons (gName j) gNil)))) tz D σ H := s_tup2 (D := { D with nx := tz D }) h m1 m2 k
theorem s_tup3 {D : Ends} {i j l : Nat} {P1 P2 P3 : V → Hp → Prop} (h : EvAG tr σ H [P1, P2, P3]) (m1 : Mon P1) (m2 : Mon P2) (m3 : Mon P3)
    (k : ∀ v1 v2 v3 H1, Ex H H1 → P1 v1 H1 → P2 v2 H1 → P3 v3 H1 → D.nx (((σ.set i (some v1)).set j (some v2)).set l (some v3)) H1) : tAsg (tTup tr) (gTup K 3 (gCons (gName i) (gCons (gName j) (gCons (gName l) gNil)))) D σ H :=
  h H (Ex.refl H) _ fun vs H1 e1 hp => by
    obtain ⟨v1, _, rfl, h1, v2, _, rfl, h2, v3, _, rfl, h3, rfl⟩ := hp
    refine ⟨sz_of (by simp), fun p hp => ?_⟩
    have e2 : Ex H1 (upd H1 p (.tup [v1, v2, v3])) := Ex.new hp
    exact ⟨p, _, rfl, st_of upd_same, rfl, v1, _, rfl, v2, _, rfl, v3, _, rfl, rfl, k v1 v2 v3 _ (e1.trans e2) (m1 _ _ _ e2 h1) (m2 _ _ _ e2 h2) (m3 _ _ _ e2 h3)⟩
theorem q_tup3 {D : Ends} {tz : TS} {i j l : Nat} {P1 P2 P3 : V → Hp → Prop} (h : EvAG tr σ H [P1, P2, P3]) (m1 : Mon P1) (m2 : Mon P2) (m3 : Mon P3)
    (k : ∀ v1 v2 v3 H1, Ex H H1 → P1 v1 H1 → P2 v2 H1 → P3 v3 H1 → tz D (((σ.set i (some v1)).set j (some v2)).set l (some v3)) H1) : tSeq (tAsg (tTup tr) (gTup K 3 (gCons (gName i) (gCons (gName j) (gCons (gName l) gNil))))) tz D σ H := s_tup3 (D := { D with nx := tz D }) h m1 m2 m3 k
theorem mon_NL {H0 : Hp} {xs : List V} : Mon (isNL H0 xs) := fun _ _ _ e ⟨p, h1, h2, h3⟩ => ⟨p, h1, h2, e _ _ h3⟩
theorem mon_ND {H0 : Hp} {kvs : List (Key × V)} : Mon (isND H0 kvs) := fun _ _ _ e ⟨p, h1, h2, h3⟩ => ⟨p, h1, h2, e _ _ h3⟩
theorem mon_NA {H0 : Hp} (m : ∀ H0, MonK (N H0)) : Mon (isNA H0 N ys) := fun _ _ _ e ⟨p, vs, h1, h2, h3, h4⟩ => ⟨p, vs, h1, h2, e _ _ h3, allP_ex (m _) e h4⟩
/-! a loop whose ways (through, broken off) meet in J -/
theorem q_forJ {α : Type} {D : Ends} {g : TG} {tu tz : TS} {s : List Addr} {l : List α} {wi : TI} {τ : α → L2.St → L2.St} (J : L2.St → Hp → Prop) (src : EvI (· ∉ s) wi g σ H l τ) (hs : ∀ a ∈ s, H a ≠ none)
    (k : ∀ H1, Ex H H1 → (∀ σ' H', J σ' H' → tz D σ' H') → ∃ Pv : Nat → L2.St → Hp → Prop, Pv 0 σ H1 ∧ (∀ i σ' H', Pv i σ' H' → Xb s H1 H') ∧
      (∀ i x σ' H' H2, l[i]? = some x → Pv i σ' H' → Ex H' H2 → tu { D with nx := Pv (i + 1), ct := Pv (i + 1), bk := tz D } (τ x σ') H2) ∧ (∀ σ' H', Pv l.length σ' H' → J σ' H')) (fin : ∀ σ' H', J σ' H' → tz D σ' H') : tSeq (tFor wi g tu) tz D σ H :=
  q_for src hs fun H1 e1 => by
    obtain ⟨Pv, h0, h1, h2, h3⟩ := k H1 e1 fin
    exact ⟨Pv, h0, h1, h2, fun σ' H' p => fin _ _ (h3 σ' H' p)⟩
/-- over a new list of new pairs -/
theorem i_arrT {f : β → List V} {g1 g2 : β → V} {j1 j2 : Nat} (hf : ∀ y, f y = [g1 y, g2 y]) (h : EvNA tl σ H (nT K f) ys) :
    EvI A (iList K tl) (gTup K 2 (gCons (gName j1) (gCons (gName j2) gNil))) σ H ys (fun p s => (s.set j1 (some (g1 p))).set j2 (some (g2 p))) := fun H1 e R q =>
  h H1 e _ fun a vs H2 ha e2 h2 h3 => ⟨a, rfl, ⟨_, (slof h2).q⟩, q (Itl K a) H2 (fun H' => H' a = some (.lst vs) ∧ AllP (ys.map (kT K f (fun b => V.ref b ∈ vs ∧ H1 b = none))) vs H') (a :: vs.filterMap fun v => match v with | .ref b => some b | _ => none) e2
    (by
      intro b hb
      rcases List.mem_cons.mp hb with rfl | hb
      · exact .inr ha
      · obtain ⟨v, hv, eb⟩ := List.mem_filterMap.mp hb
        cases v with
        | ref c =>
          obtain rfl := Option.some.inj eb
          obtain ⟨i, hi⟩ := List.mem_iff_getElem?.mp hv
          have hl := allP_len h3
          have hi2 := (List.getElem?_eq_some_iff.mp hi).1
          obtain ⟨w, hw, ⟨b', eb', _, hb'⟩⟩ := allP_at h3 i _ (List.getElem?_eq_getElem (show i < ys.length by omega))
          rw [hi] at hw
          obtain rfl := Option.some.inj hw
          cases eb'
          exact .inr hb'
        | _ => cases eb)
    ⟨h2, by
      have key : ∀ {zs : List β} {ws : List V}, (∀ v ∈ ws, v ∈ vs) → AllP (zs.map (nT K f H1)) ws H2 → AllP (zs.map (kT K f (fun b => V.ref b ∈ vs ∧ H1 b = none))) ws H2 := by
        intro zs
        induction zs with
        | nil => intro ws _ z; exact z
        | cons z zs ih =>
          rintro _ hw ⟨v, r, rfl, ⟨b, rfl, p2, p3⟩, t⟩
          exact ⟨_, r, rfl, ⟨b, rfl, p2, hw _ List.mem_cons_self, p3⟩, ih (fun v hv => hw v (List.mem_cons_of_mem _ hv)) t⟩
      exact key (fun _ h => h) h3⟩
    (fun s Ha Hb x n ⟨p1, p2⟩ => ⟨x a _ (n a (by simp)) p1, allP_imp (fun y u ⟨b, h1, h2, h3⟩ => ⟨b, h1, x _ _ (n b (List.mem_cons_of_mem _ (List.mem_filterMap.mpr ⟨_, h3.1, rfl⟩))) h2, h3⟩) p2⟩)
    ⟨fun i H hi ⟨g, g2⟩ => by
      have hl := allP_len g2
      exact ⟨_, vs[i]'(by omega), (slof g).q, by simp [hl, hi]⟩, fun H ⟨g, g2⟩ => ⟨_, (slof g).q, by rw [allP_len g2]; exact Nat.le_refl _⟩, fun i H x H' σ K' hi ⟨g, g2⟩ y k => by
      obtain ⟨e1, y⟩ := y
      subst e1
      have yy := y _ (slof g).q
      obtain ⟨w, hw, ⟨b, rfl, hb, _⟩⟩ := allP_at g2 i _ (List.getElem?_eq_getElem hi)
      rw [hw] at yy
      obtain rfl := Option.some.inj yy
      rw [hf] at hb
      exact gTup2n (st_of hb) (k _ (Ex.refl _))⟩⟩
end

/-! ### comprehensions that make new lists, new tuples -/
def CwA {β : Type} (f : β → HO) (H0 H : Hp) (Dl : Addr) (ys : List β) (H' : Hp) : Prop := ∃ vs, H Dl = none ∧ Ex H H' ∧ H' Dl = some (.lst vs) ∧ AllP (ys.map fun y u H => ∃ a, u = V.ref a ∧ H a = some (f y) ∧ frx H0 Dl a) vs H'
section
variable {K : PySem.W.Frag} {σ : L2.St} {H : Hp} {te : TE} {t : TT} {α β : Type}
theorem en_lcO {l : List α} {b : α → Bool} {f : β → HO} {g : α → β} {wi : TI} {gt : TG} {τ : α → L2.St → L2.St} {vs : List Nat} (src : EvI (fun _ => True) wi gt σ H l τ) (hz : l.length ≤ 40000) (hw : ∀ x, wipe (τ x (wipe σ vs)) vs = wipe σ vs)
    (ht : ∀ x ∈ l, ∀ H1, Ex H H1 → EvT t (τ x (wipe σ vs)) H1 (b x))
    (he : ∀ x ∈ l, b x = true → ∀ H1, Ex H H1 → ∀ H2, Ex H1 H2 → ∀ Q : VK, (∀ p H3, H2 p = none → Ex H2 H3 → H3 p = some (f (g x)) → Q (.ref p) H3) → te (τ x (wipe σ vs)) H2 Q) :
    EvNA (tLc wi gt t te vs) σ H (fun H0 (y : β) (u : V) (H : Hp) => ∃ a, u = V.ref a ∧ H a = some (f y) ∧ fre H0 a) ((l.filter b).map g) := fun H0 e Q q =>
  src H0 e _ fun J H1 Gd fp e1 hfp gd0 stay S Dl hD => by
    refine ⟨fun i m H' => m = l.length - i ∧ i ≤ l.length ∧ CwA f H0 H1 Dl (((l.take i).filter b).map g) H', ⟨l.length, by simp, Nat.zero_le _, [], hD, Ex.new hD, upd_same, rfl⟩, ?_⟩
    rintro i m H' ⟨rfl, hi, ws, p1, p2, p3, p4⟩
    have gd : Gd H' := stay [] H1 H' (fun a o _ h => p2 a o h) (fun _ _ => by simp) gd0
    by_cases hlt : i < l.length
    · refine .inr ⟨S.go i H' hlt gd, fun H'' => CwA f H0 H1 Dl (((l.take (i + 1)).filter b).map g) H'', fun H'' c => ⟨l.length - (i + 1), by omega, rfl, hlt, c⟩, fun x H2 y => ?_⟩
      refine S.yld i H' x H2 (wipe σ vs) _ hlt gd y fun H3 e3 => ⟨hw _, ?_⟩
      have eH : Ex H H3 := (e.trans e1).trans (p2.trans e3)
      have hm : l[i] ∈ l := List.getElem_mem hlt
      have hx : l.take (i + 1) = l.take i ++ [l[i]] := by rw [List.take_succ, List.getElem?_eq_getElem hlt]; rfl
      refine ht l[i] hm H3 eH H3 (Ex.refl _) _ fun H4 e4 => ?_
      have up : ∀ {Ha Hb : Hp}, Ex Ha Hb → AllP ((((l.take i).filter b).map g).map fun y u H => ∃ a, u = V.ref a ∧ H a = some (f y) ∧ frx H0 Dl a) ws Ha → AllP ((((l.take i).filter b).map g).map fun y u H => ∃ a, u = V.ref a ∧ H a = some (f y) ∧ frx H0 Dl a) ws Hb :=
        fun ee => allP_imp fun y u ⟨a, h1, h2, h3⟩ => ⟨a, h1, ee _ _ h2, h3⟩
      cases hb : b l[i] with
      | true =>
        show te _ H4 _
        refine he l[i] hm hb H4 (eH.trans e4) H4 (Ex.refl _) _ fun p H5 hp e5 h5 => ⟨ws, e5 _ _ (e4 _ _ (e3 _ _ p3)), ?_, ws ++ [.ref p], p1, Ex.mut (((p2.trans e3).trans e4).trans e5) p1, upd_same, ?_⟩
        · refine sz_lt ?_
          rw [allP_len p4, List.length_map]
          have := List.length_filter_le b (l.take i)
          rw [List.length_take] at this
          omega
        · have hpD : p ≠ Dl := fun z => by
            rw [z, e4 _ _ (e3 _ _ p3)] at hp
            cases hp
          have hp0 : H0 p = none := fresh_back (e1.trans ((p2.trans e3).trans e4)) hp
          rw [hx, List.filter_append, List.map_append, List.filter_cons, if_pos hb]
          refine allP_snoc (P := fun y u H => ∃ a, u = V.ref a ∧ H a = some (f y) ∧ frx H0 Dl a) ?_ ⟨p, rfl, ?_, hp0, hpD⟩
          · refine allP_imp (fun y u ⟨a, h1, h2, h3⟩ => ⟨a, h1, ?_, h3⟩) (up ((e3.trans e4).trans e5) p4)
            exact (xb_upd (p := Dl)) _ _ (nin1 h3.2) h2
          · exact (xb_upd (p := Dl)) _ _ (nin1 hpD) h5
      | false =>
        show CwA f H0 H1 Dl _ H4
        refine ⟨ws, p1, (p2.trans e3).trans e4, e4 _ _ (e3 _ _ p3), ?_⟩
        rw [hx, List.filter_append, List.filter_cons, if_neg (by rw [hb]; decide), List.filter_nil, List.append_nil]
        exact up (e3.trans e4) p4
    · have ei : i = l.length := by omega
      subst ei
      rw [List.take_length] at p4
      exact .inl ⟨S.stop H' gd, q Dl ws H' (fresh_back e1 p1) (e1.trans p2) p3 (allP_imp (fun y u ⟨a, h1, h2, h3⟩ => ⟨a, h1, h2, h3.1⟩) p4)⟩
theorem en_lcL {l : List α} {b : α → Bool} {f : β → List V} (g : α → β) {wi : TI} {gt : TG} {τ : α → L2.St → L2.St} {vs : List Nat} (src : EvI (fun _ => True) wi gt σ H l τ) (hz : l.length ≤ 40000) (hw : ∀ x, wipe (τ x (wipe σ vs)) vs = wipe σ vs)
    (ht : ∀ x ∈ l, ∀ H1, Ex H H1 → EvT t (τ x (wipe σ vs)) H1 (b x)) (he : ∀ x ∈ l, b x = true → ∀ H1, Ex H H1 → EvL te (τ x (wipe σ vs)) H1 (f (g x))) : EvNA (tLc wi gt t te vs) σ H (nL K f) ((l.filter b).map g) :=
  en_lcO (f := fun y => .lst (f y)) src hz hw ht he
theorem en_lcU {l : List α} {b : α → Bool} {f : β → List V} (g : α → β) {wi : TI} {gt : TG} {τ : α → L2.St → L2.St} {vs : List Nat} (src : EvI (fun _ => True) wi gt σ H l τ) (hz : l.length ≤ 40000) (hw : ∀ x, wipe (τ x (wipe σ vs)) vs = wipe σ vs)
    (ht : ∀ x ∈ l, ∀ H1, Ex H H1 → EvT t (τ x (wipe σ vs)) H1 (b x)) (he : ∀ x ∈ l, b x = true → ∀ H1, Ex H H1 → EvU te (τ x (wipe σ vs)) H1 (f (g x))) : EvNA (tLc wi gt t te vs) σ H (nT K f) ((l.filter b).map g) :=
  en_lcO (f := fun y => .tup (f y)) src hz hw ht he
theorem en_lcL1 {l : List α} {f : β → List V} (g : α → β) {wi : TI} {gt : TG} {τ : α → L2.St → L2.St} {vs : List Nat} (src : EvI (fun _ => True) wi gt σ H l τ) (hz : l.length ≤ 40000) (hw : ∀ x, wipe (τ x (wipe σ vs)) vs = wipe σ vs)
    (he : ∀ x ∈ l, ∀ H1, Ex H H1 → EvL te (τ x (wipe σ vs)) H1 (f (g x))) : EvNA (tLc wi gt tYes te vs) σ H (nL K f) (l.map g) := by
  have := en_lcL (K := K) (b := fun _ => true) (t := tYes) (te := te) (f := f) g src hz hw (fun x _ H1 _ H2 _ Q q => q H2 (Ex.refl _)) (fun x hx _ => he x hx)
  rwa [List.filter_eq_self.mpr (fun _ _ => rfl)] at this
theorem en_lcU1 {l : List α} {f : β → List V} (g : α → β) {wi : TI} {gt : TG} {τ : α → L2.St → L2.St} {vs : List Nat} (src : EvI (fun _ => True) wi gt σ H l τ) (hz : l.length ≤ 40000) (hw : ∀ x, wipe (τ x (wipe σ vs)) vs = wipe σ vs)
    (he : ∀ x ∈ l, ∀ H1, Ex H H1 → EvU te (τ x (wipe σ vs)) H1 (f (g x))) : EvNA (tLc wi gt tYes te vs) σ H (nT K f) (l.map g) := by
  have := en_lcU (K := K) (b := fun _ => true) (t := tYes) (te := te) (f := f) g src hz hw (fun x _ H1 _ H2 _ Q q => q H2 (Ex.refl _)) (fun x hx _ => he x hx)
  rwa [List.filter_eq_self.mpr (fun _ _ => rfl)] at this
end
end Ho

/-! Ho, part I: order of lists of texts; startswith; text times number; == of lists of lists -/
namespace Ho
open PySem PySem.Spec PyProof.Rows L2 Evl
def ltT : List Row → List Row → Bool
  | [], [] => false
  | [], _ :: _ => true
  | _ :: _, [] => false
  | a :: l, b :: m => if a = b then ltT l m else decide (a < b)
def rLeD (K : PySem.W.Frag) : R2 := fun x y H Q => ∃ d e : PyData, Dp K H x d ∧ Dp K H y e ∧ PySem.W.alike d e = true ∧ d ≠ .none ∧ min d.depth e.depth ≤ 60 ∧ Q (.bl (!PySem.W.dataLt e d)) H
theorem kop_leD {X : Cx} {K : PySem.W.Frag} (hu : X.A.units + 64 < cLine) (hK : X.K = K := by rfl) : OpR X (compareOp .LtE) (rLeD K) := by
  subst hK
  intro pins s σ H x y v u Q I rx ry h
  obtain ⟨d, e, hd, he, hal, hn, hdep, q⟩ := h
  obtain ⟨as, r1⟩ := Dp.reads I d x v hd rx
  obtain ⟨bs, r2⟩ := Dp.reads I e y u he ry
  exact PySem.W.le_data r1 r2 hal hn (by omega) ⟨.bl _, H, I, rfl, q⟩
theorem alike_S : ∀ l m : List Row, PySem.W.alikeAll (l.map dS) (m.map dS) = true
  | [], m => by unfold PySem.W.alikeAll; rfl
  | a :: l, [] => by unfold PySem.W.alikeAll; rfl
  | a :: l, b :: m => by
    rw [List.map_cons, List.map_cons, PySem.W.alikeAll, alike_S l m]
    show (PySem.W.alike (.str (S a)) (.str (S b)) && true) = true
    rw [PySem.W.alike]
    rfl
theorem toks_S : ∀ l m : List Row, PyProof.Rows.lexLt PyProof.Rows.itemOrd (PySem.W.keyToksAll (l.map dS)) (PySem.W.keyToksAll (m.map dS)) = ltT l m
  | [], [] => by
    show PyProof.Rows.lexLt PyProof.Rows.itemOrd (PySem.W.keyToksAll []) (PySem.W.keyToksAll []) = false
    rw [PySem.W.keyToksAll]
    exact PyProof.Rows.lex_self (O := PyProof.Rows.itemOrd) _ _ _
  | [], b :: m => by
    show PyProof.Rows.lexLt PyProof.Rows.itemOrd (PySem.W.keyToksAll []) (PySem.W.keyToksAll (dS b :: m.map dS)) = true
    rw [PySem.W.keyToksAll, PySem.W.toks_all_cons]
    exact (PyProof.Rows.lex_diff (O := PyProof.Rows.itemOrd) (by simp)).trans (by decide)
  | a :: l, [] => by
    show PyProof.Rows.lexLt PyProof.Rows.itemOrd (PySem.W.keyToksAll (dS a :: l.map dS)) (PySem.W.keyToksAll []) = false
    rw [PySem.W.keyToksAll, PySem.W.toks_all_cons]
    exact (PyProof.Rows.lex_diff (O := PyProof.Rows.itemOrd) (by simp)).trans (by decide)
  | a :: l, b :: m => by
    have hal : PySem.W.alike (dS a) (dS b) = true := by
      show PySem.W.alike (.str (S a)) (.str (S b)) = true
      rw [PySem.W.alike]
    rw [List.map_cons, List.map_cons]
    unfold ltT
    by_cases h : a = b
    · subst h
      rw [if_pos rfl, PySem.W.dataLt_all_yes hal (by show PyData.eqv (.str (S a)) (.str (S a)) = true; rw [PyData.eqv]; simp), toks_S l m]
    · rw [if_neg h, PySem.W.dataLt_all_no hal (by
        show PyData.eqv (.str (S a)) (.str (S b)) = false
        rw [PyData.eqv]
        exact beq_eq_false_iff_ne.mpr fun e => h (S_inj e))]
      exact PySem.W.dataLt_str _ _
section
variable {K : PySem.W.Frag} {σ : L2.St} {H H' : Hp} {ta tb tc te tx tl : TE} {t u : TT} {x y z v : V} {xs ys : List V} {i j k : Int} {a b : Row} {A : Addr → Prop}
theorem ev_leLS {l m : List Row} (h1 : EvQ K ta σ H (l.map VS)) (h2 : EvQ K tb σ H (m.map VS)) : Ev (tOp (rLeD K) ta tb) σ H (.bl (!ltT m l)) := fun H1 e Q q =>
  h1 H1 e _ fun p H2 e2 g1 => h2 H2 (e.trans e2) _ fun p' H3 e3 g2 => ⟨.list (l.map dS), .list (m.map dS), .lst (SL.q (K := K) (exl (K := K) e3 g1)) (dp_S l), .lst (SL.q g2) (dp_S m), by rw [PySem.W.alike]; exact alike_S l m, by simp, by
    rw [PyData.depth, PyData.depth, depth_S, depth_S]
    decide, by
    rw [PySem.W.dataLt_list, toks_S]
    exact q H3 (e2.trans e3)⟩
/-! startswith -/
theorem starts_S (a b : Row) : Txt.startswith (S a) (S b) = decide (b <+: a) := by
  unfold Txt.startswith
  rw [PySem.StrLaws.subAt_eq]
  show (decide (0 + (S b).length ≤ (S a).length) && ((a.drop 0).take b.length == b)) = _
  rw [S_len, S_len, List.drop_zero, Bool.eq_iff_iff]
  simp only [Bool.and_eq_true, decide_eq_true_eq, beq_iff_eq]
  constructor
  · rintro ⟨_, h⟩
    exact List.prefix_iff_eq_take.mpr h.symm
  · intro h
    exact ⟨by have := h.length_le; omega, (List.prefix_iff_eq_take.mp h).symm⟩
theorem ev_startswith (ha : Ev ta σ H (VS a)) (hb : Ev tb σ H (VS b)) : Ev (tM1 (fun x xs H Q => ∃ a b, x = .str a ∧ xs = [.str b] ∧ Q (.bl (Txt.startswith a b)) H) ta tb) σ H (.bl (decide (b <+: a))) := fun H1 e Q q =>
  ha H1 e _ fun H2 e2 => ⟨⟨_, rfl⟩, hb H2 (e.trans e2) _ fun H3 e3 => ⟨S a, S b, rfl, rfl, by rw [starts_S]; exact q H3 (e2.trans e3)⟩⟩
/-! text * number -/
def rMulS : R2 := fun x y H Q => ∃ (a : Row) (i : Int), x = VS a ∧ y = .int i ∧ 0 ≤ i ∧ i ≤ 1000 ∧ a.length ≤ 40 ∧ Q (VS (List.replicate i.toNat a).flatten) H
theorem foldl_cps (a : Row) : ∀ (n : Nat) (acc : Array Nat), (List.replicate n (S a).cps).foldl (· ++ ·) acc = acc ++ ((List.replicate n a).flatten).toArray
  | 0, acc => by simp
  | n + 1, acc => by
    rw [List.replicate_succ, List.foldl_cons, foldl_cps a n, List.replicate_succ, List.flatten_cons]
    show (acc ++ a.toArray) ++ _ = _
    simp
theorem op_mulS {X : Cx} : OpR X (binaryOp .Mult) rMulS := by
  intro pins s σ H x y v u Q I rx ry h
  obtain ⟨a, i, rfl, rfl, h0, h1, hl, q⟩ := h
  obtain ⟨t, rfl⟩ := rx
  obtain ⟨t', rfl⟩ := ry
  have hS : (S a).length = a.length := S_len a
  refine PySem.P.mul_str (by
    rw [decide_eq_false (show ¬ i < -(2 ^ 63 : Int) by omega), decide_eq_false (show ¬ i ≥ 2 ^ 63 by omega)]; rfl) (fun g _ => ?_) (fun g _ => ?_) ?_
  · intro hh
    have : (1 : Int) ≤ (2 ^ 63 - 1) / i := by
      refine Int.le_ediv_of_mul_le (by omega) (by omega)
    have h2 : (40 : Int) ≤ (2 ^ 63 - 1) / i := Int.le_ediv_of_mul_le (by omega) (by omega)
    omega
  · have hb : (S a).length * i.toNat ≤ 40 * 1000 := Nat.mul_le_mul (by omega) (by omega)
    exact PyProof.Rows.short24 (Nat.le_trans hb (by decide))
  · by_cases h2 : i < 1
    · rw [if_pos h2]
      have hi : i = 0 := by omega
      subst hi
      exact ⟨by decide, ⟨VS [], H, I.tok _, ⟨_, rfl⟩, q⟩⟩
    · rw [if_neg h2]
      by_cases h3 : (i == 1 || (S a).length == 0) = true
      · rw [if_pos h3]
        have e : (List.replicate i.toNat a).flatten = a := by
          rw [Bool.or_eq_true, beq_iff_eq, beq_iff_eq] at h3
          rcases h3 with h3 | h3
          · subst h3
            simp
          · rw [hS] at h3
            have : a = [] := List.length_eq_zero_iff.mp h3
            subst this
            simp
        exact ⟨VS a, H, I, ⟨t, rfl⟩, e ▸ q⟩
      · rw [if_neg h3]
        have e : (⟨(List.replicate i.toNat (S a).cps).foldl (· ++ ·) #[]⟩ : Str) = S (List.replicate i.toNat a).flatten := by
          rw [foldl_cps]
          show (⟨#[] ++ ((List.replicate i.toNat a).flatten).toArray⟩ : Str) = ⟨((List.replicate i.toNat a).flatten).toArray⟩
          rw [Array.empty_append]
        rw [e]
        refine ⟨?_, ⟨VS (List.replicate i.toNat a).flatten, H, I.tok _, ⟨_, rfl⟩, q⟩⟩
        rw [S_len, List.length_flatten, List.map_replicate, List.sum_replicate_nat]
        have hb : i.toNat * a.length ≤ 1000 * 40 := Nat.mul_le_mul (by omega) hl
        exact Nat.le_trans hb (by decide)
theorem ev_mulS (ha : Ev ta σ H (VS a)) (hb : Ev tb σ H (.int i)) (h0 : 0 ≤ i) (h1 : i ≤ 1000) (hl : a.length ≤ 40) : Ev (tOp rMulS ta tb) σ H (VS (List.replicate i.toNat a).flatten) := fun H1 e Q q =>
  ha H1 e _ fun H2 e2 => hb H2 (e.trans e2) _ fun H3 e3 => ⟨a, i, rfl, rfl, h0, h1, hl, q H3 (e2.trans e3)⟩
theorem el_cat2 (ha : EvH ta σ H xs) (hb : EvH tb σ H ys) (hz : xs.length + ys.length ≤ 100000) : EvL (tOp rCat ta tb) σ H (xs ++ ys) := fun H1 e Q q =>
  ha H1 e _ fun p H2 e2 h2 => hb H2 (e.trans e2) _ fun p' H3 e3 h3 => ⟨p, p', _, _, rfl, rfl, e3 _ _ h2, h3, sz_of hz, fun l hl => q l _ (fresh_back (e2.trans e3) hl) ((e2.trans e3).trans (Ex.new hl)) upd_same⟩
theorem el_ifL {bb : Bool} (ht : EvT t σ H bb) (h1 : bb = true → EvL ta σ H xs) (h2 : bb = false → EvL tb σ H ys) : EvL (tIf t ta tb) σ H (if bb then xs else ys) := fun H1 e Q q =>
  ht H1 e _ fun H2 e2 => by
    cases bb with
    | true =>
      show ta σ H2 Q
      exact h1 rfl H2 (e.trans e2) Q fun p H3 hp e3 h3 => q p H3 (fresh_back e2 hp) (e2.trans e3) h3
    | false =>
      show tb σ H2 Q
      exact h2 rfl H2 (e.trans e2) Q fun p H3 hp e3 h3 => q p H3 (fresh_back e2 hp) (e2.trans e3) h3
end

/-! ### == of lists of lists of texts -/
def dLS (l : List Row) : PyData := .list (l.map dS)
theorem eqvAll_LS : ∀ l m : List (List Row), PyData.eqvAll (l.map dLS) (m.map dLS) = decide (l = m)
  | [], [] => by simp [PyData.eqvAll]
  | [], b :: m => by simp [PyData.eqvAll]
  | a :: l, [] => by simp [PyData.eqvAll]
  | a :: l, b :: m => by
    rw [List.map_cons, List.map_cons, PyData.eqvAll, eqvAll_LS l m]
    show (PyData.eqv (.list (a.map dS)) (.list (b.map dS)) && _) = _
    rw [PyData.eqv, eqvAll_S]
    by_cases h : a = b
    · subst h; simp
    · simp [h]
theorem lay_LS : ∀ l : List (List Row), (∀ r ∈ l, SmT r) → PyData.canLayAll0 (l.map dLS) = true
  | [], _ => by simp [PyData.canLayAll0]
  | a :: l, h => by
    rw [List.map_cons, PyData.canLayAll0, lay_LS l fun r hr => h r (List.mem_cons_of_mem _ hr)]
    show (PyData.canLay0 (.list (a.map dS)) && true) = true
    rw [PyData.canLay0, lay_S a (h a List.mem_cons_self)]
    rfl
theorem depth_LS : ∀ l : List (List Row), PyData.depthAll (l.map dLS) ≤ 1
  | [] => by simp [PyData.depthAll]
  | a :: l => by
    rw [List.map_cons, PyData.depthAll]
    have := depth_LS l
    show max (PyData.depth (.list (a.map dS))) _ ≤ 1
    rw [PyData.depth, depth_S]
    omega
theorem shaped_LS {l : List (List Row)} (h : ∀ r ∈ l, SmT r) : SeqAt.shaped (.list (l.map dLS)) = true := by
  unfold SeqAt.shaped
  rw [PyData.canLay0, lay_LS l h, PyData.depth]
  have := depth_LS l
  simp
  omega
theorem dp_LS {K : PySem.W.Frag} {H : Hp} : ∀ {l : List (List Row)} {vs : List V}, AllP (l.map (kL K Txts tru)) vs H → DpAll K H vs (l.map dLS)
  | [], vs, h => by
    obtain rfl : vs = [] := h
    exact .nil
  | a :: l, _, ⟨v, r, e, ⟨p, ep, h1, _⟩, t⟩ => by
    subst e ep
    exact .cons (.lst (slof h1).q (dp_S a)) (dp_LS t)
section
variable {K : PySem.W.Frag} {σ : L2.St} {H : Hp} {ta tb : TE}
theorem ev_neLLS {l m : List (List Row)} (h1 : EvG ta σ H (isA K (kL K Txts tru) l)) (h2 : EvG tb σ H (isA K (kL K Txts tru) m)) (s1 : ∀ r ∈ l, SmT r) (s2 : ∀ r ∈ m, SmT r) : Ev (tOp (rNeD K) ta tb) σ H (.bl (!decide (l = m))) := fun H1 e Q q =>
  h1 H1 e _ fun v H2 e2 g1 => h2 H2 (e.trans e2) _ fun v' H3 e3 g2 => by
    obtain ⟨p, rfl, vs, q1, q2⟩ := mon_A (mkL) l _ _ _ e3 g1
    obtain ⟨p', rfl, vs', q3, q4⟩ := g2
    refine ⟨.list (l.map dLS), .list (m.map dLS), .lst q1.q (dp_LS q2), .lst q3.q (dp_LS q4), shaped_LS s1, shaped_LS s2, ?_⟩
    rw [PyData.eqv, eqvAll_LS]
    exact q H3 (e2.trans e3)
theorem ev_eqLLS {l m : List (List Row)} (h1 : EvG ta σ H (isA K (kL K Txts tru) l)) (h2 : EvG tb σ H (isA K (kL K Txts tru) m)) (s1 : ∀ r ∈ l, SmT r) (s2 : ∀ r ∈ m, SmT r) : Ev (tOp (rEqD K) ta tb) σ H (.bl (decide (l = m))) := fun H1 e Q q =>
  h1 H1 e _ fun v H2 e2 g1 => h2 H2 (e.trans e2) _ fun v' H3 e3 g2 => by
    obtain ⟨p, rfl, vs, q1, q2⟩ := mon_A (mkL) l _ _ _ e3 g1
    obtain ⟨p', rfl, vs', q3, q4⟩ := g2
    refine ⟨.list (l.map dLS), .list (m.map dLS), .lst q1.q (dp_LS q2), .lst q3.q (dp_LS q4), shaped_LS s1, shaped_LS s2, ?_⟩
    rw [PyData.eqv, eqvAll_LS]
    exact q H3 (e2.trans e3)
end
end Ho
namespace Ho
open PySem PySem.Spec PyProof.Rows L2 Evl
/-! ### rows, tapes, readers: what the defs compute -/
def isRow (r : Row) (w : Int) : Bool := decide ((r.length : Int) = w) && r.all fun c => decide ([c] ∈ [[111], [46]])
def isLet (l : Row) : Bool := decide ((l.length : Int) = 1) && decide (l.headD 0 ∈ [97, 98, 99, 100, 101, 102, 103, 104, 105, 106, 107, 108, 109, 110, 111, 112, 113, 114, 115, 116, 117, 118, 119, 120, 121, 122])
def goes (r o : Row) : Bool := !(r.zip o).any fun p => decide ([p.1] = [111]) && decide ([p.2] = [46])
def mean (rd : Dic) (r : Row) : Row := (look rd r).getD []
def textOf (rd : Dic) (t : List Row) : Row := (t.map (mean rd)).flatten
def overB (t o : List Row) : Bool := decide ((t.length : Int) = (o.length : Int)) && (t.zip o).all fun p => goes p.1 p.2
def holesOf (t : List Row) : Int := (t.map fun r => ((r.count 111 : Nat) : Int)).sum
/-- a reader of a width -/
structure RdOk (rd : Dic) (w : Nat) : Prop where
  ne : rd ≠ []
  w1 : 1 ≤ w
  w4 : w ≤ 4
  nd : (rd.map (·.1)).Nodup
  row : ∀ p ∈ rd, isRow p.1 (w : Int) = true
  bl : ∀ p ∈ rd, 46 ∈ p.1
  lt : ∀ p ∈ rd, isLet p.2 = true
structure TpOk (t : List Row) (w : Nat) : Prop where
  len : t.length ≤ 30
  row : ∀ r ∈ t, isRow r (w : Int) = true
theorem isRow_len {r : Row} {w : Nat} (h : isRow r (w : Int) = true) : r.length = w := by
  unfold isRow at h
  simp only [Bool.and_eq_true, decide_eq_true_eq] at h
  omega
theorem isRow_mem {r : Row} {w : Int} (h : isRow r w = true) : ∀ c ∈ r, c = 111 ∨ c = 46 := by
  unfold isRow at h
  simp only [Bool.and_eq_true, List.all_eq_true, decide_eq_true_eq] at h
  intro c hc
  have := h.2 c hc
  simpa using this
theorem isRow_iff {r : Row} {w : Nat} : isRow r (w : Int) = true ↔ r.length = w ∧ ∀ c ∈ r, c = 111 ∨ c = 46 := by
  constructor
  · intro h
    exact ⟨isRow_len h, isRow_mem h⟩
  · rintro ⟨h1, h2⟩
    unfold isRow
    simp only [Bool.and_eq_true, List.all_eq_true, decide_eq_true_eq]
    refine ⟨by omega, fun c hc => ?_⟩
    rcases h2 c hc with e | e <;> simp [e]
theorem isLet_one {l : Row} (h : isLet l = true) : ∃ c, l = [c] ∧ 97 ≤ c ∧ c ≤ 122 := by
  unfold isLet at h
  simp only [Bool.and_eq_true, decide_eq_true_eq] at h
  match l, h with
  | [c], h => exact ⟨c, rfl, by have := h.2; simp at this; omega, by have := h.2; simp at this; omega⟩
  | [], h => simp at h
  | _ :: _ :: r, h => have := h.1; simp at this; omega
theorem isLet_of {c : Nat} (h1 : 97 ≤ c) (h2 : c ≤ 122) : isLet [c] = true := by
  unfold isLet
  simp
  omega
theorem mean_len {rd : Dic} {w : Nat} (ok : RdOk rd w) (r : Row) : (mean rd r).length ≤ 1 := by
  unfold mean
  cases h : look rd r with
  | none => simp
  | some v =>
    obtain ⟨c, e, _⟩ := isLet_one (ok.lt _ (look_mem h))
    have e : v = [c] := e
    subst e
    simp
theorem mean_cases {rd : Dic} {w : Nat} (ok : RdOk rd w) (r : Row) : mean rd r = [] ∨ ∃ c, mean rd r = [c] ∧ 97 ≤ c ∧ c ≤ 122 := by
  unfold mean
  cases h : look rd r with
  | none => exact .inl rfl
  | some v =>
    obtain ⟨c, e, h1, h2⟩ := isLet_one (ok.lt _ (look_mem h))
    exact .inr ⟨c, e, h1, h2⟩
theorem textOf_len {rd : Dic} {w : Nat} (ok : RdOk rd w) : ∀ t : List Row, (t.map (mean rd)).flatten.length ≤ t.length
  | [] => Nat.le_refl _
  | r :: t => by
    rw [List.map_cons, List.flatten_cons, List.length_append, List.length_cons]
    have := mean_len ok r
    have := textOf_len ok t
    omega
theorem rd_len {rd : Dic} {w : Nat} (ok : RdOk rd w) {p : Row × Row} (h : p ∈ rd) : p.1.length = w := isRow_len (ok.row p h)
theorem zipIdx_at {α : Type} {l : List α} {i : Nat} {x : α} {n : Nat} (h : l.zipIdx[i]? = some (x, n)) : n = i ∧ l[i]? = some x := by
  rw [List.getElem?_zipIdx] at h
  cases e : l[i]? with
  | none => rw [e] at h; cases h
  | some y =>
    rw [e] at h
    simp at h
    exact ⟨h.2.symm, by rw [h.1]⟩
/-! ### what the law draws -/
def primes : List Int := [1000003, 1000033, 1000037, 1000039, 1000081, 1000099, 1000117, 1000121, 1000133, 1000151, 1000159, 1000171, 1000183, 1000187, 1000193, 1000199]
def draw (c k m : Int) : Int := (c * 48271 + k * 69621) % primes.getD (k % 16).toNat 0 % m
theorem primes_pos : ∀ i : Nat, i < 16 → 0 < primes.getD i 0 := by decide
theorem draw_range {c k m : Int} (h : 0 < m) : 0 ≤ draw c k m ∧ draw c k m < m := ⟨Int.emod_nonneg _ (by omega), Int.emod_lt_of_pos _ h⟩
def cellAt (ns : List Int) (k : Int) : Int := if decide (k < (ns.length : Int)) then ((ns.getD k.toNat 0).natAbs : Int) else draw ((ns.sum.natAbs : Int) + 7919 * k) k 999983
theorem cellAt_nn (ns : List Int) (k : Int) : 0 ≤ cellAt ns k := by
  unfold cellAt
  split
  · omega
  · exact (draw_range (by decide)).1
def leftAt (l b : Int) : Nat → Int
  | 0 => l
  | n + 1 => leftAt l b n / b
def digit (cell base : Int) (t : Nat) : Int :=
  if 1000000000000000000 ≤ cell then leftAt (cell - 1000000000000000000) base t % base
  else (draw ((cell + 977 * (t : Int)) * (cell + 31 * (t : Int) + 5)) ((t : Int) % 9 + 1) 999983 * 1000003 + draw ((cell + 31 * (t : Int)) * (cell + 7) + 977 * (t : Int)) ((t : Int) % 7 + 2) 1000003) % base
def digits (ns : List Int) (k many base : Int) : List Int := (List.range many.toNat).map (digit (cellAt ns k) base)
theorem digit_range {c b : Int} (hb : 0 < b) (t : Nat) : 0 ≤ digit c b t ∧ digit c b t < b := by
  unfold digit
  split
  · exact ⟨Int.emod_nonneg _ (by omega), Int.emod_lt_of_pos _ hb⟩
  · exact ⟨Int.emod_nonneg _ (by omega), Int.emod_lt_of_pos _ hb⟩
theorem digits_mem {ns : List Int} {k m b : Int} (hb : 0 < b) : ∀ d ∈ digits ns k m b, 0 ≤ d ∧ d < b := by
  intro d hd
  obtain ⟨t, _, rfl⟩ := List.mem_map.mp hd
  exact digit_range hb t
theorem digits_len (ns : List Int) (k m b : Int) : (digits ns k m b).length = m.toNat := by simp [digits]
theorem digits_at {ns : List Int} {k m b : Int} (hb : 0 < b) (i : Nat) : 0 ≤ (digits ns k m b).getD i 0 ∧ ((digits ns k m b).getD i 0 < b) := by
  by_cases h : i < (digits ns k m b).length
  · rw [List.getD_eq_getElem?_getD, List.getElem?_eq_getElem h]
    exact digits_mem hb _ (List.getElem_mem h)
  · rw [List.getD_eq_getElem?_getD, List.getElem?_eq_none (by omega)]
    exact ⟨Int.le_refl _, hb⟩
/-! ### rows of a width -/
def bitC (n : Nat) (w : Int) (t : Nat) : Row := if decide (Builtin.bitAnd ((n : Int) / 2 ^ (w - 1 - (t : Int)).toNat) 1 = 1) then [111] else [46]
def rowN (w : Int) (n : Nat) : Row := ((List.range w.toNat).map (bitC n w)).flatten
def rowsL (w : Int) : List Row := (List.range (1 * 2 ^ w.toNat : Int).toNat).map (rowN w)
theorem bitC_len (n : Nat) (w : Int) (t : Nat) : (bitC n w t).length = 1 := by unfold bitC; split <;> rfl
theorem sum_ones {α : Type} (l : List α) : (l.map fun _ => 1).sum = l.length := by
  induction l with
  | nil => rfl
  | cons a l ih => rw [List.map_cons, List.sum_cons, ih, List.length_cons]; omega
theorem rowN_len (w : Int) (n : Nat) : (rowN w n).length = w.toNat := by
  unfold rowN
  rw [List.length_flatten, List.map_map]
  have : (List.length ∘ bitC n w) = fun _ => 1 := funext (bitC_len n w)
  rw [this, sum_ones, List.length_range]
theorem rowN_row (w : Nat) (n : Nat) : isRow (rowN w n) (w : Int) = true := by
  rw [isRow_iff]
  refine ⟨by rw [rowN_len]; rfl, fun c hc => ?_⟩
  obtain ⟨l, hl, hc⟩ := List.mem_flatten.mp hc
  obtain ⟨t, _, rfl⟩ := List.mem_map.mp hl
  unfold bitC at hc
  split at hc <;> simp at hc <;> simp [hc]
theorem rowsL_len (w : Int) : (rowsL w).length = 2 ^ w.toNat := by
  unfold rowsL
  rw [List.length_map, List.length_range, Int.one_mul]
  show ((2 : Int) ^ w.toNat).toNat = 2 ^ w.toNat
  have : ((2 : Int) ^ w.toNat) = ((2 ^ w.toNat : Nat) : Int) := by norm_cast
  rw [this, Int.toNat_natCast]
theorem rowsL_row (w : Nat) : ∀ r ∈ rowsL (w : Int), isRow r (w : Int) = true := by
  intro r hr
  obtain ⟨n, _, rfl⟩ := List.mem_map.mp hr
  exact rowN_row w n
theorem rowsL_nodup : ∀ w : Nat, w ≤ 4 → (rowsL (w : Int)).Nodup := by
  intro w hw
  match w, hw with
  | 0, _ => decide +kernel
  | 1, _ => decide +kernel
  | 2, _ => decide +kernel
  | 3, _ => decide +kernel
  | 4, _ => decide +kernel
/-- all but the row of holes alone have a sign without -/
theorem rowsL_blank : ∀ w : Nat, w ≤ 4 → ∀ r ∈ (rowsL (w : Int)).dropLast, 46 ∈ r := by
  intro w hw
  match w, hw with
  | 0, _ => decide +kernel
  | 1, _ => decide +kernel
  | 2, _ => decide +kernel
  | 3, _ => decide +kernel
  | 4, _ => decide +kernel
def letters : Row := [97, 98, 99, 100, 101, 102, 103, 104, 105, 106, 107, 108, 109, 110, 111, 112, 113, 114, 115, 116, 117, 118, 119, 120, 121, 122]
def pool (ns : List Int) (m : Int) : List Row := (digits ns m 3 26).map fun d => [letters.getD d.toNat 0]
theorem letters_at : ∀ i : Nat, i < 26 → isLet [letters.getD i 0] = true := by decide +kernel
theorem pool_len (ns : List Int) (m : Int) : (pool ns m).length = 3 := by
  unfold pool
  rw [List.length_map, digits_len]
  rfl
theorem pool_let (ns : List Int) (m : Int) (i : Nat) (hi : i < 3) : isLet ((pool ns m).getD i []) = true := by
  have hl : i < (digits ns m 3 26).length := by rw [digits_len]; exact hi
  unfold pool
  rw [List.getD_eq_getElem?_getD, List.getElem?_map, List.getElem?_eq_getElem hl]
  have := digits_mem (ns := ns) (k := m) (m := 3) (b := 26) (by decide) _ (List.getElem_mem hl)
  exact letters_at _ (by omega)
/-! ### a reader by a cell -/
def rdW (ds : List Int) (least : Int) : Int := least + ds.getD (0 : Int).toNat 0 % (5 - least)
def rdRows (ds : List Int) (least : Int) : List Row := cutG (rowsL (rdW ds least)) none (some (-1))
def rdBegin (ds : List Int) (least : Int) : Int := ds.getD (0 : Int).toNat 0 / 4 % ((rdRows ds least).length : Int)
def rdStep (ds : List Int) (pl : List Row) (acc : Dic) (p : Int × Row) : Dic :=
  if decide (p.1 % 5 < 2 + ds.getD (0 : Int).toNat 0 / 64 % 3) then put acc p.2 (pl.getD (p.1 / 5 % 3).toNat []) else acc
theorem rdStep_T {ds : List Int} {pl : List Row} {acc : Dic} {p : Int × Row} (h : decide (p.1 % 5 < 2 + ds.getD (0 : Int).toNat 0 / 64 % 3) = true) : rdStep ds pl acc p = put acc p.2 (pl.getD (p.1 / 5 % 3).toNat []) := by
  unfold rdStep
  rw [if_pos h]
theorem rdStep_F {ds : List Int} {pl : List Row} {acc : Dic} {p : Int × Row} (h : decide (p.1 % 5 < 2 + ds.getD (0 : Int).toNat 0 / 64 % 3) = false) : rdStep ds pl acc p = acc := by
  unfold rdStep
  rw [if_neg (by rw [h]; decide)]
def rdZip (ds : List Int) (least : Int) : List (Int × Row) := (cutG ds (some 1) none).zip (cutG (rdRows ds least) (some (rdBegin ds least)) none ++ cutG (rdRows ds least) none (some (rdBegin ds least)))
def rdLoop (ds : List Int) (pl : List Row) (least : Int) : Dic := (rdZip ds least).foldl (rdStep ds pl) []
def rdr (ds : List Int) (pl : List Row) (least : Int) : Dic :=
  if dEq (rdLoop ds pl least) [] then put (rdLoop ds pl least) ((rdRows ds least).getD (rdBegin ds least).toNat []) (pl.getD (0 : Int).toNat []) else rdLoop ds pl least
def reader (ns : List Int) (m : Int) (pl : List Row) (least : Int) : Dic := rdr (digits ns m 17 1000) pl least
theorem dEq_nil (r : Dic) : dEq r [] = true ↔ r = [] := by
  unfold dEq
  cases r with
  | nil => simp
  | cons p r => simp [look_nil]
theorem rdW_range {ds : List Int} {least : Int} (h1 : 1 ≤ least) (h4 : least ≤ 4) : least ≤ rdW ds least ∧ rdW ds least ≤ 4 := by
  unfold rdW
  have := Int.emod_nonneg (ds.getD (0 : Int).toNat 0) (show 5 - least ≠ 0 by omega)
  have := Int.emod_lt_of_pos (ds.getD (0 : Int).toNat 0) (show 0 < 5 - least by omega)
  omega
theorem rdRows_len {ds : List Int} {least : Int} (h1 : 1 ≤ least) (h4 : least ≤ 4) : 1 ≤ (rdRows ds least).length ∧ (rdRows ds least).length ≤ 15 := by
  unfold rdRows
  rw [cutG_butlast, List.length_dropLast, rowsL_len]
  have := rdW_range (ds := ds) h1 h4
  have h : rdW ds least = 1 ∨ rdW ds least = 2 ∨ rdW ds least = 3 ∨ rdW ds least = 4 := by omega
  rcases h with h | h | h | h <;> rw [h] <;> decide
theorem rdBegin_range {ds : List Int} {least : Int} (h1 : 1 ≤ least) (h4 : least ≤ 4) : 0 ≤ rdBegin ds least ∧ rdBegin ds least < ((rdRows ds least).length : Int) := by
  have := rdRows_len (ds := ds) h1 h4
  exact ⟨Int.emod_nonneg _ (by omega), Int.emod_lt_of_pos _ (by omega)⟩
theorem rdRows_ok {ds : List Int} {least : Int} {w : Nat} (hw : rdW ds least = (w : Int)) (h4 : w ≤ 4) : ∀ r ∈ rdRows ds least, isRow r (w : Int) = true ∧ 46 ∈ r := by
  intro r hr
  unfold rdRows at hr
  rw [cutG_butlast, hw] at hr
  exact ⟨rowsL_row w r ((List.dropLast_sublist _).subset hr), rowsL_blank w h4 r hr⟩
theorem fold_keeps {ds : List Int} {pl : List Row} {w : Nat} (hpl : ∀ i, i < 3 → isLet (pl.getD i []) = true) : ∀ (z : List (Int × Row)) (acc : Dic), (∀ p ∈ z, isRow p.2 (w : Int) = true ∧ 46 ∈ p.2) →
    ((acc.map (·.1)).Nodup ∧ ∀ p ∈ acc, isRow p.1 (w : Int) = true ∧ 46 ∈ p.1 ∧ isLet p.2 = true) →
    (((z.foldl (rdStep ds pl) acc).map (·.1)).Nodup ∧ ∀ p ∈ z.foldl (rdStep ds pl) acc, isRow p.1 (w : Int) = true ∧ 46 ∈ p.1 ∧ isLet p.2 = true)
  | [], acc, _, h => h
  | q :: z, acc, hz, h => by
    rw [List.foldl_cons]
    refine fold_keeps hpl z _ (fun p hp => hz p (List.mem_cons_of_mem _ hp)) ?_
    unfold rdStep
    split
    · refine ⟨put_nodup h.1 _ _, fun p hp => ?_⟩
      rcases put_mem hp with hp | rfl
      · exact h.2 p hp
      · have := hz q List.mem_cons_self
        refine ⟨this.1, this.2, hpl _ ?_⟩
        have := Int.emod_nonneg (q.1 / 5) (show (3 : Int) ≠ 0 by decide)
        have := Int.emod_lt_of_pos (q.1 / 5) (show (0 : Int) < 3 by decide)
        omega
    · exact h
theorem rdr_ok {ds : List Int} {pl : List Row} {least : Int} (h1 : 1 ≤ least) (h4 : least ≤ 4) (hpl : ∀ i, i < 3 → isLet (pl.getD i []) = true) : RdOk (rdr ds pl least) (rdW ds least).toNat := by
  have hw := rdW_range (ds := ds) h1 h4
  have hwn : rdW ds least = (((rdW ds least).toNat : Nat) : Int) := by omega
  have hb := rdBegin_range (ds := ds) h1 h4
  have hrows := rdRows_ok hwn (by omega)
  have hz : ∀ p ∈ rdZip ds least, isRow p.2 (((rdW ds least).toNat : Nat) : Int) = true ∧ 46 ∈ p.2 := by
    intro p hp
    have := (List.of_mem_zip hp).2
    rw [cutG_from _ hb.1, cutG_to _ hb.1] at this
    rcases List.mem_append.mp this with h | h
    · exact hrows _ (List.mem_of_mem_drop h)
    · exact hrows _ (List.mem_of_mem_take h)
  have hl := fold_keeps (ds := ds) hpl (rdZip ds least) [] hz ⟨List.nodup_nil, fun p hp => nomatch hp⟩
  have hl : ((rdLoop ds pl least).map (·.1)).Nodup ∧ _ := hl
  unfold rdr
  by_cases h : dEq (rdLoop ds pl least) [] = true
  · rw [if_pos h]
    have e := (dEq_nil _).mp h
    rw [e]
    have hr : (rdRows ds least).getD (rdBegin ds least).toNat [] ∈ rdRows ds least := by
      rw [List.getD_eq_getElem?_getD, List.getElem?_eq_getElem (by omega)]
      exact List.getElem_mem _
    have := hrows _ hr
    refine ⟨put_ne_nil _ _ _, by omega, by omega, put_nodup (r := []) List.nodup_nil _ _, fun p hp => ?_, fun p hp => ?_, fun p hp => ?_⟩
    · rcases put_mem hp with hp | rfl
      · cases hp
      · exact this.1
    · rcases put_mem hp with hp | rfl
      · cases hp
      · exact this.2
    · rcases put_mem hp with hp | rfl
      · cases hp
      · exact hpl 0 (by decide)
  · rw [if_neg h]
    exact ⟨fun e => h ((dEq_nil _).mpr e), by omega, by omega, hl.1, fun p hp => (hl.2 p hp).1, fun p hp => (hl.2 p hp).2.1, fun p hp => (hl.2 p hp).2.2⟩
/-! ### tapes by a cell -/
def tapeRow (w d : Int) : Row := (rowsL w).getD (Builtin.bitAnd (d % 16) (Builtin.bitOr (d / 16 % 16) (d / 256 % 2 * 15)) % ((rowsL w).length : Int)).toNat []
def tapeL (ns : List Int) (m w n : Int) : List Row := (digits ns m n 4096).map (tapeRow w)
theorem rowsL_pos (w : Int) : 0 < ((rowsL w).length : Int) := by
  rw [rowsL_len]
  have := Nat.pow_pos (n := w.toNat) (show 0 < 2 by decide)
  omega
theorem rowsL_le {w : Int} (h : w ≤ 4) : (rowsL w).length ≤ 16 := by
  rw [rowsL_len]
  exact Nat.pow_le_pow_right (show 1 ≤ 2 by decide) (show w.toNat ≤ 4 by omega)
theorem tapeRow_ok (w : Nat) (d : Int) : isRow (tapeRow w d) (w : Int) = true := by
  have hp := rowsL_pos w
  unfold tapeRow
  rw [List.getD_eq_getElem?_getD, List.getElem?_eq_getElem (by have := Int.emod_lt_of_pos (Builtin.bitAnd (d % 16) (Builtin.bitOr (d / 16 % 16) (d / 256 % 2 * 15))) hp; have := Int.emod_nonneg (Builtin.bitAnd (d % 16) (Builtin.bitOr (d / 16 % 16) (d / 256 % 2 * 15))) (show ((rowsL (w : Int)).length : Int) ≠ 0 by omega); omega)]
  exact rowsL_row w _ (List.getElem_mem _)
theorem tapeL_len (ns : List Int) (m w n : Int) : (tapeL ns m w n).length = n.toNat := by
  unfold tapeL
  rw [List.length_map, digits_len]
theorem tapeL_ok (ns : List Int) (m : Int) (w : Nat) {n : Int} (h : n ≤ 30) : TpOk (tapeL ns m w n) w := by
  refine ⟨by rw [tapeL_len]; omega, fun r hr => ?_⟩
  obtain ⟨d, _, rfl⟩ := List.mem_map.mp hr
  exact tapeRow_ok w d
/-! ### the law's own answers -/
theorem goes_alt {r o : Row} {w : Nat} (hr : isRow r (w : Int) = true) (ho : isRow o (w : Int) = true) :
    (decide ((r.length : Int) = (o.length : Int)) && (r.zip o).all fun p => decide ([p.1] = [46]) || decide ([p.2] = [111])) = goes r o := by
  rw [isRow_len hr, isRow_len ho, decide_eq_true rfl, Bool.true_and]
  have h1 := isRow_mem hr
  have h2 := isRow_mem ho
  unfold goes
  rw [List.not_any_eq_all_not, Bool.eq_iff_iff, List.all_eq_true, List.all_eq_true]
  refine forall_congr' fun p => forall_congr' fun hp => ?_
  have hm := List.of_mem_zip (a := p.1) (b := p.2) hp
  rcases h1 _ hm.1 with e | e <;> rcases h2 _ hm.2 with e' | e' <;> simp [e, e']
theorem dEq_self {rd : Dic} (h : (rd.map (·.1)).Nodup) : dEq rd rd = true := by
  unfold dEq
  rw [beq_self_eq_true, Bool.true_and, List.all_eq_true]
  intro p hp
  rw [look_nodup h p hp]
  simp
theorem TpOk.small {t : List Row} {w : Nat} (h : TpOk t w) : SmT t := fun r hr c hc => by
  rcases isRow_mem (h.row r hr) c hc with e | e <;> omega
/-! ### all rows, rows above, below -/
def genL : Nat → List Row
  | 0 => [[]]
  | n + 1 => (genL n).map (· ++ [46]) ++ (genL n).map (· ++ [111])
theorem rising_pw : ∀ {l : List Row}, l.Pairwise (fun a b => ¬ b < a) → rising l
  | [], _ => trivial
  | a :: r, h => ⟨(List.pairwise_cons.mp h).1, rising_pw (List.pairwise_cons.mp h).2⟩
theorem rows_perm : ∀ w : Nat, w ≤ 4 → (rowsL (w : Int)).Perm (genL w) := by
  intro w hw
  match w, hw with
  | 0, _ => decide +kernel
  | 1, _ => decide +kernel
  | 2, _ => decide +kernel
  | 3, _ => decide +kernel
  | 4, _ => decide +kernel
theorem rows_rising : ∀ w : Nat, w ≤ 4 → rising (rowsL (w : Int)) := by
  intro w hw
  refine rising_pw ?_
  match w, hw with
  | 0, _ => decide +kernel
  | 1, _ => decide +kernel
  | 2, _ => decide +kernel
  | 3, _ => decide +kernel
  | 4, _ => decide +kernel
theorem genL_len : ∀ n : Nat, n ≤ 4 → (genL n).length ≤ 16 := by decide +kernel
theorem genL_row : ∀ n : Nat, ∀ r ∈ genL n, r.length = n
  | 0, r, h => by simp [genL] at h; simp [h]
  | n + 1, r, h => by
    unfold genL at h
    rcases List.mem_append.mp h with h | h
    · obtain ⟨q, hq, rfl⟩ := List.mem_map.mp h
      simp [genL_row n q hq]
    · obtain ⟨q, hq, rfl⟩ := List.mem_map.mp h
      simp [genL_row n q hq]
def aboveL (r : Row) : List Row := (rowsL (r.length : Int)).filter (goes r)
def belowL (r : Row) : List Row := (rowsL (r.length : Int)).filter fun o => goes o r
theorem aboveL_row {r o : Row} (h : o ∈ aboveL r) : isRow o (r.length : Int) = true := rowsL_row _ _ (List.mem_filter.mp h).1
theorem belowL_row {r o : Row} (h : o ∈ belowL r) : isRow o (r.length : Int) = true := rowsL_row _ _ (List.mem_filter.mp h).1
theorem aboveL_len {r : Row} (h : r.length ≤ 4) : (aboveL r).length ≤ 16 := Nat.le_trans (List.length_filter_le _ _) (rowsL_le (by omega))
theorem belowL_len {r : Row} (h : r.length ≤ 4) : (belowL r).length ≤ 16 := Nat.le_trans (List.length_filter_le _ _) (rowsL_le (by omega))
def costOf (r o : Row) : Int := ((o.count 111 : Nat) : Int) - ((r.count 111 : Nat) : Int)
/-- a text -/
structure TxOk (x : Row) : Prop where
  len : x.length ≤ 30
  lt : ∀ c ∈ x, 97 ≤ c ∧ c ≤ 122
theorem TxOk.drop {x : Row} (h : TxOk x) (n : Nat) : TxOk (x.drop n) := ⟨by rw [List.length_drop]; have := h.len; omega, fun c hc => h.lt c (List.mem_of_mem_drop hc)⟩
theorem TxOk.take {x : Row} (h : TxOk x) (n : Nat) : TxOk (x.take n) := ⟨by rw [List.length_take]; have := h.len; omega, fun c hc => h.lt c (List.mem_of_mem_take hc)⟩
theorem TxOk.nil : TxOk [] := ⟨by decide, fun c hc => nomatch hc⟩
theorem letter_in {c : Nat} (h1 : 97 ≤ c) (h2 : c ≤ 122) : c ∈ ([97, 98, 99, 100, 101, 102, 103, 104, 105, 106, 107, 108, 109, 110, 111, 112, 113, 114, 115, 116, 117, 118, 119, 120, 121, 122] : Row) := by
  simp
  omega
theorem textOf_ok {rd : Dic} {w : Nat} (ok : RdOk rd w) {t : List Row} (h : t.length ≤ 30) : TxOk (textOf rd t) := by
  refine ⟨Nat.le_trans (textOf_len ok t) h, fun c hc => ?_⟩
  obtain ⟨l, hl, hc⟩ := List.mem_flatten.mp hc
  obtain ⟨r, _, rfl⟩ := List.mem_map.mp hl
  rcases mean_cases ok r with e | ⟨d, e, h1, h2⟩
  · rw [e] at hc
    cases hc
  · rw [e] at hc
    obtain rfl := List.mem_singleton.mp hc
    exact ⟨h1, h2⟩
def lawText (ds : List Int) (pl : List Row) : Row := (ds.map fun d => if decide (d / 26 < 23) then pl.getD (d / 26 % 3).toNat [] else [letters.getD (d % 26).toNat 0]).flatten
def lawTx (ns : List Int) (m : Int) (pl : List Row) (n : Int) : Row := lawText (digits ns m n 624) pl
theorem lawText_len {ds : List Int} {pl : List Row} (hpl : ∀ i, i < 3 → isLet (pl.getD i []) = true) : (lawText ds pl).length = ds.length := by
  unfold lawText
  rw [List.length_flatten, List.map_map]
  have : (ds.map (List.length ∘ fun d => if decide (d / 26 < 23) then pl.getD (d / 26 % 3).toNat [] else [letters.getD (d % 26).toNat 0])) = ds.map fun _ => 1 := List.map_congr_left fun d _ => by
    simp only [Function.comp]
    split
    · obtain ⟨c, e, _⟩ := isLet_one (hpl (d / 26 % 3).toNat (by omega))
      rw [e]
      rfl
    · rfl
  rw [this, sum_ones]
theorem lawText_ok {ds : List Int} {pl : List Row} (hpl : ∀ i, i < 3 → isLet (pl.getD i []) = true) (h : ds.length ≤ 30) : TxOk (lawText ds pl) := by
  refine ⟨by rw [lawText_len hpl]; exact h, fun c hc => ?_⟩
  obtain ⟨l, hl, hc⟩ := List.mem_flatten.mp hc
  obtain ⟨d, _, rfl⟩ := List.mem_map.mp hl
  split at hc
  · obtain ⟨c', e, h1, h2⟩ := isLet_one (hpl (d / 26 % 3).toNat (by omega))
    rw [e] at hc
    obtain rfl := List.mem_singleton.mp hc
    exact ⟨h1, h2⟩
  · obtain rfl := List.mem_singleton.mp hc
    obtain ⟨c', e, h1, h2⟩ := isLet_one (letters_at (d % 26).toNat (by omega))
    have e := List.cons.inj e
    rw [e.1]
    exact ⟨h1, h2⟩
theorem lawTx_len (ns : List Int) (m : Int) {pl : List Row} (hpl : ∀ i, i < 3 → isLet (pl.getD i []) = true) (n : Int) : (lawTx ns m pl n).length = n.toNat := by
  unfold lawTx
  rw [lawText_len hpl, digits_len]
theorem lawTx_ok (ns : List Int) (m : Int) {pl : List Row} (hpl : ∀ i, i < 3 → isLet (pl.getD i []) = true) {n : Int} (h : n ≤ 30) : TxOk (lawTx ns m pl n) := lawText_ok hpl (by rw [digits_len]; omega)
/-! ### ways -/
def fits (rd : Dic) (x o : Row) : Bool := decide (mean rd o <+: x)
def W (rd : Dic) : List Row → Row → Int
  | [], x => if x = [] then 1 else 0
  | r :: t, x => ((aboveL r).map fun o => if fits rd x o then W rd t (x.drop (mean rd o).length) else 0).sum
def stp (rd : Dic) (t : List Row) (x o : Row) : Int := if fits rd x o then W rd t (x.drop (mean rd o).length) else 0
theorem W_cons (rd : Dic) (r : Row) (t : List Row) (x : Row) : W rd (r :: t) x = ((aboveL r).map (stp rd t x)).sum := rfl
theorem sum_nn {α : Type} {f : α → Int} : ∀ {l : List α}, (∀ a ∈ l, 0 ≤ f a) → 0 ≤ (l.map f).sum
  | [], _ => Int.le_refl _
  | a :: l, h => by
    rw [List.map_cons, List.sum_cons]
    have := h a List.mem_cons_self
    have := sum_nn (l := l) fun b hb => h b (List.mem_cons_of_mem _ hb)
    omega
theorem W_nn (rd : Dic) : ∀ (t : List Row) (x : Row), 0 ≤ W rd t x
  | [], x => by unfold W; split <;> omega
  | r :: t, x => by
    unfold W
    refine sum_nn fun o _ => ?_
    split
    · exact W_nn rd t _
    · exact Int.le_refl _
theorem stp_nn (rd : Dic) (t : List Row) (x o : Row) : 0 ≤ stp rd t x o := by
  unfold stp
  split
  · exact W_nn rd t _
  · exact Int.le_refl _
theorem sum_split {rd : Dic} {w : Nat} (ok : RdOk rd w) (F : Nat → Int) (y : Row) : ∀ L : List Row,
    (L.map fun o => if fits rd y o then F (mean rd o).length else 0).sum = ((L.map (mean rd)).count [] : Int) * F 0 + (match y with | [] => 0 | c :: _ => ((L.map (mean rd)).count [c] : Int) * F 1)
  | [] => by cases y <;> simp
  | o :: L => by
    rw [List.map_cons, List.sum_cons, sum_split ok F y L, List.map_cons, List.count_cons, Int.natCast_add]
    rcases mean_cases ok o with e | ⟨d, e, _⟩
    · rw [e]
      have hf : fits rd y o = true := by unfold fits; rw [e]; simp
      rw [hf]
      cases y with
      | nil => simp [Int.add_mul]; omega
      | cons c z => simp [List.count_cons, Int.add_mul]; omega
    · rw [e]
      cases y with
      | nil =>
        have hf : fits rd [] o = false := by unfold fits; rw [e]; simp
        rw [hf]
        simp
      | cons c z =>
        simp only [List.count_cons, Int.natCast_add]
        by_cases h : d = c
        · subst h
          have hf : fits rd (d :: z) o = true := by unfold fits; rw [e]; simp
          rw [hf]
          simp [Int.add_mul]
          omega
        · have hf : fits rd (c :: z) o = false := by unfold fits; rw [e]; simp [h]
          rw [hf]
          simp [h]
def lineL (rd : Dic) (t : List Row) (x : Row) : List Int := (List.range (x.length + 1)).map fun m => W rd t (x.drop m)
def tblL (rd : Dic) (t : List Row) (x : Row) : List (List Int) := (List.range (t.length + 1)).map fun k => lineL rd (t.drop k) x
def tblT (rd : Dic) (t : List Row) (x : Row) (i : Nat) : List (List Int) := (List.range (i + 1)).map fun j => lineL rd (t.drop (t.length - j)) x
theorem lineL_len (rd : Dic) (t : List Row) (x : Row) : (lineL rd t x).length = x.length + 1 := by simp [lineL]
theorem lineL_at {rd : Dic} {t : List Row} {x : Row} {m : Nat} (h : m ≤ x.length) : (lineL rd t x).getD m 0 = W rd t (x.drop m) := by
  unfold lineL
  rw [List.getD_eq_getElem?_getD, List.getElem?_map, List.getElem?_range (by omega)]
  rfl
theorem lineL_nil (rd : Dic) (x : Row) : lineL rd [] x = List.replicate x.length 0 ++ [1] := by
  unfold lineL
  rw [List.range_succ, List.map_append]
  congr 1
  · refine List.ext_getElem (by simp) fun i h1 h2 => ?_
    simp only [List.length_map, List.length_range] at h1
    simp only [List.getElem_map, List.getElem_range, List.getElem_replicate]
    unfold W
    rw [if_neg]
    simp
    omega
  · simp [W]
theorem tblL_len (rd : Dic) (t : List Row) (x : Row) : (tblL rd t x).length = t.length + 1 := by simp [tblL]
theorem tblL_at {rd : Dic} {t : List Row} {x : Row} {k : Nat} (h : k ≤ t.length) : (tblL rd t x).getD k [] = lineL rd (t.drop k) x := by
  unfold tblL
  rw [List.getD_eq_getElem?_getD, List.getElem?_map, List.getElem?_range (by omega)]
  rfl
theorem tblT_zero (rd : Dic) (t : List Row) (x : Row) : tblT rd t x 0 = [List.replicate x.length 0 ++ [1]] := by
  unfold tblT
  simp [lineL_nil]
theorem tblT_succ (rd : Dic) (t : List Row) (x : Row) (i : Nat) : tblT rd t x (i + 1) = tblT rd t x i ++ [lineL rd (t.drop (t.length - (i + 1))) x] := by
  unfold tblT
  rw [List.range_succ, List.map_append]
  rfl
theorem tblT_last (rd : Dic) (t : List Row) (x : Row) (i : Nat) : (tblT rd t x i).getLast? = some (lineL rd (t.drop (t.length - i)) x) := by
  unfold tblT
  rw [List.range_succ, List.map_append]
  simp
theorem tblT_rev (rd : Dic) (t : List Row) (x : Row) : (tblT rd t x t.length).reverse = tblL rd t x := by
  unfold tblT tblL
  refine List.ext_getElem (by simp) fun i h1 h2 => ?_
  simp only [List.length_reverse, List.length_map, List.length_range] at h1
  rw [List.getElem_reverse]
  simp only [List.length_map, List.length_range, List.getElem_map, List.getElem_range]
  congr 2
  omega
theorem drop_rev {t : List Row} {i : Nat} {r : Row} (h : t.reverse[i]? = some r) : t.drop (t.length - (i + 1)) = r :: t.drop (t.length - i) := by
  have hi := (List.getElem?_eq_some_iff.mp h).1
  rw [List.length_reverse] at hi
  rw [List.getElem?_reverse hi] at h
  have h2 := (List.getElem?_eq_some_iff.mp h)
  obtain ⟨h3, h4⟩ := h2
  have e : t.length - (i + 1) = t.length - 1 - i := by omega
  rw [e, ← h4, List.drop_eq_getElem_cons h3]
  congr 2
  omega
theorem tblT_len (rd : Dic) (t : List Row) (x : Row) (i : Nat) : (tblT rd t x i).length = i + 1 := by simp [tblT]
/-- one line from the next one -/
theorem line_step {rd : Dic} {w : Nat} (ok : RdOk rd w) (r : Row) (t : List Row) (x : Row) {m : Nat} (h : m ≤ x.length) :
    (((aboveL r).map (mean rd)).count [] : Int) * W rd t (x.drop m) + (if (m : Int) < (x.length : Int) then (((aboveL r).map (mean rd)).count [x.getD m 0] : Int) * W rd t (x.drop (m + 1)) else 0) = W rd (r :: t) (x.drop m) := by
  have := sum_split ok (fun k => W rd t ((x.drop m).drop k)) (x.drop m) (aboveL r)
  rw [W_cons]
  have e2 : (aboveL r).map (stp rd t (x.drop m)) = (aboveL r).map fun o => if fits rd (x.drop m) o then W rd t ((x.drop m).drop (mean rd o).length) else 0 := rfl
  rw [e2, this]
  by_cases hm : m < x.length
  · rw [if_pos (by omega)]
    have ed : x.drop m = x[m] :: x.drop (m + 1) := List.drop_eq_getElem_cons hm
    have eg : x.getD m 0 = x[m] := by rw [List.getD_eq_getElem?_getD, List.getElem?_eq_getElem hm]; rfl
    rw [eg, ed]
    rfl
  · have : m = x.length := by omega
    subst this
    rw [if_neg (by omega), List.drop_length]
    rfl
/-! numbers -/
def pick (f : Row → Int) : List Row → Int → Option (Row × Int)
  | [], _ => none
  | o :: L, n => if n < f o then some (o, n) else pick f L (n - f o)
def bef (f : Row → Int) : List Row → Row → Int
  | [], _ => 0
  | o' :: L, o => if o' = o then 0 else f o' + bef f L o
theorem pick_ok {f : Row → Int} (hf : ∀ o, 0 ≤ f o) : ∀ {L : List Row} {n : Int}, L.Nodup → 0 ≤ n → n < (L.map f).sum → ∃ o n', pick f L n = some (o, n') ∧ o ∈ L ∧ 0 ≤ n' ∧ n' < f o ∧ n = bef f L o + n'
  | [], n, _, h0, h1 => by simp at h1; omega
  | o :: L, n, nd, h0, h1 => by
    unfold pick
    by_cases h : n < f o
    · rw [if_pos h]
      exact ⟨o, n, rfl, List.mem_cons_self, h0, h, by unfold bef; rw [if_pos rfl]; omega⟩
    · rw [if_neg h]
      rw [List.map_cons, List.sum_cons] at h1
      have nd := List.nodup_cons.mp nd
      obtain ⟨o2, n2, e, hm, a, b, c⟩ := pick_ok hf (L := L) (n := n - f o) nd.2 (by omega) (by omega)
      refine ⟨o2, n2, e, List.mem_cons_of_mem _ hm, a, b, ?_⟩
      unfold bef
      rw [if_neg (show ¬ o = o2 from fun z => nd.1 (by rw [z]; exact hm))]
      omega
def U (rd : Dic) : List Row → Row → Int → List Row
  | [], _, _ => []
  | r :: t, x, n => match pick (stp rd t x) (aboveL r) n with
    | some (o, n') => o :: U rd t (x.drop (mean rd o).length) n'
    | none => []
def rank (rd : Dic) : List Row → Row → List Row → Int
  | r :: t, x, o :: os => bef (stp rd t x) (aboveL r) o + rank rd t (x.drop (mean rd o).length) os
  | _, _, _ => 0
theorem aboveL_nodup {r : Row} (h : r.length ≤ 4) : (aboveL r).Nodup := (rowsL_nodup _ h).filter _
theorem aboveL_goes {r o : Row} (h : o ∈ aboveL r) : goes r o = true := (List.mem_filter.mp h).2
theorem U_cons {rd : Dic} {r : Row} {t : List Row} {x : Row} {n : Int} {o : Row} {n' : Int} (h : pick (stp rd t x) (aboveL r) n = some (o, n')) : U rd (r :: t) x n = o :: U rd t (x.drop (mean rd o).length) n' := by
  conv => lhs; unfold U
  rw [h]
structure UOk (rd : Dic) (t : List Row) (x : Row) (n : Int) (u : List Row) : Prop where
  len : u.length = t.length
  go : ∀ p ∈ t.zip u, goes p.1 p.2 = true ∧ isRow p.2 (p.1.length : Int) = true
  tx : textOf rd u = x
  rk : rank rd t x u = n
theorem stp_pos {rd : Dic} {t : List Row} {x o : Row} {n : Int} (h0 : 0 ≤ n) (h : n < stp rd t x o) : fits rd x o = true ∧ n < W rd t (x.drop (mean rd o).length) := by
  unfold stp at h
  split at h
  · exact ⟨by assumption, h⟩
  · omega
theorem U_ok {rd : Dic} : ∀ {t : List Row} {x : Row} {n : Int}, (∀ r ∈ t, r.length ≤ 4) → 0 ≤ n → n < W rd t x → UOk rd t x n (U rd t x n)
  | [], x, n, _, h0, h1 => by
    unfold W at h1
    split at h1
    · rename_i e
      subst e
      have : n = 0 := by omega
      subst this
      exact ⟨rfl, fun p hp => (nomatch hp), rfl, rfl⟩
    · omega
  | r :: t, x, n, ht, h0, h1 => by
    have hr := ht r List.mem_cons_self
    rw [W_cons] at h1
    obtain ⟨o, n', e, hm, a, b, c⟩ := pick_ok (stp_nn rd t x) (aboveL_nodup hr) h0 h1
    obtain ⟨hf, hw⟩ := stp_pos a b
    have ih := U_ok (fun q hq => ht q (List.mem_cons_of_mem _ hq)) a hw
    rw [U_cons e]
    refine ⟨by rw [List.length_cons, ih.len, List.length_cons], fun p hp => ?_, ?_, ?_⟩
    · rw [List.zip_cons_cons] at hp
      rcases List.mem_cons.mp hp with rfl | hp
      · exact ⟨aboveL_goes hm, aboveL_row hm⟩
      · exact ih.go p hp
    · show (mean rd o :: (U rd t _ n').map (mean rd)).flatten = x
      rw [List.flatten_cons]
      have h2 : ((U rd t (x.drop (mean rd o).length) n').map (mean rd)).flatten = x.drop (mean rd o).length := ih.tx
      rw [h2]
      have hp : mean rd o <+: x := of_decide_eq_true hf
      obtain ⟨z, rfl⟩ := hp
      rw [List.drop_left]
    · show bef (stp rd t x) (aboveL r) o + rank rd t _ _ = n
      rw [ih.rk]
      omega
theorem W_all {w : Nat} {t : List Row} (ok : TpOk t w) (hw : w ≤ 4) : ∀ r ∈ t, r.length ≤ 4 := fun r hr => by
  have := isRow_len (ok.row r hr)
  omega
/-! tables -/
theorem drop2 (x : Row) (a b : Nat) : x.drop (a + b) = (x.drop a).drop b := by rw [List.drop_drop]
theorem fits_eq {rd : Dic} {w : Nat} (ok : RdOk rd w) {x : Row} {m : Int} (h0 : 0 ≤ m) (o : Row) :
    (decide (((mean rd o).length : Int) = 0) || decide (cutG x (some m) (some (m + 1)) = mean rd o)) = fits rd (x.drop m.toNat) o := by
  unfold fits
  rw [cutG_both _ h0 (by omega)]
  have e1 : (m + 1).toNat = m.toNat + 1 := by omega
  rw [e1, List.drop_take]
  have e2 : m.toNat + 1 - m.toNat = 1 := by omega
  rw [e2]
  rcases mean_cases ok o with e | ⟨d, e, _⟩
  · rw [e]; simp
  · rw [e]
    cases x.drop m.toNat with
    | nil => simp
    | cons c z =>
      simp
      exact eq_comm
theorem fits_len {rd : Dic} {x o : Row} (h : fits rd x o = true) : (mean rd o).length ≤ x.length := (of_decide_eq_true h).length_le
theorem stp_T {rd : Dic} {t : List Row} {x o : Row} (h : fits rd x o = true) : stp rd t x o = W rd t (x.drop (mean rd o).length) := by
  unfold stp
  rw [if_pos h]
theorem stp_F {rd : Dic} {t : List Row} {x o : Row} (h : fits rd x o = false) : stp rd t x o = 0 := by
  unfold stp
  rw [if_neg (by rw [h]; decide)]
theorem tbl_row {rd : Dic} {t : List Row} {x : Row} {i : Nat} (h : i < t.length) : (tblL rd t x).getD ((i : Int) + 1).toNat [] = lineL rd (t.drop (i + 1)) x := by
  have : ((i : Int) + 1).toNat = i + 1 := by omega
  rw [this]
  exact tblL_at (by omega)
theorem tbl_at {rd : Dic} {t : List Row} {x : Row} {i k : Nat} {m : Int} (h : i < t.length) (h0 : 0 ≤ m) (h1 : m.toNat + k ≤ x.length) :
    ((tblL rd t x).getD ((i : Int) + 1).toNat []).getD (m + (k : Int)).toNat 0 = W rd (t.drop (i + 1)) ((x.drop m.toNat).drop k) := by
  rw [tbl_row h, List.drop_drop]
  have : (m + (k : Int)).toNat = m.toNat + k := by omega
  rw [this]
  exact lineL_at h1
theorem mem_genL : ∀ (n : Nat) (q : Row), q.length = n → (∀ c ∈ q, c = 111 ∨ c = 46) → q ∈ genL n
  | 0, q, h, _ => by
    have : q = [] := List.length_eq_zero_iff.mp h
    rw [this]
    exact List.mem_singleton.mpr rfl
  | n + 1, q, h, hc => by
    have hn : q ≠ [] := by rintro rfl; cases h
    have e : q = q.dropLast ++ [q.getLast hn] := (List.dropLast_concat_getLast hn).symm
    have ih := mem_genL n q.dropLast (by rw [List.length_dropLast]; omega) fun c h => hc c ((List.dropLast_sublist _).subset h)
    unfold genL
    rcases hc _ (List.getLast_mem hn) with z | z
    · rw [z] at e
      rw [e]
      exact List.mem_append.mpr (.inr (List.mem_map.mpr ⟨_, ih, rfl⟩))
    · rw [z] at e
      rw [e]
      exact List.mem_append.mpr (.inl (List.mem_map.mpr ⟨_, ih, rfl⟩))
theorem mem_rowsL {q : Row} {w : Nat} (hw : w ≤ 4) (h : isRow q (w : Int) = true) : q ∈ rowsL (w : Int) :=
  (rows_perm w hw).symm.subset (mem_genL w q (isRow_len h) (isRow_mem h))
theorem mem_aboveL {r q : Row} {w : Nat} (hw : w ≤ 4) (hr : isRow r (w : Int) = true) (hq : isRow q (w : Int) = true) (h : goes r q = true) : q ∈ aboveL r := by
  unfold aboveL
  rw [isRow_len hr]
  exact List.mem_filter.mpr ⟨mem_rowsL hw hq, h⟩
theorem overB_at {t o : List Row} (h : overB t o = true) {i : Nat} {r q : Row} (h1 : t[i]? = some r) (h2 : o[i]? = some q) : goes r q = true := by
  unfold overB at h
  rw [Bool.and_eq_true, List.all_eq_true] at h
  refine h.2 (r, q) ?_
  refine List.mem_iff_getElem?.mpr ⟨i, ?_⟩
  rw [List.getElem?_zip_eq_some]
  exact ⟨h1, h2⟩
theorem overB_len {t o : List Row} (h : overB t o = true) : t.length = o.length := by
  unfold overB at h
  rw [Bool.and_eq_true] at h
  have := of_decide_eq_true h.1
  omega
theorem bef_cons_ne {f : Row → Int} {o' o : Row} {L : List Row} (h : ¬ o' = o) : bef f (o' :: L) o = f o' + bef f L o := by
  conv => lhs; unfold bef
  rw [if_neg h]
/-! ### the law's own sums -/
def lettersA (rd : Dic) (r : Row) : List (Row × Row) := (aboveL r).map fun o => (o, mean rd o)
theorem rowsL_lt : ∀ w : Nat, w ≤ 4 → (rowsL (w : Int)).Pairwise (· < ·) := by
  intro w hw
  match w, hw with
  | 0, _ => decide +kernel
  | 1, _ => decide +kernel
  | 2, _ => decide +kernel
  | 3, _ => decide +kernel
  | 4, _ => decide +kernel
theorem aboveL_lt {r : Row} (h : r.length ≤ 4) : (aboveL r).Pairwise (· < ·) := (rowsL_lt _ h).filter _
theorem sum_zero {α : Type} {f : α → Int} : ∀ {l : List α}, (∀ a ∈ l, f a = 0) → (l.map f).sum = 0
  | [], _ => rfl
  | a :: l, h => by
    rw [List.map_cons, List.sum_cons, h a List.mem_cons_self, sum_zero fun b hb => h b (List.mem_cons_of_mem _ hb)]
    rfl
theorem sum_lt {f : Row → Int} : ∀ {L : List Row} {q : Row}, L.Pairwise (· < ·) → q ∈ L → (L.map fun o => if decide (o < q) then f o else 0).sum = bef f L q
  | [], q, _, h => by cases h
  | o :: L, q, hp, h => by
    have hp := List.pairwise_cons.mp hp
    rw [List.map_cons, List.sum_cons]
    by_cases e : o = q
    · subst e
      unfold bef
      rw [if_pos rfl, decide_eq_false (List.lt_irrefl o), if_neg (by decide), sum_zero fun b hb => by
        rw [decide_eq_false (fun z => List.lt_asymm (hp.1 b hb) z), if_neg (by decide)]]
      rfl
    · rcases List.mem_cons.mp h with h | h
      · exact absurd h.symm e
      · rw [decide_eq_true (hp.1 q h), if_pos rfl, sum_lt hp.2 h, bef_cons_ne e]
theorem stp_cases {rd : Dic} {w : Nat} (ok : RdOk rd w) (t : List Row) {x : Row} {m : Nat} (hm : m ≤ x.length) (o : Row) :
    (if decide (mean rd o = []) then W rd t (x.drop m) else if decide ((m : Int) < (x.length : Int)) && decide ([x.getD m 0] = mean rd o) then W rd t (x.drop (m + 1)) else 0) = stp rd t (x.drop m) o := by
  unfold stp fits
  rcases mean_cases ok o with e | ⟨d, e, _⟩
  · rw [e]; simp
  · rw [e]
    by_cases hc : m < x.length
    · have ed : x.drop m = x[m] :: x.drop (m + 1) := List.drop_eq_getElem_cons hc
      have eg : x.getD m 0 = x[m] := by rw [List.getD_eq_getElem?_getD, List.getElem?_eq_getElem hc]; rfl
      have hpre : decide ([d] <+: x.drop m) = decide (d = x[m]) := by
        rw [ed]
        exact decide_eq_decide.mpr ⟨fun h => (List.cons_prefix_cons.mp h).1, fun h => List.cons_prefix_cons.mpr ⟨h, List.nil_prefix⟩⟩
      have hdd : (x.drop m).drop ([d] : Row).length = x.drop (m + 1) := by rw [List.drop_drop]; rfl
      rw [hpre, hdd, eg, decide_eq_true (show (m : Int) < (x.length : Int) by omega)]
      by_cases h : x[m] = d
      · simp [h]
      · have h' : ¬ d = x[m] := fun z => h z.symm
        simp [h, h']
    · rw [decide_eq_false (show ¬ (m : Int) < (x.length : Int) by omega)]
      have : x.drop m = [] := List.drop_eq_nil_of_le (by omega)
      rw [this]; simp
theorem TpOk.drop {t : List Row} {w : Nat} (h : TpOk t w) (n : Nat) : TpOk (t.drop n) w := ⟨by rw [List.length_drop]; have := h.len; omega, fun r hr => h.row r (List.mem_of_mem_drop hr)⟩
theorem TpOk.take {t : List Row} {w : Nat} (h : TpOk t w) (n : Nat) : TpOk (t.take n) w := ⟨by rw [List.length_take]; have := h.len; omega, fun r hr => h.row r (List.mem_of_mem_take hr)⟩
theorem fits_eq2 {rd : Dic} {x : Row} {m : Nat} (o : Row) : decide (cutG x (some (m : Int)) (some ((m : Int) + ((mean rd o).length : Int))) = mean rd o) = fits rd (x.drop m) o := by
  unfold fits
  rw [cutG_both _ (by omega) (by omega)]
  have e1 : ((m : Int) + ((mean rd o).length : Int)).toNat = m + (mean rd o).length := by omega
  have e0 : (m : Int).toNat = m := rfl
  rw [e1, e0, List.drop_take]
  have e2 : m + (mean rd o).length - m = (mean rd o).length := by omega
  rw [e2]
  exact decide_eq_decide.mpr ⟨fun h => List.prefix_iff_eq_take.mpr h.symm, fun h => (List.prefix_iff_eq_take.mp h).symm⟩
theorem textOf_app (rd : Dic) (a b : List Row) : textOf rd (a ++ b) = textOf rd a ++ textOf rd b := by
  unfold textOf
  rw [List.map_append, List.flatten_append]
theorem textOf_split (rd : Dic) (u : List Row) (i : Nat) : textOf rd (u.drop i) = (textOf rd u).drop (textOf rd (u.take i)).length := by
  conv => rhs; rw [← List.take_append_drop i u, textOf_app]
  rw [List.take_append_drop, List.drop_left]
/-! ### all tapes, in order -/
def extA (rd : Dic) (x : Row) (F : List (List Row)) (r : Row) : List (List Row) := F.flatMap fun p => ((aboveL r).filter fun o => decide (textOf rd p ++ mean rd o <+: x)).map fun o => p ++ [o]
def every (rd : Dic) (t : List Row) (x : Row) : List (List Row) := (t.foldl (extA rd x) [[]]).filter fun p => decide (textOf rd p = x)
def E (rd : Dic) : List Row → Row → List (List Row)
  | [], x => if x = [] then [[]] else []
  | r :: t, x => (aboveL r).flatMap fun o => if fits rd x o then (E rd t (x.drop (mean rd o).length)).map (o :: ·) else []
theorem flatMap_cong {α β : Type} {f g : α → List β} : ∀ {l : List α}, (∀ a ∈ l, f a = g a) → l.flatMap f = l.flatMap g
  | [], _ => rfl
  | a :: l, h => by rw [List.flatMap_cons, List.flatMap_cons, h a List.mem_cons_self, flatMap_cong fun b hb => h b (List.mem_cons_of_mem _ hb)]
theorem bfs (rd : Dic) (x : Row) : ∀ (t : List Row) (F : List (List Row)), (∀ p ∈ F, textOf rd p <+: x) →
    ((t.foldl (extA rd x) F).filter fun p => decide (textOf rd p = x)) = F.flatMap fun p => (E rd t (x.drop (textOf rd p).length)).map (p ++ ·)
  | [], F, h => by
    rw [List.foldl_nil]
    induction F with
    | nil => rfl
    | cons p F ih =>
      rw [List.filter_cons, List.flatMap_cons, ih fun q hq => h q (List.mem_cons_of_mem _ hq)]
      have hp := h p List.mem_cons_self
      obtain ⟨z, hz⟩ := hp
      by_cases e : textOf rd p = x
      · rw [decide_eq_true e, if_pos rfl]
        unfold E
        rw [e, List.drop_length, if_pos rfl]
        simp
      · rw [decide_eq_false e, if_neg (by decide)]
        unfold E
        rw [if_neg]
        · rfl
        · intro h0
          rw [← hz, List.drop_left] at h0
          subst h0
          rw [List.append_nil] at hz
          exact e hz
  | r :: t, F, h => by
    rw [List.foldl_cons, bfs rd x t (extA rd x F r) ?_]
    · unfold extA
      rw [List.flatMap_assoc]
      refine flatMap_cong fun p hp => ?_
      obtain ⟨z, hz⟩ := h p hp
      have hd : x.drop (textOf rd p).length = z := by rw [← hz, List.drop_left]
      rw [hd, List.flatMap_map]
      show _ = (((aboveL r).flatMap fun o => if fits rd z o then (E rd t (z.drop (mean rd o).length)).map (o :: ·) else [])).map (p ++ ·)
      rw [List.map_flatMap]
      generalize aboveL r = L
      induction L with
      | nil => rfl
      | cons o L ih =>
        rw [List.flatMap_cons, List.filter_cons, ← ih]
        have hiff : (textOf rd p ++ mean rd o <+: x) ↔ mean rd o <+: z := by
          rw [← hz]
          exact List.prefix_append_right_inj _
        by_cases hf : mean rd o <+: z
        · have hf1 : fits rd z o = true := decide_eq_true hf
          rw [decide_eq_true (hiff.mpr hf), if_pos rfl, List.flatMap_cons, hf1, if_pos rfl]
          congr 1
          have : textOf rd (p ++ [o]) = textOf rd p ++ mean rd o := by
            rw [textOf_app]
            unfold textOf
            simp
          rw [this, List.length_append, drop2 x, hd, List.map_map]
          refine List.map_congr_left fun q _ => ?_
          simp
        · have hf1 : fits rd z o = false := decide_eq_false hf
          rw [decide_eq_false (fun q => hf (hiff.mp q)), if_neg (by decide), hf1, if_neg (by decide)]
          rfl
    · intro q hq
      unfold extA at hq
      obtain ⟨p, _, hq⟩ := List.mem_flatMap.mp hq
      obtain ⟨o, ho, rfl⟩ := List.mem_map.mp hq
      have ho := of_decide_eq_true (List.mem_filter.mp ho).2
      have : textOf rd (p ++ [o]) = textOf rd p ++ mean rd o := by
        rw [textOf_app]
        unfold textOf
        simp
      rw [this]
      exact ho
theorem every_E (rd : Dic) (t : List Row) (x : Row) : every rd t x = E rd t x := by
  unfold every
  rw [bfs rd x t [[]] (fun p hp => by rw [List.mem_singleton.mp hp]; exact List.nil_prefix)]
  simp
  show E rd t (x.drop 0) = _
  rw [List.drop_zero]
theorem E_len (rd : Dic) : ∀ (t : List Row) (x : Row), ((E rd t x).length : Int) = W rd t x
  | [], x => by
    unfold E W
    split <;> rfl
  | r :: t, x => by
    rw [W_cons]
    unfold E
    generalize aboveL r = L
    induction L with
    | nil => rfl
    | cons o L ih =>
      rw [List.flatMap_cons, List.length_append, List.map_cons, List.sum_cons, ← ih, Int.natCast_add]
      congr 1
      unfold stp
      split
      · rw [List.length_map, E_len rd t _]
      · rfl
/-- the tape of each number stands at its place -/
theorem E_at {rd : Dic} : ∀ {t : List Row} {x : Row} {n : Nat}, (n : Int) < W rd t x → (E rd t x)[n]? = some (U rd t x (n : Int))
  | [], x, n, h => by
    unfold W at h
    split at h
    · rename_i e
      subst e
      have : n = 0 := by omega
      subst this
      rfl
    · omega
  | r :: t, x, n, h => by
    rw [W_cons] at h
    have key : ∀ (L : List Row) (k : Nat), (k : Int) < (L.map (stp rd t x)).sum → ∃ o n', pick (stp rd t x) L (k : Int) = some (o, n') ∧ (L.flatMap fun o => if fits rd x o then (E rd t (x.drop (mean rd o).length)).map (o :: ·) else [])[k]? = some (o :: U rd t (x.drop (mean rd o).length) n') := by
      intro L
      induction L with
      | nil => intro k hk; simp at hk; omega
      | cons o L ih =>
        intro k hk
        rw [List.map_cons, List.sum_cons] at hk
        rw [List.flatMap_cons]
        have hlen : (((if fits rd x o then (E rd t (x.drop (mean rd o).length)).map (o :: ·) else []).length : Nat) : Int) = stp rd t x o := by
          unfold stp
          split
          · rw [List.length_map, E_len]
          · rfl
        unfold pick
        by_cases hc : (k : Int) < stp rd t x o
        · rw [if_pos hc]
          refine ⟨o, (k : Int), rfl, ?_⟩
          rw [List.getElem?_append_left (by omega)]
          obtain ⟨hf, hw⟩ := stp_pos (by omega) hc
          rw [hf, if_pos rfl, List.getElem?_map, E_at hw]
          rfl
        · rw [if_neg hc]
          have hs := stp_nn rd t x o
          obtain ⟨k', hk'⟩ : ∃ k' : Nat, (k : Int) - stp rd t x o = (k' : Int) := ⟨_, (Int.toNat_of_nonneg (by omega)).symm⟩
          rw [hk']
          obtain ⟨o2, n2, e1, e2⟩ := ih k' (by omega)
          refine ⟨o2, n2, e1, ?_⟩
          rw [List.getElem?_append_right (by omega)]
          have : k - (if fits rd x o then (E rd t (x.drop (mean rd o).length)).map (o :: ·) else []).length = k' := by omega
          rw [this]
          exact e2
    obtain ⟨o, n', e1, e2⟩ := key (aboveL r) n h
    rw [U_cons e1]
    exact e2
theorem E_range (rd : Dic) (t : List Row) (x : Row) : ((List.range (E rd t x).length).map fun (n : Nat) => U rd t x (n : Int)) = E rd t x := by
  refine List.ext_getElem (by simp) fun i h1 h2 => ?_
  simp only [List.getElem_map, List.getElem_range]
  have hw : (i : Int) < W rd t x := by rw [← E_len]; omega
  have := E_at hw
  rw [List.getElem?_eq_getElem h2] at this
  exact (Option.some.inj this).symm
/-- greater numbers, greater tapes -/
theorem pick_lt {f : Row → Int} (hf : ∀ o, 0 ≤ f o) : ∀ {L : List Row} {n m : Int}, L.Pairwise (· < ·) → 0 ≤ n → n < m → m < (L.map f).sum →
    ∃ o n' o2 m', pick f L n = some (o, n') ∧ pick f L m = some (o2, m') ∧ o ∈ L ∧ o2 ∈ L ∧ 0 ≤ n' ∧ n' < f o ∧ 0 ≤ m' ∧ m' < f o2 ∧ (o < o2 ∨ (o = o2 ∧ n' < m'))
  | [], n, m, _, h0, h1, h2 => by simp at h2; omega
  | o :: L, n, m, hp, h0, h1, h2 => by
    have hp2 := List.pairwise_cons.mp hp
    have hnd : L.Nodup := List.Pairwise.imp (by intro a b h e; subst e; exact List.lt_irrefl _ h) hp2.2
    rw [List.map_cons, List.sum_cons] at h2
    unfold pick
    by_cases hm : m < f o
    · rw [if_pos hm, if_pos (by omega)]
      exact ⟨o, n, o, m, rfl, rfl, List.mem_cons_self, List.mem_cons_self, h0, by omega, by omega, hm, .inr ⟨rfl, h1⟩⟩
    · rw [if_neg hm]
      by_cases hn : n < f o
      · rw [if_pos hn]
        obtain ⟨o2, m2, e, hmem, a, b, _⟩ := pick_ok hf (L := L) (n := m - f o) hnd (by omega) (by omega)
        exact ⟨o, n, o2, m2, rfl, e, List.mem_cons_self, List.mem_cons_of_mem _ hmem, h0, hn, a, b, .inl (hp2.1 _ hmem)⟩
      · rw [if_neg hn]
        obtain ⟨o1, n', o2, m', a, b, c, d, e⟩ := pick_lt hf (L := L) (n := n - f o) (m := m - f o) hp2.2 (by omega) (by omega) (by omega)
        exact ⟨o1, n', o2, m', a, b, List.mem_cons_of_mem _ c, List.mem_cons_of_mem _ d, e⟩
theorem U_lt {rd : Dic} : ∀ {t : List Row} {x : Row} {n m : Int}, (∀ r ∈ t, r.length ≤ 4) → 0 ≤ n → n < m → m < W rd t x → ltT (U rd t x n) (U rd t x m) = true
  | [], x, n, m, _, h0, h1, h2 => by
    unfold W at h2
    split at h2 <;> omega
  | r :: t, x, n, m, ht, h0, h1, h2 => by
    rw [W_cons] at h2
    obtain ⟨o, n', o2, m', e1, e2, _, _, a, b, c, d, e⟩ := pick_lt (stp_nn rd t x) (aboveL_lt (ht r List.mem_cons_self)) h0 h1 h2
    rw [U_cons e1, U_cons e2]
    unfold ltT
    rcases e with e | ⟨rfl, e⟩
    · rw [if_neg (fun z => List.lt_irrefl _ (z ▸ e)), decide_eq_true e]
    · rw [if_pos rfl]
      obtain ⟨_, hw⟩ := stp_pos c d
      exact U_lt (fun q hq => ht q (List.mem_cons_of_mem _ hq)) a e hw
theorem foldl_at (rd : Dic) (x : Row) {t : List Row} {i : Nat} {r : Row} (h : t[i]? = some r) : (t.take (i + 1)).foldl (extA rd x) [[]] = extA rd x ((t.take i).foldl (extA rd x) [[]]) r := by
  rw [List.take_succ, h, List.foldl_append]
  rfl
def nums (ns : List Int) (d : Int) : List Int := if decide (0 < d) = true then (ns.map fun n => n % d) ++ [0, d - 1] else []
theorem nums_mem {ns : List Int} {d : Int} : ∀ n ∈ nums ns d, 0 ≤ n ∧ n < d := by
  intro n hn
  unfold nums at hn
  by_cases h : 0 < d
  · rw [decide_eq_true h, if_pos rfl] at hn
    rcases List.mem_append.mp hn with hn | hn
    · obtain ⟨k, _, rfl⟩ := List.mem_map.mp hn
      exact ⟨Int.emod_nonneg _ (by omega), Int.emod_lt_of_pos _ h⟩
    · simp at hn
      omega
  · rw [decide_eq_false h, if_neg (by decide)] at hn
    cases hn
theorem UOk.tp {rd : Dic} {w : Nat} {t : List Row} {x : Row} {n : Int} {u : List Row} (h : UOk rd t x n u) (ht : TpOk t w) : TpOk u w ∧ overB t u = true := by
  have hl := h.len
  refine ⟨⟨by rw [hl]; exact ht.len, fun q hq => ?_⟩, ?_⟩
  · obtain ⟨i, hi⟩ := List.mem_iff_getElem?.mp hq
    have hil := (List.getElem?_eq_some_iff.mp hi).1
    obtain ⟨r, hr⟩ : ∃ r, t[i]? = some r := ⟨_, List.getElem?_eq_getElem (by omega)⟩
    have := (h.go (r, q) (List.mem_iff_getElem?.mpr ⟨i, List.getElem?_zip_eq_some.mpr ⟨hr, hi⟩⟩)).2
    rw [isRow_len (ht.row r (List.mem_of_getElem? hr))] at this
    exact this
  · unfold overB
    rw [hl, decide_eq_true rfl, Bool.true_and, List.all_eq_true]
    exact fun p hp => (h.go p hp).1
theorem extA_len {rd : Dic} {x r : Row} {F : List (List Row)} {c : Nat} (hc : (aboveL r).length ≤ c) : (extA rd x F r).length ≤ F.length * c := by
  unfold extA
  rw [List.length_flatMap]
  induction F with
  | nil => simp
  | cons p F ih =>
    rw [List.map_cons, List.sum_cons, List.length_cons, Nat.succ_mul, List.length_map]
    have h1 := List.length_filter_le (fun o => decide (textOf rd p ++ mean rd o <+: x)) (aboveL r)
    omega
theorem fold_len {rd : Dic} {x : Row} {c : Nat} (hc1 : 1 ≤ c) : ∀ {t : List Row} {F : List (List Row)}, (∀ r ∈ t, (aboveL r).length ≤ c) → (t.foldl (extA rd x) F).length ≤ F.length * c ^ t.length
  | [], F, _ => by simp
  | r :: t, F, h => by
    rw [List.foldl_cons, List.length_cons, Nat.pow_succ]
    have h1 := fold_len (rd := rd) (x := x) hc1 (t := t) (F := extA rd x F r) fun q hq => h q (List.mem_cons_of_mem _ hq)
    have h2 := extA_len (rd := rd) (x := x) (F := F) (h r List.mem_cons_self)
    refine Nat.le_trans h1 ?_
    rw [Nat.mul_comm (c ^ t.length) c, ← Nat.mul_assoc]
    exact Nat.mul_le_mul_right _ h2
theorem fold_mem {rd : Dic} {x : Row} : ∀ {t : List Row} {F : List (List Row)} {n : Nat}, (∀ p ∈ F, p.length = n) → ∀ p ∈ t.foldl (extA rd x) F, p.length = n + t.length
  | [], F, n, h, p, hp => h p hp
  | r :: t, F, n, h, p, hp => by
    rw [List.foldl_cons] at hp
    have := fold_mem (t := t) (n := n + 1) (fun q hq => by
      unfold extA at hq
      obtain ⟨q', hq', hq⟩ := List.mem_flatMap.mp hq
      obtain ⟨o, _, rfl⟩ := List.mem_map.mp hq
      rw [List.length_append, h q' hq']
      rfl) p hp
    rw [this, List.length_cons]
    omega
theorem rowsL_le2 {w : Int} (h : w ≤ 2) : (rowsL w).length ≤ 4 := by
  rw [rowsL_len]
  exact Nat.pow_le_pow_right (show 1 ≤ 2 by decide) (show w.toNat ≤ 2 by omega)
theorem few_len {rd : Dic} {x : Row} {t : List Row} {w : Nat} (ok : TpOk t w) (hw : w ≤ 4) (h : t.length ≤ (if decide ((2 : Int) < (w : Int)) then 2 else 4)) (i : Nat) : ((t.take i).foldl (extA rd x) [[]]).length ≤ 1000 := by
  have hl : (t.take i).length ≤ t.length := by rw [List.length_take]; omega
  by_cases h2 : (2 : Int) < (w : Int)
  · rw [decide_eq_true h2, if_pos rfl] at h
    have := fold_len (rd := rd) (x := x) (c := 16) (by decide) (t := t.take i) (F := [[]]) fun r hr => aboveL_len (by have := isRow_len (ok.row r (List.mem_of_mem_take hr)); omega)
    refine Nat.le_trans this ?_
    have hp : 16 ^ (t.take i).length ≤ 16 ^ 2 := Nat.pow_le_pow_right (by decide) (by omega)
    simp only [List.length_cons, List.length_nil]
    omega
  · rw [decide_eq_false h2, if_neg (by decide)] at h
    have := fold_len (rd := rd) (x := x) (c := 4) (by decide) (t := t.take i) (F := [[]]) fun r hr => Nat.le_trans (List.length_filter_le _ _) (rowsL_le2 (by have := isRow_len (ok.row r (List.mem_of_mem_take hr)); omega))
    refine Nat.le_trans this ?_
    have hp : 4 ^ (t.take i).length ≤ 4 ^ 4 := Nat.pow_le_pow_right (by decide) (by omega)
    simp only [List.length_cons, List.length_nil]
    omega
theorem few_mem {rd : Dic} {x : Row} {t : List Row} (h : t.length ≤ 4) (i : Nat) : ∀ p ∈ (t.take i).foldl (extA rd x) [[]], p.length ≤ 30 := fun p hp => by
  have := fold_mem (n := 0) (by intro q hq; rw [List.mem_singleton.mp hq]; rfl) p hp
  rw [this, List.length_take]
  omega
theorem last_rd : RdOk [([46], [113])] 1 := by
  refine ⟨by simp, by decide, by decide, by simp, ?_, ?_, ?_⟩ <;> (intro p hp; rw [List.mem_singleton.mp hp]; decide)
theorem last_t0 : TpOk [] 1 := ⟨by decide, fun r hr => nomatch hr⟩
theorem last_td : TpOk [[46]] 1 := ⟨by decide, fun r hr => by rw [List.mem_singleton.mp hr]; decide⟩
theorem last_q : TxOk [113] := ⟨by decide, fun c hc => by rw [List.mem_singleton.mp hc]; decide⟩
theorem mem_E_small {rd : Dic} {w : Nat} {t : List Row} {x : Row} (ok : TpOk t w) (hw : w ≤ 4) : ∀ u ∈ E rd t x, SmT u := fun u hu => by
  obtain ⟨i, hi⟩ := List.mem_iff_getElem?.mp hu
  have hil := (List.getElem?_eq_some_iff.mp hi).1
  have hW : (i : Int) < W rd t x := by rw [← E_len]; omega
  rw [E_at hW] at hi
  obtain rfl := Option.some.inj hi
  exact ((U_ok (W_all ok hw) (by omega) hW).tp ok).1.small
theorem letTx {pl : List Row} (hpl : ∀ i, i < 3 → isLet (pl.getD i []) = true) {i n : Nat} (hi : i < 3) (hn : n ≤ 30) : TxOk (List.replicate n (pl.getD i [])).flatten := by
  obtain ⟨c, e, h1, h2⟩ := isLet_one (hpl i hi)
  rw [e]
  refine ⟨?_, fun d hd => ?_⟩
  · rw [List.length_flatten, List.map_replicate, List.sum_replicate_nat]
    simp
    omega
  · obtain ⟨l, hl, hd⟩ := List.mem_flatten.mp hd
    rw [(List.mem_replicate.mp hl).2] at hd
    rw [List.mem_singleton.mp hd]
    exact ⟨h1, h2⟩
end Ho
namespace Ho
open PySem PySem.Spec PyProof.Rows L2 Evl
local macro_rules | `(tactic| walk_at "exs") => `(tactic| first | assumption | exact Ex.refl _ | (refine' Ex.trans ?exa ?exb; (case' exb => assumption); walk_at "exs"))
local macro_rules | `(tactic| walk_at "fact") => `(tactic| first | assumption | exact slof (by assumption) | exact stof (by assumption) | (refine' exl ?fe ?fh; (case' fh => first | assumption | exact slof (by assumption)); walk_at "exs") | (refine' ext ?fe ?fh; (case' fh => first | assumption | exact stof (by assumption)); walk_at "exs") | (refine' exl ?fe ?fh; (case' fh => first | solve_by_elim | exact slof (by solve_by_elim)); walk_at "exs"))
local macro_rules | `(tactic| walk_at "facth") => `(tactic| first | assumption | (refine' exh ?fe ?fh; (case' fh => assumption); walk_at "exs") | (refine' exh ?fe ?fh; (case' fh => solve_by_elim); walk_at "exs"))
local macro_rules | `(tactic| walk_at "facta") => `(tactic| first | assumption | (refine' AG.ex ?fm ?fe ?fh; (case' fh => assumption); (case' fm => first | exact mkL | exact mkT); walk_at "exs"))
local macro_rules | `(tactic| walk_at "adm") => `(tactic| first | exact nin0 | exact nin1 (by first | assumption | exact Ne.symm (by assumption)) | exact nin2 (by first | assumption | exact Ne.symm (by assumption)) (by first | assumption | exact Ne.symm (by assumption)))
local macro_rules | `(tactic| walk_at "side") => `(tactic| first | assumption | omega | decide | (simp only [List.length_append, List.length_cons, List.length_nil, List.length_map, List.length_drop, List.length_take, List.length_range, List.mem_range, decide_eq_true_eq, Bool.and_eq_true] at *; omega) | trivial | solve_by_elim)
local macro_rules | `(tactic| walk_at "len") => `(tactic| first | assumption | omega | (simp only [List.length_zip, List.length_map, List.length_range, List.length_zipIdx, List.length_append, List.length_cons, List.length_nil, List.length_drop, List.length_take]; omega) | solve_by_elim)
local macro_rules | `(tactic| walk_at "rng") => `(tactic| first | omega | (constructor <;> omega) | assumption)
local macro_rules | `(tactic| walk_at "cmul") => `(tactic| first | exact .inr ⟨by decide, by decide⟩ | exact .inl ⟨by decide, by decide⟩ | exact .inl ⟨by omega, by omega⟩ | exact .inr ⟨by omega, by omega⟩)
local macro_rules | `(tactic| walk_at "cdiv") => `(tactic| first | exact ⟨by decide, by decide⟩ | exact ⟨by omega, by omega⟩)
local macro_rules | `(tactic| walk_at "cpow") => `(tactic| first | exact ⟨by decide, by decide, by decide⟩ | exact ⟨by omega, by omega, by decide⟩)
def topS (i : Nat) : Stmt := PySem.Challenge.pw_holetape_k04_whole_ways.main.body.getD i (.Pass ⟨0, 0, 0, 0⟩)
abbrev s__law_draw : Stmt := topS 32
abbrev N__law_draw : List Str := ["_law_cell", "_law_k", "_law_many_here", "_law_primes"]
theorem sc__law_draw : FnScope N__law_draw ["_law_cell", "_law_k", "_law_many_here"] (defScope s__law_draw) := ⟨rfl, rfl, rfl, by decide +kernel, rfl, by decide +kernel, by decide +kernel⟩
abbrev s__law_cell_at : Stmt := topS 33
abbrev N__law_cell_at : List Str := ["_law_script", "_law_k"]
theorem sc__law_cell_at : FnScope N__law_cell_at ["_law_script", "_law_k"] (defScope s__law_cell_at) := ⟨rfl, rfl, rfl, by decide +kernel, rfl, by decide +kernel, by decide +kernel⟩
abbrev s__law_digits : Stmt := topS 34
abbrev N__law_digits : List Str := ["_law_script", "_law_at", "_law_many_here", "_law_base", "_law_blend", "_law_cell", "_law_found", "_law_left", "_law_more", "_law_turn"]
theorem sc__law_digits : FnScope N__law_digits ["_law_script", "_law_at", "_law_many_here", "_law_base"] (defScope s__law_digits) := ⟨rfl, rfl, rfl, by decide +kernel, rfl, by decide +kernel, by decide +kernel⟩
abbrev s__law_pool : Stmt := topS 36
abbrev N__law_pool : List Str := ["_law_script", "_law_at", "_law_one"]
theorem sc__law_pool : FnScope N__law_pool ["_law_script", "_law_at"] (defScope s__law_pool) := ⟨rfl, rfl, rfl, by decide +kernel, rfl, by decide +kernel, by decide +kernel⟩
abbrev s__law_rows : Stmt := topS 35
abbrev N__law_rows : List Str := ["_law_width_here", "_law_found", "_law_number", "_law_at"]
theorem sc__law_rows : FnScope N__law_rows ["_law_width_here"] (defScope s__law_rows) := ⟨rfl, rfl, rfl, by decide +kernel, rfl, by decide +kernel, by decide +kernel⟩
abbrev s__law_reader : Stmt := topS 37
abbrev N__law_reader : List Str := ["_law_script", "_law_at", "_law_pool_here", "_law_least", "_law_begin", "_law_draws", "_law_found", "_law_number", "_law_row", "_law_rows_here", "_law_width_here"]
theorem sc__law_reader : FnScope N__law_reader ["_law_script", "_law_at", "_law_pool_here", "_law_least"] (defScope s__law_reader) := ⟨rfl, rfl, rfl, by decide +kernel, rfl, by decide +kernel, by decide +kernel⟩
abbrev s__law_tape : Stmt := topS 39
abbrev N__law_tape : List Str := ["_law_script", "_law_at", "_law_width_here", "_law_many_here", "_law_draw_here", "_law_fewer", "_law_found", "_law_rows_here"]
theorem sc__law_tape : FnScope N__law_tape ["_law_script", "_law_at", "_law_width_here", "_law_many_here"] (defScope s__law_tape) := ⟨rfl, rfl, rfl, by decide +kernel, rfl, by decide +kernel, by decide +kernel⟩
abbrev s__law_text : Stmt := topS 40
abbrev N__law_text : List Str := ["_law_script", "_law_at", "_law_pool_here", "_law_many_here", "_law_draws", "_law_letters", "_law_draw_here"]
theorem sc__law_text : FnScope N__law_text ["_law_script", "_law_at", "_law_pool_here", "_law_many_here"] (defScope s__law_text) := ⟨rfl, rfl, rfl, by decide +kernel, rfl, by decide +kernel, by decide +kernel⟩
abbrev s__law_means : Stmt := topS 42
abbrev N__law_means : List Str := ["_law_reader_here", "_law_row"]
theorem sc__law_means : FnScope N__law_means ["_law_reader_here", "_law_row"] (defScope s__law_means) := ⟨rfl, rfl, rfl, by decide +kernel, rfl, by decide +kernel, by decide +kernel⟩
abbrev s__law_over : Stmt := topS 41
abbrev N__law_over : List Str := ["_law_row", "_law_other", "_law_one", "_law_new"]
theorem sc__law_over : FnScope N__law_over ["_law_row", "_law_other"] (defScope s__law_over) := ⟨rfl, rfl, rfl, by decide +kernel, rfl, by decide +kernel, by decide +kernel⟩
abbrev s__law_letters_above : Stmt := topS 45
abbrev N__law_letters_above : List Str := ["_law_reader_here", "_law_row", "_law_other"]
theorem sc__law_letters_above : FnScope N__law_letters_above ["_law_reader_here", "_law_row"] (defScope s__law_letters_above) := ⟨rfl, rfl, rfl, by decide +kernel, rfl, by decide +kernel, by decide +kernel⟩
abbrev s__law_reads : Stmt := topS 43
abbrev N__law_reads : List Str := ["_law_reader_here", "_law_tape_here", "_law_row"]
theorem sc__law_reads : FnScope N__law_reads ["_law_reader_here", "_law_tape_here"] (defScope s__law_reads) := ⟨rfl, rfl, rfl, by decide +kernel, rfl, by decide +kernel, by decide +kernel⟩
abbrev s__law_every : Stmt := topS 48
abbrev N__law_every : List Str := ["_law_reader_here", "_law_tape_here", "_law_text_here", "_law_found", "_law_letter", "_law_longer", "_law_other", "_law_row", "_law_some"]
theorem sc__law_every : FnScope N__law_every ["_law_reader_here", "_law_tape_here", "_law_text_here"] (defScope s__law_every) := ⟨rfl, rfl, rfl, by decide +kernel, rfl, by decide +kernel, by decide +kernel⟩
abbrev s_is_row : Stmt := topS 14
abbrev N_is_row : List Str := ["thing", "width", "sign"]
theorem sc_is_row : FnScope N_is_row ["thing", "width"] (defScope s_is_row) := ⟨rfl, rfl, rfl, by decide +kernel, rfl, by decide +kernel, by decide +kernel⟩
abbrev s_check_tape : Stmt := topS 17
abbrev N_check_tape : List Str := ["width", "tape", "place", "row"]
theorem sc_check_tape : FnScope N_check_tape ["width", "tape"] (defScope s_check_tape) := ⟨rfl, rfl, rfl, by decide +kernel, rfl, by decide +kernel, by decide +kernel⟩
abbrev s_check_text : Stmt := topS 18
abbrev N_check_text : List Str := ["text", "place", "sign"]
theorem sc_check_text : FnScope N_check_text ["text"] (defScope s_check_text) := ⟨rfl, rfl, rfl, by decide +kernel, rfl, by decide +kernel, by decide +kernel⟩
abbrev s_is_letter : Stmt := topS 15
abbrev N_is_letter : List Str := ["thing"]
theorem sc_is_letter : FnScope N_is_letter ["thing"] (defScope s_is_letter) := ⟨rfl, rfl, rfl, by decide +kernel, rfl, by decide +kernel, by decide +kernel⟩
abbrev s_width_of : Stmt := topS 16
abbrev N_width_of : List Str := ["reader", "first", "letter", "row", "width"]
theorem sc_width_of : FnScope N_width_of ["reader"] (defScope s_width_of) := ⟨rfl, rfl, rfl, by decide +kernel, rfl, by decide +kernel, by decide +kernel⟩
abbrev s_check_all : Stmt := topS 26
abbrev N_check_all : List Str := ["reader", "tape", "text"]
theorem sc_check_all : FnScope N_check_all ["reader", "tape", "text"] (defScope s_check_all) := ⟨rfl, rfl, rfl, by decide +kernel, rfl, by decide +kernel, by decide +kernel⟩
abbrev s_meaning : Stmt := topS 22
abbrev N_meaning : List Str := ["reader", "row"]
theorem sc_meaning : FnScope N_meaning ["reader", "row"] (defScope s_meaning) := ⟨rfl, rfl, rfl, by decide +kernel, rfl, by decide +kernel, by decide +kernel⟩
abbrev s_rows_of : Stmt := topS 20
abbrev N_rows_of : List Str := ["width", "found", "turn", "row"]
theorem sc_rows_of : FnScope N_rows_of ["width"] (defScope s_rows_of) := ⟨rfl, rfl, rfl, by decide +kernel, rfl, by decide +kernel, by decide +kernel⟩
abbrev s_goes_over : Stmt := topS 19
abbrev N_goes_over : List Str := ["row", "other", "one", "new"]
theorem sc_goes_over : FnScope N_goes_over ["row", "other"] (defScope s_goes_over) := ⟨rfl, rfl, rfl, by decide +kernel, rfl, by decide +kernel, by decide +kernel⟩
abbrev s_above : Stmt := topS 21
abbrev N_above : List Str := ["row", "other"]
theorem sc_above : FnScope N_above ["row"] (defScope s_above) := ⟨rfl, rfl, rfl, by decide +kernel, rfl, by decide +kernel, by decide +kernel⟩
abbrev s_ways_of : Stmt := topS 27
abbrev N_ways_of : List Str := ["reader", "tape", "text", "found", "last", "letters", "line", "many", "more", "row", "other"]
theorem sc_ways_of : FnScope N_ways_of ["reader", "tape", "text"] (defScope s_ways_of) := ⟨rfl, rfl, rfl, by decide +kernel, rfl, by decide +kernel, by decide +kernel⟩
abbrev s_is_whole : Stmt := topS 13
abbrev N_is_whole : List Str := ["thing"]
theorem sc_is_whole : FnScope N_is_whole ["thing"] (defScope s_is_whole) := ⟨rfl, rfl, rfl, by decide +kernel, rfl, by decide +kernel, by decide +kernel⟩
abbrev s_way_by : Stmt := topS 29
abbrev N_way_by : List Str := ["reader", "tape", "text", "number", "at", "found", "left", "many", "other", "row", "step", "table"]
theorem sc_way_by : FnScope N_way_by ["reader", "tape", "text", "number"] (defScope s_way_by) := ⟨rfl, rfl, rfl, by decide +kernel, rfl, by decide +kernel, by decide +kernel⟩
abbrev s__law_width : Stmt := topS 38
abbrev N__law_width : List Str := ["_law_reader_here"]
theorem sc__law_width : FnScope N__law_width ["_law_reader_here"] (defScope s__law_width) := ⟨rfl, rfl, rfl, by decide +kernel, rfl, by decide +kernel, by decide +kernel⟩
abbrev s_ways : Stmt := topS 28
abbrev N_ways : List Str := ["reader", "tape", "text"]
theorem sc_ways : FnScope N_ways ["reader", "tape", "text"] (defScope s_ways) := ⟨rfl, rfl, rfl, by decide +kernel, rfl, by decide +kernel, by decide +kernel⟩
abbrev s__law_many : Stmt := topS 46
abbrev N__law_many : List Str := ["_law_reader_here", "_law_tape_here", "_law_text_here", "_law_at", "_law_last", "_law_letter", "_law_line", "_law_many_here", "_law_other", "_law_row"]
theorem sc__law_many : FnScope N__law_many ["_law_reader_here", "_law_tape_here", "_law_text_here"] (defScope s__law_many) := ⟨rfl, rfl, rfl, by decide +kernel, rfl, by decide +kernel, by decide +kernel⟩
abbrev s_over : Stmt := topS 24
abbrev N_over : List Str := ["tape", "other", "one", "new"]
theorem sc_over : FnScope N_over ["tape", "other"] (defScope s_over) := ⟨rfl, rfl, rfl, by decide +kernel, rfl, by decide +kernel, by decide +kernel⟩
abbrev s_text_of : Stmt := topS 23
abbrev N_text_of : List Str := ["reader", "tape", "row"]
theorem sc_text_of : FnScope N_text_of ["reader", "tape"] (defScope s_text_of) := ⟨rfl, rfl, rfl, by decide +kernel, rfl, by decide +kernel, by decide +kernel⟩
abbrev s_number_of : Stmt := topS 30
abbrev N_number_of : List Str := ["reader", "tape", "text", "other", "at", "found", "many", "new", "row", "step", "table"]
theorem sc_number_of : FnScope N_number_of ["reader", "tape", "text", "other"] (defScope s_number_of) := ⟨rfl, rfl, rfl, by decide +kernel, rfl, by decide +kernel, by decide +kernel⟩
abbrev s__law_whole : Stmt := topS 49
abbrev N__law_whole : List Str := ["_law_number"]
theorem sc__law_whole : FnScope N__law_whole ["_law_number"] (defScope s__law_whole) := ⟨rfl, rfl, rfl, by decide +kernel, rfl, by decide +kernel, by decide +kernel⟩
abbrev s__law_can : Stmt := topS 44
abbrev N__law_can : List Str := ["_law_tape_here", "_law_other", "_law_row", "_law_new"]
theorem sc__law_can : FnScope N__law_can ["_law_tape_here", "_law_other"] (defScope s__law_can) := ⟨rfl, rfl, rfl, by decide +kernel, rfl, by decide +kernel, by decide +kernel⟩
abbrev s__law_ahead : Stmt := topS 47
abbrev N__law_ahead : List Str := ["_law_reader_here", "_law_tape_here", "_law_text_here", "_law_found", "_law_at", "_law_letter", "_law_many_here", "_law_other", "_law_read", "_law_row"]
theorem sc__law_ahead : FnScope N__law_ahead ["_law_reader_here", "_law_tape_here", "_law_text_here", "_law_found"] (defScope s__law_ahead) := ⟨rfl, rfl, rfl, by decide +kernel, rfl, by decide +kernel, by decide +kernel⟩
abbrev s__law_ways_right : Stmt := topS 50
abbrev N__law_ways_right : List Str := ["_law_reader_here", "_law_tape_here", "_law_text_here", "_law_numbers", "_law_due", "_law_found", "_law_given", "_law_handed", "_law_many_here", "_law_number", "_law_told"]
theorem sc__law_ways_right : FnScope N__law_ways_right ["_law_reader_here", "_law_tape_here", "_law_text_here", "_law_numbers"] (defScope s__law_ways_right) := ⟨rfl, rfl, rfl, by decide +kernel, rfl, by decide +kernel, by decide +kernel⟩
abbrev s_law : Stmt := topS 51
abbrev N_law : List Str := ["_law_script", "_law_by", "_law_draws", "_law_every_here", "_law_few", "_law_pool_here", "_law_reader_here", "_law_some", "_law_tape_here", "_law_text_here", "_law_width_here", "_law_at"]
theorem sc_law : FnScope N_law ["_law_script"] (defScope s_law) := ⟨rfl, rfl, rfl, by decide +kernel, rfl, by decide +kernel, by decide +kernel⟩
structure Txt (K : PySem.W.Frag) (mg : Str → Option Value) : Prop where
  z_abs : mg "abs" = none
  z_all : mg "all" = none
  z_any : mg "any" = none
  z_bool : mg "bool" = none
  z_dict : mg "dict" = none
  z_enumerate : mg "enumerate" = none
  z_int : mg "int" = none
  z_isinstance : mg "isinstance" = none
  z_len : mg "len" = none
  z_list : mg "list" = none
  z_max : mg "max" = none
  z_min : mg "min" = none
  z_range : mg "range" = none
  z_sorted : mg "sorted" = none
  z_str : mg "str" = none
  z_sum : mg "sum" = none
  z_zip : mg "zip" = none
  c_HOLE : ∃ t, mg "HOLE" = some (.str (S [111]) t)
  c_BLANK : ∃ t, mg "BLANK" = some (.str (S [46]) t)
  c_MOST : ∃ t, mg "MOST" = some (.int 30 t)
  c_LETTERS : ∃ t, mg "LETTERS" = some (.str (S [97, 98, 99, 100, 101, 102, 103, 104, 105, 106, 107, 108, 109, 110, 111, 112, 113, 114, 115, 116, 117, 118, 119, 120, 121, 122]) t)
  c_WIDEST : ∃ t, mg "WIDEST" = some (.int 4 t)
  d__law_draw : DefAt K mg "_law_draw" "_law_draw" s__law_draw ["_law_cell", "_law_k", "_law_many_here"]
  d__law_cell_at : DefAt K mg "_law_cell_at" "_law_cell_at" s__law_cell_at ["_law_script", "_law_k"]
  d__law_digits : DefAt K mg "_law_digits" "_law_digits" s__law_digits ["_law_script", "_law_at", "_law_many_here", "_law_base"]
  d__law_pool : DefAt K mg "_law_pool" "_law_pool" s__law_pool ["_law_script", "_law_at"]
  d__law_rows : DefAt K mg "_law_rows" "_law_rows" s__law_rows ["_law_width_here"]
  d__law_reader : DefAt K mg "_law_reader" "_law_reader" s__law_reader ["_law_script", "_law_at", "_law_pool_here", "_law_least"]
  d__law_tape : DefAt K mg "_law_tape" "_law_tape" s__law_tape ["_law_script", "_law_at", "_law_width_here", "_law_many_here"]
  d__law_text : DefAt K mg "_law_text" "_law_text" s__law_text ["_law_script", "_law_at", "_law_pool_here", "_law_many_here"]
  d__law_means : DefAt K mg "_law_means" "_law_means" s__law_means ["_law_reader_here", "_law_row"]
  d__law_over : DefAt K mg "_law_over" "_law_over" s__law_over ["_law_row", "_law_other"]
  d__law_letters_above : DefAt K mg "_law_letters_above" "_law_letters_above" s__law_letters_above ["_law_reader_here", "_law_row"]
  d__law_reads : DefAt K mg "_law_reads" "_law_reads" s__law_reads ["_law_reader_here", "_law_tape_here"]
  d__law_every : DefAt K mg "_law_every" "_law_every" s__law_every ["_law_reader_here", "_law_tape_here", "_law_text_here"]
  d_is_row : DefAt K mg "is_row" "is_row" s_is_row ["thing", "width"]
  d_check_tape : DefAt K mg "check_tape" "check_tape" s_check_tape ["width", "tape"]
  d_check_text : DefAt K mg "check_text" "check_text" s_check_text ["text"]
  d_is_letter : DefAt K mg "is_letter" "is_letter" s_is_letter ["thing"]
  d_width_of : DefAt K mg "width_of" "width_of" s_width_of ["reader"]
  d_check_all : DefAt K mg "check_all" "check_all" s_check_all ["reader", "tape", "text"]
  d_meaning : DefAt K mg "meaning" "meaning" s_meaning ["reader", "row"]
  d_rows_of : DefAt K mg "rows_of" "rows_of" s_rows_of ["width"]
  d_goes_over : DefAt K mg "goes_over" "goes_over" s_goes_over ["row", "other"]
  d_above : DefAt K mg "above" "above" s_above ["row"]
  d_ways_of : DefAt K mg "ways_of" "ways_of" s_ways_of ["reader", "tape", "text"]
  d_is_whole : DefAt K mg "is_whole" "is_whole" s_is_whole ["thing"]
  d_way_by : DefAt K mg "way_by" "way_by" s_way_by ["reader", "tape", "text", "number"]
  d__law_width : DefAt K mg "_law_width" "_law_width" s__law_width ["_law_reader_here"]
  d_ways : DefAt K mg "ways" "ways" s_ways ["reader", "tape", "text"]
  d__law_many : DefAt K mg "_law_many" "_law_many" s__law_many ["_law_reader_here", "_law_tape_here", "_law_text_here"]
  d_over : DefAt K mg "over" "over" s_over ["tape", "other"]
  d_text_of : DefAt K mg "text_of" "text_of" s_text_of ["reader", "tape"]
  d_number_of : DefAt K mg "number_of" "number_of" s_number_of ["reader", "tape", "text", "other"]
  d__law_whole : DefAt K mg "_law_whole" "_law_whole" s__law_whole ["_law_number"]
  d__law_can : DefAt K mg "_law_can" "_law_can" s__law_can ["_law_tape_here", "_law_other"]
  d__law_ahead : DefAt K mg "_law_ahead" "_law_ahead" s__law_ahead ["_law_reader_here", "_law_tape_here", "_law_text_here", "_law_found"]
  d__law_ways_right : DefAt K mg "_law_ways_right" "_law_ways_right" s__law_ways_right ["_law_reader_here", "_law_tape_here", "_law_text_here", "_law_numbers"]
variable {P : PySem.Program} {w : World} {K : PySem.W.Frag} {mg : Str → Option Value} {base : Heap}
def R__law_draw (K : PySem.W.Frag) : List V → Hp → V → Prop := fun vs H z => ∃ (c m i : Int), AllP [isV (.int c), isV (.int m), isV (.int i)] vs H ∧ ((0 < i) ∧ True) ∧ z = .int (draw c m i)
def sp__law_draw (K : PySem.W.Frag) : Sp := spV  3 (R__law_draw K)
theorem ev__law_draw {K : PySem.W.Frag} {σ : L2.St} {H : Hp} {tr : TA} {E : XK} {c m i : Int} (h : EvAG tr σ H [isV (.int c), isV (.int m), isV (.int i)]) (p0 : 0 < i) : Ev (tCallO (sp__law_draw K) E tr) σ H (.int (draw c m i)) := ev_callG h rfl fun vs H1 e hp => ⟨c, m, i, hp, ⟨p0, trivial⟩, rfl⟩

theorem ok__law_draw (T : Txt K mg) : OkF P w K mg base CX0 "_law_draw" 1 (sp__law_draw K) := by
  refine OkF.of T.d__law_draw sc__law_draw (fun vs H Q E h => h.1) (fun f cdv A outer s H vs Q E hr h => ?_)
  obtain ⟨-, z, H0, e0, ⟨c, m, i, ⟨v0, r0, rfl, rfl, ⟨v1, r1, rfl, rfl, ⟨v2, r2, rfl, rfl, rfl⟩⟩⟩, ⟨p0, -⟩, rfl⟩, k⟩ := h
  clear e0 H0
  have hu := hu_of hr
  refine ⟨_, (pss_cons (ps_set (i := 3) sc__law_draw.nd rfl (.inl rfl) (pe_tup (pa_cons pe_int (pa_cons pe_int (pa_cons pe_int (pa_cons pe_int (pa_cons pe_int (pa_cons pe_int (pa_cons pe_int (pa_cons pe_int (pa_cons pe_int (pa_cons pe_int (pa_cons pe_int (pa_cons pe_int (pa_cons pe_int (pa_cons pe_int (pa_cons pe_int (pa_cons pe_int pa_nil))))))))))))))))))
 (pss_one (ps_ret (pe_op op_mod (pe_op op_mod (pe_op op_add (pe_op op_mul (pv 0) pe_int) (pe_op op_mul (pv 1) pe_int)) (pe_ix (kix_tup (K := K)) (pv 3) (pe_op op_mod (pv 1) pe_int) (fun _ _ => rfl))) (pv 2))))), ?_⟩
  refine q_asgU (eu_tup (ea_cons ev_c (ea_cons ev_c (ea_cons ev_c (ea_cons ev_c (ea_cons ev_c (ea_cons ev_c (ea_cons ev_c (ea_cons ev_c (ea_cons ev_c (ea_cons ev_c (ea_cons ev_c (ea_cons ev_c (ea_cons ev_c (ea_cons ev_c (ea_cons ev_c (ea_cons ev_c ea_nil)))))))))))))))) (by simp)) fun p H1 hp e1 hP => ?_
  have hT : ST K H1 p (Ints primes) := stof hP
  have h16 : 0 ≤ m % 16 ∧ m % 16 < 16 := ⟨Int.emod_nonneg _ (by decide), Int.emod_lt_of_pos _ (by decide)⟩
  have hpos : 0 < primes.getD (m % 16).toNat 0 := primes_pos _ (by omega)
  have h16a := h16.1
  have h16b : m % 16 < (primes.length : Int) := h16.2
  exact s_ret2 (Ev.is (ev_mod (ev_mod (ev_add (ev_mul (ev_var rfl) ev_c (by walk_at "cmul")) (ev_mul (ev_var rfl) ev_c (by walk_at "cmul"))) (ev_ixT (0 : Int) (ev_var rfl) (by walk_at "fact") (ev_mod (ev_var rfl) ev_c (by walk_at "side")) (by walk_at "side") (by walk_at "side")) (by walk_at "side")) (ev_var rfl) (by walk_at "side")) rfl) (RetV.ex k e1)

def R__law_cell_at (K : PySem.W.Frag) : List V → Hp → V → Prop := fun vs H z => ∃ (ns : List Int) (m : Int), AllP [isL K (Ints ns), isV (.int m)] vs H ∧ ((0 ≤ m) ∧ True) ∧ z = .int (cellAt ns m)
def sp__law_cell_at (K : PySem.W.Frag) : Sp := spV  2 (R__law_cell_at K)
theorem ev__law_cell_at {K : PySem.W.Frag} {σ : L2.St} {H : Hp} {tr : TA} {E : XK} {ns : List Int} {m : Int} (h : EvAG tr σ H [isL K (Ints ns), isV (.int m)]) (p0 : 0 ≤ m) : Ev (tCallO (sp__law_cell_at K) E tr) σ H (.int (cellAt ns m)) := ev_callG h rfl fun vs H1 e hp => ⟨ns, m, hp, ⟨p0, trivial⟩, rfl⟩

theorem ok__law_cell_at (T : Txt K mg) : OkF P w K mg base CX0 "_law_cell_at" 2 (sp__law_cell_at K) := by
  have O__law_draw : OkF P w K mg base CX0 "_law_draw" 1 (sp__law_draw K) := ok__law_draw T
  refine OkF.of T.d__law_cell_at sc__law_cell_at (fun vs H Q E h => h.1) (fun f cdv A outer s H vs Q E hr h => ?_)
  obtain ⟨-, z, H0, e0, ⟨ns, m, ⟨v0, r0, rfl, ⟨a0, rfl, q0⟩, ⟨v1, r1, rfl, rfl, rfl⟩⟩, ⟨p0, -⟩, rfl⟩, k⟩ := h
  have h0 := exl e0 q0
  clear q0
  clear e0 H0
  have hu := hu_of hr
  refine ⟨_, (pss_cons (ps_if (pt_cmpR op_lt (pv 1) (pe_callB (kcb_lenQ (K := K)) (by rfl) T.z_len (by decide +kernel) (pa_cons (pv 0) pa_nil)) (nomark _))
  (pss_one (ps_ret (pe_callB cb_abs (by rfl) T.z_abs (by decide +kernel) (pa_cons (pe_ix (kix_list (K := K)) (pv 0) (pv 1) (fun _ _ => rfl)) pa_nil))))
  pss_nil)
 (pss_one (ps_ret (pe_callO O__law_draw hr (by rfl) pass0 (pa_cons (pe_op op_add (pe_callB cb_abs (by rfl) T.z_abs (by decide +kernel) (pa_cons (pe_callB (kcr_sum (K := K) rfl) (by rfl) T.z_sum (by decide +kernel) (pa_cons (pv 0) pa_nil)) pa_nil)) (pe_op op_mul pe_int (pv 1))) (pa_cons (pv 1) (pa_cons pe_int pa_nil))))))), ?_⟩
  refine q_when (et_test (ev_lt (ev_var rfl) (ev_lenQ (q_old (ev_var rfl) (by walk_at "fact"))))) (fun hb H1 e1 => ?_) (fun hb H1 e1 => ?_)
  · have hm : m < (ns.length : Int) := of_decide_eq_true hb
    refine s_ret2 (Ev.is (ev_abs (ev_ixQ (0 : Int) (q_old (ev_var rfl) (by walk_at "fact")) (ev_var rfl) (by walk_at "side") (by walk_at "side"))) ?_) (RetV.ex k e1)
    unfold cellAt
    rw [hb]
    rfl
  · refine s_ret2 (Ev.is (ev__law_draw (ag_V (ev_add (ev_abs (ev_sumV (q_old (ev_var rfl) (by walk_at "fact")))) (ev_mul ev_c (ev_var rfl) (by walk_at "cmul"))) (ag_V (ev_var rfl) (ag_V ev_c ag_nil))) (by walk_at "side")) ?_) (RetV.ex k e1)
    unfold cellAt
    rw [hb]
    rfl

def R__law_digits (K : PySem.W.Frag) : List V → Hp → List V → Prop := fun vs H z => ∃ (ns : List Int) (m n b : Int), AllP [isL K (Ints ns), isV (.int m), isV (.int n), isV (.int b)] vs H ∧ ((0 ≤ m) ∧ (0 ≤ n) ∧ (n ≤ 1000) ∧ (0 < b) ∧ (b < 1073741824) ∧ True) ∧ z = Ints (digits ns m n b)
def sp__law_digits (K : PySem.W.Frag) : Sp := spL  4 (R__law_digits K)
theorem ev__law_digits {K : PySem.W.Frag} {σ : L2.St} {H : Hp} {tr : TA} {E : XK} {ns : List Int} {m n b : Int} (h : EvAG tr σ H [isL K (Ints ns), isV (.int m), isV (.int n), isV (.int b)]) (p0 : 0 ≤ m) (p1 : 0 ≤ n) (p2 : n ≤ 1000) (p3 : 0 < b) (p4 : b < 1073741824) : EvL (tCallO (sp__law_digits K) E tr) σ H (Ints (digits ns m n b)) := el_callG h rfl fun vs H1 e hp => ⟨ns, m, n, b, hp, ⟨p0, p1, p2, p3, p4, trivial⟩, rfl⟩

theorem ok__law_digits (T : Txt K mg) : OkF P w K mg base CX0 "_law_digits" 3 (sp__law_digits K) := by
  have O__law_cell_at : OkF P w K mg base CX0 "_law_cell_at" 2 (sp__law_cell_at K) := ok__law_cell_at T
  have O__law_draw : OkF P w K mg base CX0 "_law_draw" 1 (sp__law_draw K) := ok__law_draw T
  refine OkF.of T.d__law_digits sc__law_digits (fun vs H Q E h => h.1) (fun f cdv A outer s H vs Q E hr h => ?_)
  obtain ⟨-, z, H0, e0, ⟨ns, m, n, b, ⟨v0, r0, rfl, ⟨a0, rfl, q0⟩, ⟨v1, r1, rfl, rfl, ⟨v2, r2, rfl, rfl, ⟨v3, r3, rfl, rfl, rfl⟩⟩⟩⟩, ⟨p0, p1, p2, p3, p4, -⟩, rfl⟩, k⟩ := h
  have h0 := exl e0 q0
  clear q0
  clear e0 H0
  have hu := hu_of hr
  refine ⟨_, (pss_cons (ps_par (i := 5) (j := 6) rfl sc__law_digits.nd rfl rfl (by decide) rfl rfl (pa_cons (pe_callO O__law_cell_at hr (by rfl) pass0 (pa_cons (pv 0) (pa_cons (pv 1) pa_nil))) (pa_cons (pe_lst pa_nil) pa_nil)) (by rfl))
 (pss_cons (ps_set (i := 7) sc__law_digits.nd rfl (.inl rfl) (pe_op op_sub (pv 5) (pe_op op_pow pe_int pe_int)))
 (pss_cons (ps_for PassesOwn.never rfl (pi_range1 rfl T.z_range (pa_cons (pv 2) pa_nil)) (pg_name (i := 9) sc__law_digits.nd rfl (.inl rfl))
  (pss_one (ps_if (pt_cmpR op_ge (pv 5) (pe_op op_pow pe_int pe_int) (nomark _))
  (pss_cons (ps_expr (pe_bm PySem.F.plainAttrs_list PySem.F.slot_list_append PySem.F.type_list_append mt_append (pv 6) (pa_cons (pe_op op_mod (pv 7) (pv 3)) pa_nil)))
 (pss_one (ps_set (i := 7) sc__law_digits.nd rfl (.inl rfl) (pe_op op_fdiv (pv 7) (pv 3)))))
  (pss_cons (ps_set (i := 4) sc__law_digits.nd rfl (.inl rfl) (pe_callO O__law_draw hr (by rfl) pass0 (pa_cons (pe_op op_mul (pe_op op_add (pv 5) (pe_op op_mul pe_int (pv 9))) (pe_op op_add (pe_op op_add (pv 5) (pe_op op_mul pe_int (pv 9))) pe_int)) (pa_cons (pe_op op_add (pe_op op_mod (pv 9) pe_int) pe_int) (pa_cons pe_int pa_nil)))))
 (pss_cons (ps_set (i := 8) sc__law_digits.nd rfl (.inl rfl) (pe_callO O__law_draw hr (by rfl) pass0 (pa_cons (pe_op op_add (pe_op op_mul (pe_op op_add (pv 5) (pe_op op_mul pe_int (pv 9))) (pe_op op_add (pv 5) pe_int)) (pe_op op_mul pe_int (pv 9))) (pa_cons (pe_op op_add (pe_op op_mod (pv 9) pe_int) pe_int) (pa_cons pe_int pa_nil)))))
 (pss_one (ps_expr (pe_bm PySem.F.plainAttrs_list PySem.F.slot_list_append PySem.F.type_list_append mt_append (pv 6) (pa_cons (pe_op op_mod (pe_op op_add (pe_op op_mul (pv 4) pe_int) (pv 8)) (pv 3)) pa_nil)))))))))
 (pss_one (ps_ret (pv 6)))))), ?_⟩
  have hc0 := cellAt_nn ns m
  have hten : (10 : Int) ^ (18 : Int).toNat = 1000000000000000000 := by decide
  refine q_par (ag_V (ev__law_cell_at (ag_L (q_old (ev_var rfl) (by walk_at "fact")) (ag_V (ev_var rfl) ag_nil)) (by walk_at "side")) (ag_NL el_nil ag_nil)) fun v1 v2 H1 e1 h1 h2 => ?_
  obtain rfl := h1
  obtain ⟨p, rfl, hp0, hp⟩ := h2
  refine q_asg (Ev.is (ev_sub (ev_var rfl) (ev_pow ev_c ev_c (by walk_at "cpow"))) (by rw [hten])) fun H2 e2 => ?_
  refine q_for (s := [p]) (i_rng1 (ea_cons (ev_var rfl) ea_nil) (by walk_at "rng")) (by intro a ha; rw [List.mem_singleton.mp ha, e2 _ _ hp]; simp) fun H3 e3 => ⟨fun i σ' H' => ∃ x y z L, σ' = [some (.ref a0), some (.int m), some (.int n), some (.int b), x, some (.int (cellAt ns m)), some (.ref p), some (.int L), y, z] ∧
      (1000000000000000000 ≤ cellAt ns m → L = leftAt (cellAt ns m - 1000000000000000000) b i) ∧ Xb [p] H3 H' ∧ H' p = some (.lst (Ints ((List.range i).map (digit (cellAt ns m) b)))),
    ⟨none, none, none, _, rfl, fun _ => rfl, Xb.refl _ _, e3 _ _ (e2 _ _ hp)⟩, fun i σ' H' ⟨_, _, _, _, _, _, x, _⟩ => x, ?_, ?_⟩
  · rintro i t σ' H4 H5 hi ⟨x, y, z, L, rfl, hL, hx, hq⟩ e5
    have hit : t = i ∧ i < n.toNat := by
      obtain ⟨h1, h2⟩ := List.getElem?_eq_some_iff.mp hi
      rw [List.length_range] at h1
      rw [List.getElem_range] at h2
      exact ⟨h2.symm, h1⟩
    obtain ⟨rfl, hlt⟩ := hit
    have hq5 := e5 _ _ hq
    have hx5 := hx.ex e5
    have step : (List.range (t + 1)).map (digit (cellAt ns m) b) = (List.range t).map (digit (cellAt ns m) b) ++ [digit (cellAt ns m) b t] := by
      rw [List.range_succ, List.map_append]
      rfl
    have hsz : (Ints ((List.range t).map (digit (cellAt ns m) b))).length < 100000 := by
      rw [List.length_map, List.length_map, List.length_range]
      omega
    refine s_if (EvT.is (et_test (ev_ge (ev_var rfl) (ev_pow ev_c ev_c (by walk_at "cpow")))) (by rw [hten])) (fun hb H6 e6 => ?_) (fun hb H6 e6 => ?_)
    · have hbig : 1000000000000000000 ≤ cellAt ns m := of_decide_eq_true hb
      refine q_app (e6 _ _ hq5) (ev_var rfl) (ev_mod (ev_var rfl) (ev_var rfl) (by walk_at "side")) hsz fun H7 e7 => ?_
      refine s_asg (ev_fdiv (ev_var rfl) (ev_var rfl) (by walk_at "cdiv")) fun H8 e8 => ⟨_, _, _, _, rfl, fun _ => by rw [hL hbig]; rfl, ((hx5.ex (e6.trans e7)).upd (by simp)).ex e8, ?_⟩
      rw [step]
      refine e8 _ _ ?_
      rw [upd_same]
      unfold Ints
      rw [List.map_append]
      congr 3
      unfold digit
      rw [if_pos hbig, hL hbig]
      rfl
    · have hsm : ¬ 1000000000000000000 ≤ cellAt ns m := of_decide_eq_false hb
      have hsm' : cellAt ns m < 1000000000000000000 := by omega
      have ht1 : (t : Int) < 1000 := by omega
      refine q_asg (ev__law_draw (ag_V (ev_mul (ev_add (ev_var rfl) (ev_mul ev_c (ev_var rfl) (by walk_at "cmul"))) (ev_add (ev_add (ev_var rfl) (ev_mul ev_c (ev_var rfl) (by walk_at "cmul"))) ev_c) (by walk_at "cmul")) (ag_V (ev_add (ev_mod (ev_var rfl) ev_c (by walk_at "side")) ev_c) (ag_V ev_c ag_nil))) (by walk_at "side")) fun H7 e7 => ?_
      refine q_asg (ev__law_draw (ag_V (ev_add (ev_mul (ev_add (ev_var rfl) (ev_mul ev_c (ev_var rfl) (by walk_at "cmul"))) (ev_add (ev_var rfl) ev_c) (by walk_at "cmul")) (ev_mul ev_c (ev_var rfl) (by walk_at "cmul"))) (ag_V (ev_add (ev_mod (ev_var rfl) ev_c (by walk_at "side")) ev_c) (ag_V ev_c ag_nil))) (by walk_at "side")) fun H8 e8 => ?_
      refine s_app (e8 _ _ (e7 _ _ (e6 _ _ hq5))) (ev_var rfl) (ev_mod (ev_add (ev_mul (ev_var rfl) ev_c (by walk_at "cmul")) (ev_var rfl)) (ev_var rfl) (by walk_at "side")) hsz fun H9 e9 => ⟨_, _, _, _, rfl, fun h => absurd h hsm, (hx5.ex (((e6.trans e7).trans e8).trans e9)).upd (by simp), ?_⟩
      rw [step, upd_same]
      unfold Ints
      rw [List.map_append]
      congr 3
      unfold digit
      rw [if_neg hsm]
      rfl
  · rintro σ' H4 ⟨x, y, z, L, rfl, hL, hx, hq⟩
    have eH : Ex H H4 := Ex.xb0 ((e1.trans e2).trans e3) hx (fun a ha => by rw [List.mem_singleton.mp ha]; exact hp0)
    rw [List.length_range] at hq
    exact s_ret (ev_var rfl) fun H5 e5 => k p H5 hp0 (eH.trans e5) (e5 _ _ hq)

def R__law_pool (K : PySem.W.Frag) : List V → Hp → List V → Prop := fun vs H z => ∃ (ns : List Int) (m : Int), AllP [isL K (Ints ns), isV (.int m)] vs H ∧ ((0 ≤ m) ∧ True) ∧ z = Txts (pool ns m)
def sp__law_pool (K : PySem.W.Frag) : Sp := spL  2 (R__law_pool K)
theorem ev__law_pool {K : PySem.W.Frag} {σ : L2.St} {H : Hp} {tr : TA} {E : XK} {ns : List Int} {m : Int} (h : EvAG tr σ H [isL K (Ints ns), isV (.int m)]) (p0 : 0 ≤ m) : EvL (tCallO (sp__law_pool K) E tr) σ H (Txts (pool ns m)) := el_callG h rfl fun vs H1 e hp => ⟨ns, m, hp, ⟨p0, trivial⟩, rfl⟩

theorem ok__law_pool (T : Txt K mg) : OkF P w K mg base CX0 "_law_pool" 4 (sp__law_pool K) := by
  have O__law_digits : OkF P w K mg base CX0 "_law_digits" 3 (sp__law_digits K) := ok__law_digits T
  refine OkF.of T.d__law_pool sc__law_pool (fun vs H Q E h => h.1) (fun f cdv A outer s H vs Q E hr h => ?_)
  obtain ⟨-, z, H0, e0, ⟨ns, m, ⟨v0, r0, rfl, ⟨a0, rfl, q0⟩, ⟨v1, r1, rfl, rfl, rfl⟩⟩, ⟨p0, -⟩, rfl⟩, k⟩ := h
  have h0 := exl e0 q0
  clear q0
  clear e0 H0
  have hu := hu_of hr
  refine ⟨_, (pss_one (ps_ret (pe_lc (own := [("_law_one", 2)]) (g := gName 2) rfl sc__law_pool.nd (kpi_list (K := K) (pe_callO O__law_digits hr (by rfl) pass0 (pa_cons (pv 0) (pa_cons (pv 1) (pa_cons pe_int (pa_cons pe_int pa_nil)))))) (blkOk_by (N := N__law_pool) (sc := defScope s__law_pool) (by decide +kernel)) (fun _ _ _ _ _ => (pg_name (i := 2) sc__law_pool.nd rfl (.inl rfl))) (fun _ _ _ _ _ => pts_nil) (fun _ _ _ _ _ => (pe_ix ix_str pe_str (pv 2) (fun _ _ => rfl)))))), ?_⟩
  have hd := digits_mem (ns := ns) (k := m) (m := 3) (b := 26) (by decide)
  have hd0 : ∀ d ∈ digits ns m 3 26, 0 ≤ d := fun d h => (hd d h).1
  have hd1 : ∀ d ∈ digits ns m 3 26, d < (([97, 98, 99, 100, 101, 102, 103, 104, 105, 106, 107, 108, 109, 110, 111, 112, 113, 114, 115, 116, 117, 118, 119, 120, 121, 122] : Row).length : Int) := fun d h => (hd d h).2
  have hl : (digits ns m 3 26).length ≤ 40000 := by rw [digits_len]; decide
  refine s_retL2 (EvL.is (el_lc1 (i_list (qa_new (ev__law_digits (ag_L (q_old (ev_var rfl) (by walk_at "fact")) (ag_V (ev_var rfl) (ag_V ev_c (ag_V ev_c ag_nil)))) (by walk_at "side") (by walk_at "side") (by walk_at "side") (by walk_at "side") (by walk_at "side")))) (by walk_at "len") (fun _ => wipe_one _ _ _) (fun x1 hx1 H101 e101 => (ev_ixS (ev_cS (l := [97, 98, 99, 100, 101, 102, 103, 104, 105, 106, 107, 108, 109, 110, 111, 112, 113, 114, 115, 116, 117, 118, 119, 120, 121, 122]) (by decide +kernel)) (ev_var rfl) (by walk_at "side") (by walk_at "side") (by walk_at "side")))) ?_) k
  unfold pool Txts
  rw [List.map_map]
  rfl

def R__law_rows (K : PySem.W.Frag) : List V → Hp → List V → Prop := fun vs H z => ∃ (w : Int), AllP [isV (.int w)] vs H ∧ ((0 ≤ w) ∧ (w ≤ 4) ∧ True) ∧ z = Txts (rowsL w)
def sp__law_rows (K : PySem.W.Frag) : Sp := spL  1 (R__law_rows K)
theorem ev__law_rows {K : PySem.W.Frag} {σ : L2.St} {H : Hp} {tr : TA} {E : XK} {w : Int} (h : EvAG tr σ H [isV (.int w)]) (p0 : 0 ≤ w) (p1 : w ≤ 4) : EvL (tCallO (sp__law_rows K) E tr) σ H (Txts (rowsL w)) := el_callG h rfl fun vs H1 e hp => ⟨w, hp, ⟨p0, p1, trivial⟩, rfl⟩

theorem ok__law_rows (T : Txt K mg) : OkF P w K mg base CX0 "_law_rows" 1 (sp__law_rows K) := by
  refine OkF.of T.d__law_rows sc__law_rows (fun vs H Q E h => h.1) (fun f cdv A outer s H vs Q E hr h => ?_)
  obtain ⟨-, z, H0, e0, ⟨w, ⟨v0, r0, rfl, rfl, rfl⟩, ⟨p0, p1, -⟩, rfl⟩, k⟩ := h
  clear e0 H0
  have hu := hu_of hr
  refine ⟨_, (pss_cons (ps_set (i := 1) sc__law_rows.nd rfl (.inl rfl) (pe_lst pa_nil))
 (pss_cons (ps_for PassesOwn.never rfl (pi_range1 rfl T.z_range (pa_cons (pe_op op_shl pe_int (pv 0)) pa_nil)) (pg_name (i := 2) sc__law_rows.nd rfl (.inr rfl))
  (pss_one (ps_expr (pe_bm PySem.F.plainAttrs_list PySem.F.slot_list_append PySem.F.type_list_append mt_append (pv 1) (pa_cons (kpe_joinQ (K := K) pe_str (pe_lc (own := [("_law_at", 3)]) (g := gName 3) rfl sc__law_rows.nd (pi_range1 rfl T.z_range (pa_cons (pv 0) pa_nil)) (blkOk_by (N := N__law_rows) (sc := defScope s__law_rows) (by decide +kernel)) (fun _ _ _ _ _ => (pg_name (i := 3) sc__law_rows.nd rfl (.inl rfl))) (fun _ _ _ _ _ => pts_nil) (fun _ _ _ _ _ => (pe_ifExp (pt_cmpR op_eq (pe_op op_and (pe_op op_shr (pv 2) (pe_op op_sub (pe_op op_sub (pv 0) pe_int) (pv 3))) pe_int) pe_int (nomark _)) pe_str pe_str)))) pa_nil)))))
 (pss_one (ps_ret (pv 1))))), ?_⟩
  have h2 : (2 : Int) ^ w.toNat ≤ 16 := by
    have : w = 0 ∨ w = 1 ∨ w = 2 ∨ w = 3 ∨ w = 4 := by omega
    rcases this with rfl | rfl | rfl | rfl | rfl <;> decide
  have h2' : (0 : Int) ≤ 2 ^ w.toNat := two_pow_nn _
  have hfl : ∀ n : Nat, (((List.range w.toNat).map (bitC n w)).flatten).length ≤ 100000 := fun n => by
    have := rowN_len w n
    unfold rowN at this
    omega
  refine q_asgL el_nil fun p H1 hp0 e1 hp => ?_
  refine q_for (s := [p]) (i_rng1 (ea_cons (ev_shl ev_c (ev_var rfl) (by walk_at "cpow")) ea_nil) (by walk_at "rng")) (by intro a ha; rw [List.mem_singleton.mp ha, hp]; simp) fun H2 e2 => ⟨fun i σ' H' => ∃ x y, σ' = [some (.int w), some (.ref p), x, y] ∧ Xb [p] H2 H' ∧ H' p = some (.lst (Txts ((List.range i).map (rowN w)))),
    ⟨none, none, rfl, Xb.refl _ _, e2 _ _ hp⟩, fun i σ' H' ⟨_, _, _, x, _⟩ => x, ?_, ?_⟩
  · rintro i t σ' H3 H4 hi ⟨x, y, rfl, hx, hq⟩ e4
    have hit : t = i ∧ i < (1 * 2 ^ w.toNat : Int).toNat := by
      obtain ⟨h1, h2⟩ := List.getElem?_eq_some_iff.mp hi
      rw [List.length_range] at h1
      rw [List.getElem_range] at h2
      exact ⟨h2.symm, h1⟩
    obtain ⟨rfl, hlt⟩ := hit
    have hfl' := hfl t
    refine s_app (e4 _ _ hq) (ev_var rfl) (Ev.is (ev_joinQ (ev_cS lit_nil) (q_new (el_lc1 (i_rng1 (ea_cons (ev_var rfl) ea_nil) (by walk_at "rng")) (by walk_at "len") (fun _ => wipe_one _ _ _) (fun x2 hx2 H102 e102 => (ev_ifS (et_test (ev_eqI (ev_and (ev_shr (ev_var rfl) (ev_sub (ev_sub (ev_var rfl) ev_c) (ev_var rfl)) (by walk_at "side")) ev_c) ev_c)) (fun hb3 => (ev_cS lit_o)) (fun hb3 => (ev_cS lit_dot)))))) (by walk_at "len")) rfl) (by simp only [List.length_map, List.length_range]; omega) fun H5 e5 => ⟨_, _, rfl, ((hx.ex e4).ex e5).upd (by simp), ?_⟩
    rw [upd_same, List.range_succ, List.map_append]
    unfold Txts
    rw [List.map_append]
    rfl
  · rintro σ' H3 ⟨x, y, rfl, hx, hq⟩
    have eH : Ex H H3 := Ex.xb0 (e1.trans e2) hx (fun a ha => by rw [List.mem_singleton.mp ha]; exact hp0)
    rw [List.length_range] at hq
    exact s_ret (ev_var rfl) fun H5 e5 => k p H5 hp0 (eH.trans e5) (e5 _ _ hq)

def R__law_reader (K : PySem.W.Frag) : List V → Hp → List (Key × V) → Prop := fun vs H z => ∃ (ns : List Int) (m : Int) (pl : List Row) (least : Int), AllP [isL K (Ints ns), isV (.int m), isL K (Txts pl), isV (.int least)] vs H ∧ ((0 ≤ m) ∧ (pl.length = 3) ∧ (1 ≤ least) ∧ (least ≤ 4) ∧ True) ∧ z = DS (reader ns m pl least)
def sp__law_reader (K : PySem.W.Frag) : Sp := spD  4 (R__law_reader K)
theorem ev__law_reader {K : PySem.W.Frag} {σ : L2.St} {H : Hp} {tr : TA} {E : XK} {ns : List Int} {m : Int} {pl : List Row} {least : Int} (h : EvAG tr σ H [isL K (Ints ns), isV (.int m), isL K (Txts pl), isV (.int least)]) (p0 : 0 ≤ m) (p1 : pl.length = 3) (p2 : 1 ≤ least) (p3 : least ≤ 4) : EvD (tCallO (sp__law_reader K) E tr) σ H (DS (reader ns m pl least)) := ed_callG h rfl fun vs H1 e hp => ⟨ns, m, pl, least, hp, ⟨p0, p1, p2, p3, trivial⟩, rfl⟩

theorem ok__law_reader (T : Txt K mg) : OkF P w K mg base CX0 "_law_reader" 4 (sp__law_reader K) := by
  have O__law_digits : OkF P w K mg base CX0 "_law_digits" 3 (sp__law_digits K) := ok__law_digits T
  have O__law_rows : OkF P w K mg base CX0 "_law_rows" 1 (sp__law_rows K) := ok__law_rows T
  refine OkF.of T.d__law_reader sc__law_reader (fun vs H Q E h => h.1) (fun f cdv A outer s H vs Q E hr h => ?_)
  obtain ⟨-, z, H0, e0, ⟨ns, m, pl, least, ⟨v0, r0, rfl, ⟨a0, rfl, q0⟩, ⟨v1, r1, rfl, rfl, ⟨v2, r2, rfl, ⟨a2, rfl, q2⟩, ⟨v3, r3, rfl, rfl, rfl⟩⟩⟩⟩, ⟨p0, p1, p2, p3, -⟩, rfl⟩, k⟩ := h
  have h0 := exl e0 q0
  clear q0
  have h2 := exl e0 q2
  clear q2
  clear e0 H0
  have hu := hu_of hr
  refine ⟨_, (pss_cons (ps_par (i := 5) (j := 6) rfl sc__law_reader.nd rfl rfl (by decide) rfl rfl (pa_cons (pe_callO O__law_digits hr (by rfl) pass0 (pa_cons (pv 0) (pa_cons (pv 1) (pa_cons pe_int (pa_cons pe_int pa_nil))))) (pa_cons pe_dnewK pa_nil)) (by rfl))
 (pss_cons (ps_set (i := 10) sc__law_reader.nd rfl (.inl rfl) (pe_op op_add (pv 3) (pe_op op_mod (pe_ix (kix_list (K := K)) (pv 5) pe_int (fun _ _ => rfl)) (pe_op op_sub pe_int (pv 3)))))
 (pss_cons (ps_set (i := 9) sc__law_reader.nd rfl (.inl rfl) (pe_slice (ksl_list (K := K)) (pe_callO O__law_rows hr (by rfl) pass0 (pa_cons (pv 10) pa_nil)) po_none (po_some (pe_un un_neg pe_int))))
 (pss_cons (ps_set (i := 4) sc__law_reader.nd rfl (.inl rfl) (pe_op op_mod (pe_op op_fdiv (pe_ix (kix_list (K := K)) (pv 5) pe_int (fun _ _ => rfl)) pe_int) (pe_callB (kcb_lenQ (K := K)) (by rfl) T.z_len (by decide +kernel) (pa_cons (pv 9) pa_nil))))
 (pss_cons (ps_for PassesOwn.never rfl (kpi_zip (K := K) (by rfl) T.z_zip (pa_cons (pe_slice (ksl_list (K := K)) (pv 5) (po_some pe_int) po_none) (pa_cons (pe_op op_cat (pe_slice (ksl_list (K := K)) (pv 9) (po_some (pv 4)) po_none) (pe_slice (ksl_list (K := K)) (pv 9) po_none (po_some (pv 4)))) pa_nil))) (pg_tup rfl (pgs_cons (pg_name (i := 7) sc__law_reader.nd rfl (.inl rfl)) (pgs_cons (pg_name (i := 8) sc__law_reader.nd rfl (.inl rfl)) pgs_nil)))
  (pss_one (ps_if (pt_cmpR op_lt (pe_op op_mod (pv 7) pe_int) (pe_op op_add pe_int (pe_op op_mod (pe_op op_fdiv (pe_ix (kix_list (K := K)) (pv 5) pe_int (fun _ _ => rfl)) pe_int) pe_int)) (nomark _))
  (pss_one (ps_dput hu (pv 6) (pv 8) (pe_ix (kix_list (K := K)) (pv 2) (pe_op op_mod (pe_op op_fdiv (pv 7) pe_int) pe_int) (fun _ _ => rfl)) rfl))
  pss_nil)))
 (pss_cons (ps_if (pt_cmpR (op_eq_dict hr.units0) (pv 6) pe_dnewK (nomark _))
  (pss_one (ps_dput hu (pv 6) (pe_ix (kix_list (K := K)) (pv 9) (pv 4) (fun _ _ => rfl)) (pe_ix (kix_list (K := K)) (pv 2) pe_int (fun _ _ => rfl)) rfl))
  pss_nil)
 (pss_one (ps_ret (pv 6))))))))), ?_⟩
  refine q_par (ag_NL (ev__law_digits (ag_L (q_old (ev_var rfl) (by walk_at "fact")) (ag_V (ev_var rfl) (ag_V ev_c (ag_V ev_c ag_nil)))) (by walk_at "side") (by walk_at "side") (by walk_at "side") (by walk_at "side") (by walk_at "side")) (ag_ND ed_new ag_nil)) fun v1 v2 H1 e1 g1 g2 => ?_
  obtain ⟨p, rfl, hp0, hp⟩ := g1
  obtain ⟨d, rfl, hd0, hd⟩ := g2
  unfold reader at k
  have hlen : (digits ns m 17 1000).length = 17 := digits_len _ _ _ _
  generalize digits ns m 17 1000 = ds at *
  have hw := rdW_range (ds := ds) p2 p3
  have hw0 : 0 ≤ rdW ds least := by omega
  have hw4 := hw.2
  have hr := rdRows_len (ds := ds) p2 p3
  have hb := rdBegin_range (ds := ds) p2 p3
  have hb0 := hb.1
  have hb1 := hb.2
  have hpd : p ≠ d := ne_of hp hd (by intro z; cases z)
  refine q_asg (Ev.is (ev_add (ev_var rfl) (ev_mod (ev_ixQ (0 : Int) (q_old (ev_var rfl) (by walk_at "fact")) ev_c (by walk_at "side") (by walk_at "side")) (ev_sub ev_c (ev_var rfl)) (by walk_at "side"))) (show _ = V.int (rdW ds least) from rfl)) fun H2 e2 => ?_
  refine q_asgL (EvL.is (el_slQ (q_new (ev__law_rows (ag_V (ev_var rfl) ag_nil) (by walk_at "side") (by walk_at "side"))) eo_none (eo_some (ev_neg ev_c))) (show _ = Txts (rdRows ds least) from rfl)) fun rr H3 hr0 e3 hrr => ?_
  have hrd : rr ≠ d := ne_new (fresh_back e2 hr0) hd
  have hpos : 0 < ((rdRows ds least).length : Int) := by omega
  refine q_asg (Ev.is (ev_mod (ev_fdiv (ev_ixQ (0 : Int) (q_old (ev_var rfl) (by walk_at "fact")) ev_c (by walk_at "side") (by walk_at "side")) ev_c (by walk_at "cdiv")) (ev_lenQ (q_old (ev_var rfl) (by walk_at "fact"))) (by walk_at "side")) (show _ = V.int (rdBegin ds least) from rfl)) fun H4 e4 => ?_
  have hsum : (cutG (rdRows ds least) (some (rdBegin ds least)) none).length + (cutG (rdRows ds least) none (some (rdBegin ds least))).length ≤ 100000 := by
    rw [cutG_from _ hb0, cutG_to _ hb0, List.length_drop, List.length_take]
    omega
  have hd4 : H4 d = some (.dK []) := e4 _ _ (e3 _ _ (e2 _ _ hd))
  refine q_for (s := [d]) (i_zip (qa_new (el_slQ (q_old (ev_var rfl) (by walk_at "fact")) (eo_some ev_c) eo_none)) (qa_new (el_catH (h_new (el_slQ (q_old (ev_var rfl) (by walk_at "fact")) (eo_some (ev_var rfl)) eo_none)) (h_new (el_slQ (q_old (ev_var rfl) (by walk_at "fact")) eo_none (eo_some (ev_var rfl)))) (by walk_at "side")))) (by intro a ha; rw [List.mem_singleton.mp ha, hd4]; simp) fun H5 e5 => ⟨fun i σ' H' => ∃ x y, σ' = [some (.ref a0), some (.int m), some (.ref a2), some (.int least), some (.int (rdBegin ds least)), some (.ref p), some (.ref d), x, y, some (.ref rr), some (.int (rdW ds least))] ∧
      Xb [d] H5 H' ∧ H' d = some (.dK (DS (((rdZip ds least).take i).foldl (rdStep ds pl) []))) ∧ (((rdZip ds least).take i).foldl (rdStep ds pl) []).length ≤ i,
    ⟨none, none, rfl, Xb.refl _ _, e5 _ _ hd4, Nat.le_refl _⟩, fun i σ' H' ⟨_, _, _, x, _⟩ => x, ?_, ?_⟩
  · rintro i ⟨num, row⟩ σ' H6 H7 hi ⟨x, y, rfl, hx, hq, hl⟩ e7
    have hi : (rdZip ds least)[i]? = some (num, row) := hi
    have hmem := List.mem_of_getElem? hi
    have hilt := (List.getElem?_eq_some_iff.mp hi).1
    have hz17 : (rdZip ds least).length ≤ 17 := by
      have := List.length_zip (l₁ := cutG ds (some 1) none) (l₂ := cutG (rdRows ds least) (some (rdBegin ds least)) none ++ cutG (rdRows ds least) none (some (rdBegin ds least)))
      unfold rdZip
      rw [this, cutG_from _ (by decide), List.length_drop]
      omega
    have stp : ((rdZip ds least).take (i + 1)).foldl (rdStep ds pl) [] = rdStep ds pl (((rdZip ds least).take i).foldl (rdStep ds pl) []) (num, row) := by
      rw [List.take_succ, hi, List.foldl_append]
      rfl
    have a2d : a2 ≠ d := h2.ne hd0
    have hx7 := hx.ex e7
    have hpl7 : SL K H7 a2 (Txts pl) := hx7.l (nin1 a2d) (by walk_at "fact")
    have hds7 : SL K H7 p (Ints ds) := hx7.l (nin1 hpd) (by walk_at "fact")
    refine s_when (et_test (ev_lt (ev_mod (ev_var rfl) ev_c (by walk_at "side")) (ev_add ev_c (ev_mod (ev_fdiv (ev_ixQ (0 : Int) (q_old (ev_var rfl) (by walk_at "fact")) ev_c (by walk_at "side") (by walk_at "side")) ev_c (by walk_at "cdiv")) ev_c (by walk_at "side"))))) (fun hb H8 e8 => ?_) (fun hb H8 e8 => ?_)
    · have h3 := Int.emod_nonneg (num / 5) (show (3 : Int) ≠ 0 by decide)
      have h4 := Int.emod_lt_of_pos (num / 5) (show (0 : Int) < 3 by decide)
      refine s_dput (e8 _ _ (e7 _ _ hq)) (ev_ixQ ([] : Row) (q_old (ev_var rfl) (by walk_at "fact")) (ev_mod (ev_fdiv (ev_var rfl) ev_c (by walk_at "cdiv")) ev_c (by walk_at "side")) (by walk_at "side") (by walk_at "side")) (ev_var rfl) (ev_var rfl) (by omega) fun H9 e9 => ⟨_, _, rfl, ((hx7.ex e8).ex e9).upd (by simp), ?_, ?_⟩
      · rw [upd_same, stp, rdStep_T hb]
      · rw [stp, rdStep_T hb]
        exact Nat.le_trans (put_len _ _ _) (by omega)
    · refine ⟨_, _, rfl, hx7.ex e8, ?_, ?_⟩
      · rw [stp, rdStep_F hb]
        exact e8 _ _ (e7 _ _ hq)
      · rw [stp, rdStep_F hb]
        omega
  · rintro σ' H6 ⟨x, y, rfl, hx, hq, hl⟩
    have hq : H6 d = some (.dK (DS (((rdZip ds least).take (rdZip ds least).length).foldl (rdStep ds pl) []))) := hq
    rw [List.take_length] at hq
    have hl : (((rdZip ds least).take (rdZip ds least).length).foldl (rdStep ds pl) []).length ≤ (rdZip ds least).length := hl
    rw [List.take_length] at hl
    have hz17 : (rdZip ds least).length ≤ 17 := by
      have := List.length_zip (l₁ := cutG ds (some 1) none) (l₂ := cutG (rdRows ds least) (some (rdBegin ds least)) none ++ cutG (rdRows ds least) none (some (rdBegin ds least)))
      unfold rdZip
      rw [this, cutG_from _ (by decide), List.length_drop]
      omega
    have a2d : a2 ≠ d := h2.ne hd0
    have hx' : Xb [d] H1 H6 := Xb.ex0 (((e2.trans e3).trans e4).trans e5) hx
    have hpl6 : SL K H6 a2 (Txts pl) := hx'.l (nin1 a2d) (by walk_at "fact")
    have hrr6 : SL K H6 rr (Txts (rdRows ds least)) := (Xb.ex0 (e4.trans e5) hx).l (nin1 hrd) (slof hrr)
    have eH : Ex H H6 := Ex.xb0 e1 hx' (fun a ha => by rw [List.mem_singleton.mp ha]; exact hd0)
    refine q_when (et_test (ev_eqD (g_Dold (ev_var rfl) (by walk_at "facth")) (g_D ed_newS))) (fun hb H7 e7 => ?_) (fun hb H7 e7 => ?_)
    · refine q_dput (e7 _ _ hq) (ev_ixQ ([] : Row) (q_old (ev_var rfl) (by walk_at "fact")) ev_c (by walk_at "side") (by walk_at "side")) (ev_var rfl) (ev_ixQ ([] : Row) (q_old (ev_var rfl) (by walk_at "fact")) (ev_var rfl) (by walk_at "side") (by walk_at "side")) (by omega) fun H8 e8 => ?_
      refine s_ret (ev_var rfl) fun H9 e9 => k d H9 hd0 (Ex.xb0 eH ((Xb.upd (s := [d]) (p := d) (Ex.xb (e7.trans e8)) (by simp)).ex e9) (fun a ha => by rw [List.mem_singleton.mp ha]; exact hd0)) (e9 _ _ ?_)
      have hb : dEq (rdLoop ds pl least) [] = true := hb
      rw [upd_same]
      unfold rdr
      rw [if_pos hb]
      rfl
    · refine s_ret (ev_var rfl) fun H8 e8 => k d H8 hd0 ((eH.trans e7).trans e8) (e8 _ _ (e7 _ _ ?_))
      rw [hq]
      unfold rdr
      rw [if_neg (by rw [show dEq (rdLoop ds pl least) [] = false from hb]; decide)]
      rfl

def R__law_tape (K : PySem.W.Frag) : List V → Hp → List V → Prop := fun vs H z => ∃ (ns : List Int) (m : Int) (w n : Int), AllP [isL K (Ints ns), isV (.int m), isV (.int w), isV (.int n)] vs H ∧ ((0 ≤ m) ∧ (0 ≤ w) ∧ (w ≤ 4) ∧ (0 ≤ n) ∧ (n ≤ 100) ∧ True) ∧ z = Txts (tapeL ns m w n)
def sp__law_tape (K : PySem.W.Frag) : Sp := spL  4 (R__law_tape K)
theorem ev__law_tape {K : PySem.W.Frag} {σ : L2.St} {H : Hp} {tr : TA} {E : XK} {ns : List Int} {m : Int} {w n : Int} (h : EvAG tr σ H [isL K (Ints ns), isV (.int m), isV (.int w), isV (.int n)]) (p0 : 0 ≤ m) (p1 : 0 ≤ w) (p2 : w ≤ 4) (p3 : 0 ≤ n) (p4 : n ≤ 100) : EvL (tCallO (sp__law_tape K) E tr) σ H (Txts (tapeL ns m w n)) := el_callG h rfl fun vs H1 e hp => ⟨ns, m, w, n, hp, ⟨p0, p1, p2, p3, p4, trivial⟩, rfl⟩

theorem ok__law_tape (T : Txt K mg) : OkF P w K mg base CX0 "_law_tape" 4 (sp__law_tape K) := by
  have O__law_digits : OkF P w K mg base CX0 "_law_digits" 3 (sp__law_digits K) := ok__law_digits T
  have O__law_rows : OkF P w K mg base CX0 "_law_rows" 1 (sp__law_rows K) := ok__law_rows T
  refine OkF.of T.d__law_tape sc__law_tape (fun vs H Q E h => h.1) (fun f cdv A outer s H vs Q E hr h => ?_)
  obtain ⟨-, z, H0, e0, ⟨ns, m, w, n, ⟨v0, r0, rfl, ⟨a0, rfl, q0⟩, ⟨v1, r1, rfl, rfl, ⟨v2, r2, rfl, rfl, ⟨v3, r3, rfl, rfl, rfl⟩⟩⟩⟩, ⟨p0, p1, p2, p3, p4, -⟩, rfl⟩, k⟩ := h
  have h0 := exl e0 q0
  clear q0
  clear e0 H0
  have hu := hu_of hr
  refine ⟨_, (pss_cons (ps_par (i := 7) (j := 6) rfl sc__law_tape.nd rfl rfl (by decide) rfl rfl (pa_cons (pe_callO O__law_rows hr (by rfl) pass0 (pa_cons (pv 2) pa_nil)) (pa_cons (pe_lst pa_nil) pa_nil)) (by rfl))
 (pss_cons (ps_for PassesOwn.never rfl (kpi_list (K := K) (pe_callO O__law_digits hr (by rfl) pass0 (pa_cons (pv 0) (pa_cons (pv 1) (pa_cons (pv 3) (pa_cons pe_int pa_nil)))))) (pg_name (i := 4) sc__law_tape.nd rfl (.inl rfl))
  (pss_cons (ps_set (i := 5) sc__law_tape.nd rfl (.inl rfl) (pe_op op_or (pe_op op_mod (pe_op op_fdiv (pv 4) pe_int) pe_int) (pe_op op_mul (pe_op op_mod (pe_op op_fdiv (pv 4) pe_int) pe_int) pe_int)))
 (pss_one (ps_expr (pe_bm PySem.F.plainAttrs_list PySem.F.slot_list_append PySem.F.type_list_append mt_append (pv 6) (pa_cons (pe_ix (kix_list (K := K)) (pv 7) (pe_op op_mod (pe_op op_and (pe_op op_mod (pv 4) pe_int) (pv 5)) (pe_callB (kcb_lenQ (K := K)) (by rfl) T.z_len (by decide +kernel) (pa_cons (pv 7) pa_nil))) (fun _ _ => rfl)) pa_nil))))))
 (pss_one (ps_ret (pv 6))))), ?_⟩
  have hpos := rowsL_pos w
  refine q_par (ag_NL (ev__law_rows (ag_V (ev_var rfl) ag_nil) (by walk_at "side") (by walk_at "side")) (ag_NL el_nil ag_nil)) fun v1 v2 H1 e1 g1 g2 => ?_
  obtain ⟨rr, rfl, hr0, hrr⟩ := g1
  obtain ⟨p, rfl, hp0, hp⟩ := g2
  have hrp : rr ≠ p := ne_of hrr hp (by
    intro z
    have z := congrArg List.length (HO.lst.inj z)
    have z : (Txts (rowsL w)).length = 0 := z
    unfold Txts at z
    rw [List.length_map] at z
    omega)
  refine q_for (s := [p]) (i_list (qa_new (ev__law_digits (ag_L (q_old (ev_var rfl) (by walk_at "fact")) (ag_V (ev_var rfl) (ag_V (ev_var rfl) (ag_V ev_c ag_nil)))) (by walk_at "side") (by walk_at "side") (by walk_at "side") (by walk_at "side") (by walk_at "side")))) (by intro a ha; rw [List.mem_singleton.mp ha, hp]; simp) fun H2 e2 => ⟨fun i σ' H' => ∃ x y, σ' = [some (.ref a0), some (.int m), some (.int w), some (.int n), x, y, some (.ref p), some (.ref rr)] ∧
      Xb [p] H2 H' ∧ H' p = some (.lst (Txts (((digits ns m n 4096).take i).map (tapeRow w)))),
    ⟨none, none, rfl, Xb.refl _ _, e2 _ _ hp⟩, fun i σ' H' ⟨_, _, _, x, _⟩ => x, ?_, ?_⟩
  · rintro i d σ' H3 H4 hi ⟨x, y, rfl, hx, hq⟩ e4
    have hx4 := hx.ex e4
    have hil := (List.getElem?_eq_some_iff.mp hi).1
    rw [digits_len] at hil
    have hrr4 : SL K H4 rr (Txts (rowsL w)) := hx4.l (nin1 hrp) (by walk_at "fact")
    refine q_asg (ev_or (ev_mod (ev_fdiv (ev_var rfl) ev_c (by walk_at "cdiv")) ev_c (by walk_at "side")) (ev_mul (ev_mod (ev_fdiv (ev_var rfl) ev_c (by walk_at "cdiv")) ev_c (by walk_at "side")) ev_c (by walk_at "cmul"))) fun H5 e5 => ?_
    have hix := Int.emod_nonneg (Builtin.bitAnd (d % 16) (Builtin.bitOr (d / 16 % 16) (d / 256 % 2 * 15))) (show ((rowsL w).length : Int) ≠ 0 by omega)
    have hix2 := Int.emod_lt_of_pos (Builtin.bitAnd (d % 16) (Builtin.bitOr (d / 16 % 16) (d / 256 % 2 * 15))) hpos
    refine s_app (e5 _ _ (e4 _ _ hq)) (ev_var rfl) (ev_ixQ ([] : Row) (q_old (ev_var rfl) (by walk_at "fact")) (ev_mod (ev_and (ev_mod (ev_var rfl) ev_c (by walk_at "side")) (ev_var rfl)) (ev_lenQ (q_old (ev_var rfl) (by walk_at "fact"))) (by walk_at "side")) (by walk_at "side") (by walk_at "side")) (by unfold Txts; simp only [List.length_map, List.length_take, digits_len]; omega) fun H6 e6 => ⟨_, _, rfl, ((hx4.ex e5).ex e6).upd (by simp), ?_⟩
    rw [upd_same, List.take_succ, hi, List.map_append]
    unfold Txts
    rw [List.map_append]
    rfl
  · rintro σ' H3 ⟨x, y, rfl, hx, hq⟩
    have eH : Ex H H3 := Ex.xb0 (e1.trans e2) hx (fun a ha => by rw [List.mem_singleton.mp ha]; exact hp0)
    have hq : H3 p = some (.lst (Txts (((digits ns m n 4096).take (digits ns m n 4096).length).map (tapeRow w)))) := hq
    rw [List.take_length] at hq
    exact s_ret (ev_var rfl) fun H5 e5 => k p H5 hp0 (eH.trans e5) (e5 _ _ hq)

def R__law_text (K : PySem.W.Frag) : List V → Hp → V → Prop := fun vs H z => ∃ (ns : List Int) (m : Int) (pl : List Row) (n : Int), AllP [isL K (Ints ns), isV (.int m), isL K (Txts pl), isV (.int n)] vs H ∧ ((0 ≤ m) ∧ (0 ≤ n) ∧ (n ≤ 30) ∧ (pl.length = 3) ∧ (∀ i, i < 3 → isLet (pl.getD i []) = true) ∧ True) ∧ z = VS (lawTx ns m pl n)
def sp__law_text (K : PySem.W.Frag) : Sp := spV  4 (R__law_text K)
theorem ev__law_text {K : PySem.W.Frag} {σ : L2.St} {H : Hp} {tr : TA} {E : XK} {ns : List Int} {m : Int} {pl : List Row} {n : Int} (h : EvAG tr σ H [isL K (Ints ns), isV (.int m), isL K (Txts pl), isV (.int n)]) (p0 : 0 ≤ m) (p1 : 0 ≤ n) (p2 : n ≤ 30) (p3 : pl.length = 3) (p4 : ∀ i, i < 3 → isLet (pl.getD i []) = true) : Ev (tCallO (sp__law_text K) E tr) σ H (VS (lawTx ns m pl n)) := ev_callG h rfl fun vs H1 e hp => ⟨ns, m, pl, n, hp, ⟨p0, p1, p2, p3, p4, trivial⟩, rfl⟩

theorem ok__law_text (T : Txt K mg) : OkF P w K mg base CX0 "_law_text" 4 (sp__law_text K) := by
  have O__law_digits : OkF P w K mg base CX0 "_law_digits" 3 (sp__law_digits K) := ok__law_digits T
  refine OkF.of T.d__law_text sc__law_text (fun vs H Q E h => h.1) (fun f cdv A outer s H vs Q E hr h => ?_)
  obtain ⟨-, z, H0, e0, ⟨ns, m, pl, n, ⟨v0, r0, rfl, ⟨a0, rfl, q0⟩, ⟨v1, r1, rfl, rfl, ⟨v2, r2, rfl, ⟨a2, rfl, q2⟩, ⟨v3, r3, rfl, rfl, rfl⟩⟩⟩⟩, ⟨p0, p1, p2, p3, p4, -⟩, rfl⟩, k⟩ := h
  have h0 := exl e0 q0
  clear q0
  have h2 := exl e0 q2
  clear q2
  clear e0 H0
  have hu := hu_of hr
  refine ⟨_, (pss_cons (ps_set (i := 4) sc__law_text.nd rfl (.inl rfl) (pe_callO O__law_digits hr (by rfl) pass0 (pa_cons (pv 0) (pa_cons (pv 1) (pa_cons (pv 3) (pa_cons (pe_op op_mul pe_int pe_int) pa_nil))))))
 (pss_cons (ps_set (i := 5) sc__law_text.nd rfl (.inr rfl) pe_str)
 (pss_one (ps_ret (kpe_joinQ (K := K) pe_str (pe_lc (own := [("_law_draw_here", 6)]) (g := gName 6) rfl sc__law_text.nd (kpi_list (K := K) (pv 4)) (blkOk_by (N := N__law_text) (sc := defScope s__law_text) (by decide +kernel)) (fun _ _ _ _ _ => (pg_name (i := 6) sc__law_text.nd rfl (.inl rfl))) (fun _ _ _ _ _ => pts_nil) (fun _ _ _ _ _ => (pe_ifExp (pt_cmpR op_lt (pe_op op_fdiv (pv 6) pe_int) pe_int (nomark _)) (pe_ix (kix_list (K := K)) (pv 2) (pe_op op_mod (pe_op op_fdiv (pv 6) pe_int) pe_int) (fun _ _ => rfl)) (pe_ix ix_str (pv 5) (pe_op op_mod (pv 6) pe_int) (fun _ _ => rfl)))))))))), ?_⟩
  refine q_asgL (ev__law_digits (ag_L (q_old (ev_var rfl) (by walk_at "fact")) (ag_V (ev_var rfl) (ag_V (ev_var rfl) (ag_V (ev_mul ev_c ev_c (by walk_at "cmul")) ag_nil)))) (by walk_at "side") (by walk_at "side") (by walk_at "side") (by walk_at "side") (by walk_at "side")) fun p H1 hp0 e1 hp => ?_
  have hp : SL K H1 p (Ints (digits ns m n 624)) := slof hp
  have hlen : (digits ns m n 624).length ≤ 30 := by rw [digits_len]; omega
  have hz : (lawText (digits ns m n 624) pl).length ≤ 100000 := by rw [lawText_len p4]; omega
  unfold lawText at hz
  have hrng := digits_mem (ns := ns) (k := m) (m := n) (b := 624) (by decide)
  refine q_asg (ev_cS (l := [97, 98, 99, 100, 101, 102, 103, 104, 105, 106, 107, 108, 109, 110, 111, 112, 113, 114, 115, 116, 117, 118, 119, 120, 121, 122]) (by decide +kernel)) fun H2 e2 => ?_
  have hi1 : ∀ d : Int, 0 ≤ d / 26 % 3 := fun d => Int.emod_nonneg _ (by decide)
  have hi2 : ∀ d : Int, d / 26 % 3 < 3 := fun d => Int.emod_lt_of_pos _ (by decide)
  have hi3 : ∀ d : Int, 0 ≤ d % 26 := fun d => Int.emod_nonneg _ (by decide)
  have hi4 : ∀ d : Int, d % 26 < 26 := fun d => Int.emod_lt_of_pos _ (by decide)
  have hi5 : ∀ d : Int, d / 26 % 3 < (pl.length : Int) := fun d => by have := hi2 d; omega
  have hi6 : ∀ d : Int, d % 26 < (([97, 98, 99, 100, 101, 102, 103, 104, 105, 106, 107, 108, 109, 110, 111, 112, 113, 114, 115, 116, 117, 118, 119, 120, 121, 122] : Row).length : Int) := fun d => hi4 d
  exact s_ret2 (Ev.is (ev_joinQ (ev_cS lit_nil) (q_new (el_lc1 (i_list (qa_old (ev_var rfl) (by walk_at "fact") trivial)) (by walk_at "len") (fun _ => wipe_one _ _ _) (fun x6 hx6 H106 e106 => (ev_ifS (et_test (ev_lt (ev_fdiv (ev_var rfl) ev_c (by walk_at "cdiv")) ev_c)) (fun hb7 => (ev_ixQ ([] : Row) (q_old (ev_var rfl) (by walk_at "fact")) (ev_mod (ev_fdiv (ev_var rfl) ev_c (by walk_at "cdiv")) ev_c (by walk_at "side")) (by walk_at "side") (by walk_at "side"))) (fun hb7 => (ev_ixS (ev_var rfl) (ev_mod (ev_var rfl) ev_c (by walk_at "side")) (by walk_at "side") (by walk_at "side") (by walk_at "side"))))))) (by walk_at "len")) rfl) (RetV.ex k (e1.trans e2))

def R__law_means (K : PySem.W.Frag) : List V → Hp → V → Prop := fun vs H z => ∃ (rd : Dic) (r : Row), AllP [isD (DS rd), isV (VS r)] vs H ∧ (True) ∧ z = VS (mean rd r)
def sp__law_means (K : PySem.W.Frag) : Sp := spV  2 (R__law_means K)
theorem ev__law_means {K : PySem.W.Frag} {σ : L2.St} {H : Hp} {tr : TA} {E : XK} {rd : Dic} {r : Row} (h : EvAG tr σ H [isD (DS rd), isV (VS r)])  : Ev (tCallO (sp__law_means K) E tr) σ H (VS (mean rd r)) := ev_callG h rfl fun vs H1 e hp => ⟨rd, r, hp, trivial, rfl⟩

theorem ok__law_means (T : Txt K mg) : OkF P w K mg base CX0 "_law_means" 1 (sp__law_means K) := by
  refine OkF.of T.d__law_means sc__law_means (fun vs H Q E h => h.1) (fun f cdv A outer s H vs Q E hr h => ?_)
  obtain ⟨-, z, H0, e0, ⟨rd, r, ⟨v0, r0, rfl, ⟨a0, rfl, q0⟩, ⟨v1, r1, rfl, rfl, rfl⟩⟩, -, rfl⟩, k⟩ := h
  have h0 := exh e0 q0
  clear q0
  clear e0 H0
  have hu := hu_of hr
  refine ⟨_, (pss_one (ps_ret (pe_ifExp (pt_cmp (pc_din hu (pv 1) (pv 0))) (pe_dget hu (pv 0) (pv 1) (fun _ _ => rfl)) pe_str))), ?_⟩
  refine s_ret2 (Ev.is (ev_ifS (et_B (ev_din (ev_var rfl) (ev_var rfl) (by walk_at "facth"))) (fun hb8 => (ev_dget (ev_var rfl) (by walk_at "facth") (ev_var rfl) (by walk_at "side"))) (fun hb8 => (ev_cS lit_nil))) ?_) k
  unfold mean
  cases look rd r <;> rfl

def R__law_over (K : PySem.W.Frag) : List V → Hp → V → Prop := fun vs H z => ∃ (r o : Row) (w : Nat), AllP [isV (VS r), isV (VS o)] vs H ∧ ((isRow r (w : Int) = true) ∧ (isRow o (w : Int) = true) ∧ (w ≤ 4) ∧ True) ∧ z = .bl (goes r o)
def sp__law_over (K : PySem.W.Frag) : Sp := spV  2 (R__law_over K)
theorem ev__law_over {K : PySem.W.Frag} {σ : L2.St} {H : Hp} {tr : TA} {E : XK} {r o : Row} {w : Nat} (h : EvAG tr σ H [isV (VS r), isV (VS o)]) (p0 : isRow r (w : Int) = true) (p1 : isRow o (w : Int) = true) (p2 : w ≤ 4) : Ev (tCallO (sp__law_over K) E tr) σ H (.bl (goes r o)) := ev_callG h rfl fun vs H1 e hp => ⟨r, o, w, hp, ⟨p0, p1, p2, trivial⟩, rfl⟩

theorem ok__law_over (T : Txt K mg) : OkF P w K mg base CX0 "_law_over" 1 (sp__law_over K) := by
  refine OkF.of T.d__law_over sc__law_over (fun vs H Q E h => h.1) (fun f cdv A outer s H vs Q E hr h => ?_)
  obtain ⟨-, z, H0, e0, ⟨r, o, w, ⟨v0, r0, rfl, rfl, ⟨v1, r1, rfl, rfl, rfl⟩⟩, ⟨p0, p1, p2, -⟩, rfl⟩, k⟩ := h
  clear e0 H0
  have hu := hu_of hr
  refine ⟨_, (pss_one (ps_ret (pe_and (pe_cmpR op_eq (pe_callB cb_lenS (by rfl) T.z_len (by decide +kernel) (pa_cons (pv 0) pa_nil)) (pe_callB cb_lenS (by rfl) T.z_len (by decide +kernel) (pa_cons (pv 1) pa_nil)) (nomark _)) (pe_one (pe_callB (kcr_all (K := K) rfl) (by rfl) T.z_all (by decide +kernel) (pa_cons (pe_lc (own := [("_law_one", 2), ("_law_new", 3)]) (g := gTup K 2 (gCons (gName 2) (gCons (gName 3) gNil))) rfl sc__law_over.nd (pi_zipSS (by rfl) T.z_zip (pa_cons (pv 0) (pa_cons (pv 1) pa_nil))) (blkOk_by (N := N__law_over) (sc := defScope s__law_over) (by decide +kernel)) (fun _ _ _ _ _ => (pg_tup rfl (pgs_cons (pg_name (i := 2) sc__law_over.nd rfl (.inl rfl)) (pgs_cons (pg_name (i := 3) sc__law_over.nd rfl (.inl rfl)) pgs_nil)))) (fun _ _ _ _ _ => pts_nil) (fun _ _ _ _ _ => (pe_or (pe_cmpR op_eq (pv 2) pe_str (nomark _)) (pe_one (pe_cmpR op_eq (pv 3) pe_str (nomark _)))))) pa_nil)))))), ?_⟩
  have h1 := isRow_len p0
  have h2 := isRow_len p1
  exact s_ret2 (Ev.is (ev_andV (ev_eqI (ev_lenS (ev_var rfl) (by walk_at "side")) (ev_lenS (ev_var rfl) (by walk_at "side"))) (fun hb11 => (ev_allQ (q_new (el_lc1 (i_zipSS (ev_var rfl) (ev_var rfl)) (by walk_at "len") (fun _ => wipe_two _ (by decide) _ _) (fun x9 hx9 H109 e109 => (ev_orV (ev_eqS (ev_var rfl) (ev_cS lit_dot)) (fun hb10 => (ev_eqS (ev_var rfl) (ev_cS lit_o)))))))))) (by rw [← goes_alt p0 p1])) k

def R__law_letters_above (K : PySem.W.Frag) : List V → Hp → List (Row × Row) → Prop := fun vs H z => ∃ (rd : Dic) (w : Nat) (r : Row), AllP [isD (DS rd), isV (VS r)] vs H ∧ ((isRow r (w : Int) = true) ∧ (w ≤ 4) ∧ True) ∧ z = lettersA rd r
def sp__law_letters_above (K : PySem.W.Frag) : Sp := spA (nT K tS2) 2 (R__law_letters_above K)
theorem ev__law_letters_above {K : PySem.W.Frag} {σ : L2.St} {H : Hp} {tr : TA} {E : XK} {rd : Dic} {w : Nat} {r : Row} (h : EvAG tr σ H [isD (DS rd), isV (VS r)]) (p0 : isRow r (w : Int) = true) (p1 : w ≤ 4) : EvNA (tCallO (sp__law_letters_above K) E tr) σ H (nT K tS2) (lettersA rd r) := en_callG anti_nT h rfl fun vs H1 e hp => ⟨rd, w, r, hp, ⟨p0, p1, trivial⟩, rfl⟩

theorem ok__law_letters_above (T : Txt K mg) : OkF P w K mg base CX0 "_law_letters_above" 2 (sp__law_letters_above K) := by
  have O__law_means : OkF P w K mg base CX0 "_law_means" 1 (sp__law_means K) := ok__law_means T
  have O__law_rows : OkF P w K mg base CX0 "_law_rows" 1 (sp__law_rows K) := ok__law_rows T
  have O__law_over : OkF P w K mg base CX0 "_law_over" 1 (sp__law_over K) := ok__law_over T
  refine OkF.of T.d__law_letters_above sc__law_letters_above (fun vs H Q E h => h.1) (fun f cdv A outer s H vs Q E hr h => ?_)
  obtain ⟨-, z, H0, e0, ⟨rd, w, r, ⟨v0, r0, rfl, ⟨a0, rfl, q0⟩, ⟨v1, r1, rfl, rfl, rfl⟩⟩, ⟨p0, p1, -⟩, rfl⟩, k⟩ := h
  have h0 := exh e0 q0
  clear q0
  clear e0 H0
  have hu := hu_of hr
  refine ⟨_, (pss_one (ps_ret (pe_lc (own := [("_law_other", 2)]) (g := gName 2) rfl sc__law_letters_above.nd (kpi_list (K := K) (pe_callO O__law_rows hr (by rfl) pass0 (pa_cons (pe_callB cb_lenS (by rfl) T.z_len (by decide +kernel) (pa_cons (pv 1) pa_nil)) pa_nil))) (blkOk_by (N := N__law_letters_above) (sc := defScope s__law_letters_above) (by decide +kernel)) (fun _ _ _ _ _ => (pg_name (i := 2) sc__law_letters_above.nd rfl (.inl rfl))) (fun _ _ _ _ _ => (pts_one (pt_val (pe_callO O__law_over hr (by rfl) pass0 (pa_cons (pv 1) (pa_cons (pv 2) pa_nil)))))) (fun _ _ _ _ _ => (pe_tup (pa_cons (pv 2) (pa_cons (pe_callO O__law_means hr (by rfl) pass0 (pa_cons (pv 0) (pa_cons (pv 2) pa_nil))) pa_nil))))))), ?_⟩
  have hrl := isRow_len p0
  have hrl4 := rowsL_le (w := (r.length : Int)) (by omega)
  have hz : ∀ o ∈ rowsL (r.length : Int), isRow o (w : Int) = true := by rw [hrl]; exact rowsL_row w
  exact s_retA (EvNA.is (en_lcU (fun o => (o, mean rd o)) (i_list (qa_new (ev__law_rows (ag_V (ev_lenS (ev_var rfl) (by walk_at "side")) ag_nil) (by walk_at "side") (by walk_at "side")))) (by walk_at "len") (fun _ => wipe_one _ _ _) (fun x12 hx12 H112 e112 => (et_B (ev__law_over (ag_V (ev_var rfl) (ag_V (ev_var rfl) ag_nil)) (by walk_at "side") (by walk_at "side") (by walk_at "side")))) (fun x12 hx12 hy12 H112 e112 => (eu_tup (ea_cons (ev_var rfl) (ea_cons (ev__law_means (ag_D (g_Dold (ev_var rfl) (by walk_at "facth")) (ag_V (ev_var rfl) ag_nil))) ea_nil)) (by simp)))) rfl) k

def R__law_reads (K : PySem.W.Frag) : List V → Hp → V → Prop := fun vs H z => ∃ (rd : Dic) (w : Nat) (t : List Row), AllP [isD (DS rd), isL K (Txts t)] vs H ∧ ((RdOk rd w) ∧ (t.length ≤ 30) ∧ True) ∧ z = VS (textOf rd t)
def sp__law_reads (K : PySem.W.Frag) : Sp := spV  2 (R__law_reads K)
theorem ev__law_reads {K : PySem.W.Frag} {σ : L2.St} {H : Hp} {tr : TA} {E : XK} {rd : Dic} {w : Nat} {t : List Row} (h : EvAG tr σ H [isD (DS rd), isL K (Txts t)]) (p0 : RdOk rd w) (p1 : t.length ≤ 30) : Ev (tCallO (sp__law_reads K) E tr) σ H (VS (textOf rd t)) := ev_callG h rfl fun vs H1 e hp => ⟨rd, w, t, hp, ⟨p0, p1, trivial⟩, rfl⟩

theorem ok__law_reads (T : Txt K mg) : OkF P w K mg base CX0 "_law_reads" 2 (sp__law_reads K) := by
  have O__law_means : OkF P w K mg base CX0 "_law_means" 1 (sp__law_means K) := ok__law_means T
  refine OkF.of T.d__law_reads sc__law_reads (fun vs H Q E h => h.1) (fun f cdv A outer s H vs Q E hr h => ?_)
  obtain ⟨-, z, H0, e0, ⟨rd, w, t, ⟨v0, r0, rfl, ⟨a0, rfl, q0⟩, ⟨v1, r1, rfl, ⟨a1, rfl, q1⟩, rfl⟩⟩, ⟨p0, p1, -⟩, rfl⟩, k⟩ := h
  have h0 := exh e0 q0
  clear q0
  have h1 := exl e0 q1
  clear q1
  clear e0 H0
  have hu := hu_of hr
  refine ⟨_, (pss_one (ps_ret (kpe_joinQ (K := K) pe_str (pe_lc (own := [("_law_row", 2)]) (g := gName 2) rfl sc__law_reads.nd (kpi_list (K := K) (pv 1)) (blkOk_by (N := N__law_reads) (sc := defScope s__law_reads) (by decide +kernel)) (fun _ _ _ _ _ => (pg_name (i := 2) sc__law_reads.nd rfl (.inl rfl))) (fun _ _ _ _ _ => pts_nil) (fun _ _ _ _ _ => (pe_callO O__law_means hr (by rfl) pass0 (pa_cons (pv 0) (pa_cons (pv 2) pa_nil)))))))), ?_⟩
  have hz : (t.map (mean rd)).flatten.length ≤ 100000 := by have := textOf_len p0 t; omega
  exact s_ret2 (Ev.is (ev_joinQ (ev_cS lit_nil) (q_new (el_lc1 (i_list (qa_old (ev_var rfl) (by walk_at "fact") trivial)) (by walk_at "len") (fun _ => wipe_one _ _ _) (fun x13 hx13 H113 e113 => (ev__law_means (ag_D (g_Dold (ev_var rfl) (by walk_at "facth")) (ag_V (ev_var rfl) ag_nil)))))) (by walk_at "len")) rfl) k

def R__law_every (K : PySem.W.Frag) : List V → Hp → List (List Row) → Prop := fun vs H z => ∃ (rd : Dic) (w : Nat) (t : List Row) (x : Row), AllP [isD (DS rd), isL K (Txts t), isV (VS x)] vs H ∧ ((RdOk rd w) ∧ (TpOk t w) ∧ (x.length ≤ 30) ∧ (∀ i, ((t.take i).foldl (extA rd x) [[]]).length ≤ 1000) ∧ (∀ i, ∀ p ∈ (t.take i).foldl (extA rd x) [[]], p.length ≤ 30) ∧ True) ∧ z = every rd t x
def sp__law_every (K : PySem.W.Frag) : Sp := spA (nL K Txts) 3 (R__law_every K)
theorem ev__law_every {K : PySem.W.Frag} {σ : L2.St} {H : Hp} {tr : TA} {E : XK} {rd : Dic} {w : Nat} {t : List Row} {x : Row} (h : EvAG tr σ H [isD (DS rd), isL K (Txts t), isV (VS x)]) (p0 : RdOk rd w) (p1 : TpOk t w) (p2 : x.length ≤ 30) (p3 : ∀ i, ((t.take i).foldl (extA rd x) [[]]).length ≤ 1000) (p4 : ∀ i, ∀ p ∈ (t.take i).foldl (extA rd x) [[]], p.length ≤ 30) : EvNA (tCallO (sp__law_every K) E tr) σ H (nL K Txts) (every rd t x) := en_callG anti_nL h rfl fun vs H1 e hp => ⟨rd, w, t, x, hp, ⟨p0, p1, p2, p3, p4, trivial⟩, rfl⟩

theorem ok__law_every (T : Txt K mg) : OkF P w K mg base CX0 "_law_every" 3 (sp__law_every K) := by
  have O__law_letters_above : OkF P w K mg base CX0 "_law_letters_above" 2 (sp__law_letters_above K) := ok__law_letters_above T
  have O__law_reads : OkF P w K mg base CX0 "_law_reads" 2 (sp__law_reads K) := ok__law_reads T
  refine OkF.of T.d__law_every sc__law_every (fun vs H Q E h => h.1) (fun f cdv A outer s H vs Q E hr h => ?_)
  obtain ⟨-, z, H0, e0, ⟨rd, w, t, x, ⟨v0, r0, rfl, ⟨a0, rfl, q0⟩, ⟨v1, r1, rfl, ⟨a1, rfl, q1⟩, ⟨v2, r2, rfl, rfl, rfl⟩⟩⟩, ⟨p0, p1, p2, p3, p4, -⟩, rfl⟩, k⟩ := h
  have h0 := exh e0 q0
  clear q0
  have h1 := exl e0 q1
  clear q1
  clear e0 H0
  have hu := hu_of hr
  refine ⟨_, (pss_cons (ps_set (i := 3) sc__law_every.nd rfl (.inl rfl) (pe_lst (pa_cons (pe_lst pa_nil) pa_nil)))
 (pss_cons (ps_for PassesOwn.never rfl (kpi_list (K := K) (pv 1)) (pg_name (i := 7) sc__law_every.nd rfl (.inl rfl))
  (pss_cons (ps_set (i := 5) sc__law_every.nd rfl (.inl rfl) (pe_lst pa_nil))
 (pss_cons (ps_for PassesOwn.never rfl (kpi_list (K := K) (pv 3)) (pg_name (i := 8) sc__law_every.nd rfl (.inl rfl))
  (pss_one (ps_for PassesOwn.never rfl (kpi_list (K := K) (pe_callO O__law_letters_above hr (by rfl) pass0 (pa_cons (pv 0) (pa_cons (pv 7) pa_nil)))) (pg_tup rfl (pgs_cons (pg_name (i := 6) sc__law_every.nd rfl (.inl rfl)) (pgs_cons (pg_name (i := 4) sc__law_every.nd rfl (.inl rfl)) pgs_nil)))
  (pss_one (ps_if (pt_val (pe_m1 PySem.F.slot_str_startswith PySem.F.type_str_startswith mt_startswith (pv 2) (pe_op op_addS (pe_callO O__law_reads hr (by rfl) pass0 (pa_cons (pv 0) (pa_cons (pv 8) pa_nil))) (pv 4))))
  (pss_one (ps_expr (pe_bm PySem.F.plainAttrs_list PySem.F.slot_list_append PySem.F.type_list_append mt_append (pv 5) (pa_cons (pe_op op_cat (pv 8) (pe_lst (pa_cons (pv 6) pa_nil))) pa_nil))))
  pss_nil)))))
 (pss_one (ps_set (i := 3) sc__law_every.nd rfl (.inl rfl) (pv 5))))))
 (pss_one (ps_ret (pe_lc (own := [("_law_some", 8)]) (g := gName 8) rfl sc__law_every.nd (kpi_list (K := K) (pv 3)) (blkOk_by (N := N__law_every) (sc := defScope s__law_every) (by decide +kernel)) (fun _ _ _ _ _ => (pg_name (i := 8) sc__law_every.nd rfl (.inl rfl))) (fun _ _ _ _ _ => (pts_one (pt_cmpR op_eq (pe_callO O__law_reads hr (by rfl) pass0 (pa_cons (pv 0) (pa_cons (pv 8) pa_nil))) (pv 2) (nomark _)))) (fun _ _ _ _ _ => (pv 8))))))), ?_⟩
  have hw := p0.w4
  have htl := p1.len
  refine q_asgA (N := nL K Txts) (ys := [[]]) (en_one el_nil) fun p vs H1 hp0 e1 hp hvs => ?_
  obtain ⟨ps0, rfl, hps0, hpf0⟩ := allP_pairs hvs
  refine q_for (s := []) (i_list (qa_old (ev_var rfl) (by walk_at "fact") (by walk_at "adm"))) (by simp) fun H2 e2 => ⟨fun i σ' H' => ∃ (l : Addr) (ps : List (Addr × List Row)) (y4 y5 y6 y7 y8 : Option V), σ' = [some (.ref a0), some (.ref a1), some (VS x), some (.ref l), y4, y5, y6, y7, y8] ∧ Ex H2 H' ∧ H' l = some (.lst (ps.map gR)) ∧
      (t.take i).foldl (extA rd x) [[]] = ps.map (·.2) ∧ ∀ q ∈ ps, H' q.1 = some (.lst (Txts q.2)) ∧ H q.1 = none,
    ⟨p, ps0, none, none, none, none, none, rfl, Ex.refl _, e2 _ _ hp, hps0, fun q hq => ⟨e2 _ _ (hpf0 q hq).1, (hpf0 q hq).2⟩⟩, fun i σ' H' ⟨_, _, _, _, _, _, _, _, x, _⟩ => Ex.xb x, ?_, ?_⟩
  · rintro i r σ' H3 H4 hi ⟨l, ps, y4, y5, y6, y7, y8, rfl, hx, hl, hF, hpf⟩ e4
    have hr := p1.row r (List.mem_of_getElem? hi)
    have hr4 : r.length ≤ 4 := by have := isRow_len hr; omega
    have hF1 := p3 i
    have hF2 := p3 (i + 1)
    have hFl := p4 i
    rw [foldl_at rd x hi, hF] at hF2
    rw [hF] at hF1 hFl
    rw [List.length_map] at hF1
    have e04 := (e1.trans e2).trans (hx.trans e4)
    have hD4 : H4 a0 = some (.dK (DS rd)) := exh e04 h0
    have hl4 := e4 _ _ hl
    have hpf4 : ∀ q ∈ ps, H4 q.1 = some (.lst (Txts q.2)) := fun q hq => e4 _ _ (hpf q hq).1
    refine q_asgL el_nil fun lg H5 hlg0 e5 hlg => ?_
    have hllg : l ≠ lg := ne_of_none hl4 hlg0
    have hl5 : SL K H5 l (ps.map gR) := slof (e5 _ _ hl4)
    refine q_for (s := [lg]) (i_list (qa_old (ev_var rfl) (by walk_at "fact") (by walk_at "adm"))) (by intro a ha; rw [List.mem_singleton.mp ha, hlg]; simp) fun H6 e6 => ⟨fun j σ' H' => ∃ (ps2 : List (Addr × List Row)) (y4 y6 y8 : Option V), σ' = [some (.ref a0), some (.ref a1), some (VS x), some (.ref l), y4, some (.ref lg), y6, some (VS r), y8] ∧ Xb [lg] H6 H' ∧ H' lg = some (.lst (ps2.map gR)) ∧
        ps2.map (·.2) = extA rd x ((ps.take j).map (·.2)) r ∧ ∀ q ∈ ps2, H' q.1 = some (.lst (Txts q.2)) ∧ frx H lg q.1,
      ⟨[], _, _, _, rfl, Xb.refl _ _, e6 _ _ hlg, rfl, fun q hq => (nomatch hq)⟩, fun j σ' H' ⟨_, _, _, _, _, x, _⟩ => x, ?_, ?_⟩
    · rintro j q σ' H7 H8 hj ⟨ps2, y4, y6, y8, rfl, hx7, hq7, hps2, hpf2⟩ e8
      have hqm := List.mem_of_getElem? hj
      have hx8 := hx7.ex e8
      have hxx : Ex H4 H8 := Ex.xb0 (e5.trans e6) hx8 (fun a ha => by rw [List.mem_singleton.mp ha]; exact hlg0)
      have hD8 := exh hxx hD4
      have hq8 : H8 q.1 = some (.lst (Txts q.2)) := exh hxx (hpf4 q hqm)
      have hq8s : SL K H8 q.1 (Txts q.2) := slof hq8
      have hql : q.2.length ≤ 30 := hFl q.2 (List.mem_map.mpr ⟨q, hqm, rfl⟩)
      have htk : extA rd x ((ps.take (j + 1)).map (·.2)) r = extA rd x ((ps.take j).map (·.2)) r ++ ((aboveL r).filter fun o => decide (textOf rd q.2 ++ mean rd o <+: x)).map fun o => q.2 ++ [o] := by
        unfold extA
        rw [List.take_succ, hj, List.map_append, List.flatMap_append]
        simp
      have hsz : (extA rd x ((ps.take (j + 1)).map (·.2)) r).length ≤ 1000 := by
        refine Nat.le_trans ?_ hF2
        conv => rhs; rw [← List.take_append_drop (j + 1) ps]
        unfold extA
        rw [List.map_append, List.flatMap_append, List.length_append]
        exact Nat.le_add_right _ _
      rw [htk, List.length_append, ← hps2, List.length_map, List.length_map] at hsz
      have htx : (textOf rd q.2).length ≤ 30 := Nat.le_trans (textOf_len p0 _) hql
      refine s_for (s := [lg]) (i_arrT (fun _ => rfl) (ev__law_letters_above (ag_D (g_Dold (ev_var rfl) (by walk_at "facth")) (ag_V (ev_var rfl) ag_nil)) (by walk_at "side") (by walk_at "side"))) (by intro a ha; rw [List.mem_singleton.mp ha, e8 _ _ hq7]; simp) fun H9 e9 => ⟨fun k σ' H' => ∃ (ps3 : List (Addr × List Row)) (y4 y6 : Option V), σ' = [some (.ref a0), some (.ref a1), some (VS x), some (.ref l), y4, some (.ref lg), y6, some (VS r), some (.ref q.1)] ∧ Xb [lg] H9 H' ∧ H' lg = some (.lst (ps3.map gR)) ∧
          ps3.map (·.2) = ps2.map (·.2) ++ (((aboveL r).take k).filter fun o => decide (textOf rd q.2 ++ mean rd o <+: x)).map (fun o => q.2 ++ [o]) ∧ ∀ q ∈ ps3, H' q.1 = some (.lst (Txts q.2)) ∧ frx H lg q.1,
        ⟨ps2, _, _, rfl, Xb.refl _ _, e9 _ _ (e8 _ _ hq7), by simp, fun q hq => ⟨e9 _ _ (e8 _ _ (hpf2 q hq).1), (hpf2 q hq).2⟩⟩, fun k σ' H' ⟨_, _, _, _, x, _⟩ => x, ?_, ?_⟩
      · rintro k ⟨o, lt⟩ σ' H10 H11 hk ⟨ps3, y4, y6, rfl, hx10, hq10, hps3, hpf3⟩ e11
        have hk2 : (aboveL r)[k]? = some o ∧ lt = mean rd o := by
          unfold lettersA at hk
          rw [List.getElem?_map] at hk
          cases h : (aboveL r)[k]? with
          | none => rw [h] at hk; cases hk
          | some o' =>
            rw [h] at hk
            have := Option.some.inj hk
            exact ⟨by rw [← (Prod.mk.inj this).1], by rw [← (Prod.mk.inj this).2, (Prod.mk.inj this).1]⟩
        obtain ⟨hk3, rfl⟩ := hk2
        have hx11 := hx10.ex e11
        have hqlg : q.1 ≠ lg := ne_of_none (hpf4 q hqm) hlg0
        have hqq : H11 q.1 = some (.lst (Txts q.2)) := hx11 _ _ (nin1 hqlg) (exh e9 hq8)
        have hqqs : SL K H11 q.1 (Txts q.2) := slof hqq
        have hD11 : H11 a0 = some (.dK (DS rd)) := hx11 _ _ (nin1 (ne_of_none hD4 hlg0)) (exh e9 hD8)
        have hml := mean_len p0 o
        have hfk : ∀ bb, decide (textOf rd q.2 ++ mean rd o <+: x) = bb → (((aboveL r).take (k + 1)).filter fun o => decide (textOf rd q.2 ++ mean rd o <+: x)) = (((aboveL r).take k).filter fun o => decide (textOf rd q.2 ++ mean rd o <+: x)) ++ (if bb then [o] else []) := by
          intro bb hbb
          rw [List.take_succ, hk3, List.filter_append]
          congr 1
          cases bb <;> simp [hbb] at * <;> simp [hbb]
        have hlen3 : ps3.length ≤ 1000 := by
          have h3 := congrArg List.length hps3
          rw [List.length_append, List.length_map, List.length_map, List.length_map] at h3
          have : (((aboveL r).take k).filter fun o => decide (textOf rd q.2 ++ mean rd o <+: x)).length ≤ ((aboveL r).filter fun o => decide (textOf rd q.2 ++ mean rd o <+: x)).length := by
            conv => rhs; rw [← List.take_append_drop k (aboveL r), List.filter_append, List.length_append]
            exact Nat.le_add_right _ _
          omega
        refine s_when (EvT.is (et_B (ev_startswith (ev_var rfl) (ev_addS (ev__law_reads (ag_D (g_Dold (ev_var rfl) (by walk_at "facth")) (ag_L (q_old (ev_var rfl) (by walk_at "fact")) ag_nil)) (by walk_at "side") (by walk_at "side")) (ev_var rfl) (by walk_at "side")))) rfl) (fun hb H12 e12 => ?_) (fun hb H12 e12 => ?_)
        · refine s_appL (e12 _ _ (e11 _ _ hq10)) (ev_var rfl) (EvL.is (w := Txts (q.2 ++ [o])) (el_catH (h_old (ev_var rfl) (by walk_at "facth")) (h_new (el_lst (emS_cons (ev_var rfl) emS_nil) (by simp))) (by walk_at "side")) rfl) (by rw [List.length_map]; omega) fun nw H13 hnw0 e13 hnw => ⟨ps3 ++ [(nw, q.2 ++ [o])], some (VS (mean rd o)), some (VS o), rfl, ?_, ?_, ?_, ?_⟩
          · exact Xb.upd ((hx11.ex e12).ex e13) (by simp)
          · rw [upd_same, List.map_append]
            rfl
          · rw [hfk true hb, List.map_append, hps3, List.map_append, List.append_assoc]
            rfl
          · intro z hz
            rcases List.mem_append.mp hz with hz | hz
            · have h1 := hpf3 z hz
              exact ⟨(xb_upd (p := lg)) _ _ (nin1 h1.2.2) (e13 _ _ (e12 _ _ (e11 _ _ h1.1))), h1.2⟩
            · rw [List.mem_singleton.mp hz]
              have hn : nw ≠ lg := fun z => by
                rw [z, e12 _ _ (e11 _ _ hq10)] at hnw0
                cases hnw0
              exact ⟨(xb_upd (p := lg)) _ _ (nin1 hn) hnw, fresh_back (e04.trans (hxx.trans (Ex.refl _))) (by
                have h9 : Xb [lg] H8 H12 := Xb.ex0 e9 (hx11.ex e12)
                cases hh : H8 nw with
                | none => rfl
                | some u => rw [h9 _ _ (nin1 hn) hh] at hnw0; cases hnw0), hn⟩
        · refine ⟨ps3, some (VS (mean rd o)), some (VS o), rfl, hx11.ex e12, e12 _ _ (e11 _ _ hq10), ?_, fun z hz => ⟨e12 _ _ (e11 _ _ (hpf3 z hz).1), (hpf3 z hz).2⟩⟩
          rw [hfk false hb, hps3]
          simp
      · rintro σ' H10 ⟨ps3, y4, y6, rfl, hx10, hq10, hps3, hpf3⟩
        have hlen : (lettersA rd r).length = (aboveL r).length := by unfold lettersA; rw [List.length_map]
        rw [hlen, List.take_length] at hps3
        refine ⟨ps3, _, _, _, rfl, hx8.trans (Xb.ex0 e9 hx10), hq10, ?_, hpf3⟩
        rw [hps3, hps2, htk]
    · rintro σ' H7 ⟨ps2, y4, y6, y8, rfl, hx7, hq7, hps2, hpf2⟩
      rw [List.take_length] at hps2
      have hxx : Ex H4 H7 := Ex.xb0 (e5.trans e6) hx7 (fun a ha => by rw [List.mem_singleton.mp ha]; exact hlg0)
      refine s_asg (ev_var rfl) fun H8 e8 => ⟨lg, ps2, _, _, _, _, _, rfl, ((hx.trans e4).trans hxx).trans e8, e8 _ _ hq7, ?_, fun q hq => ⟨e8 _ _ (hpf2 q hq).1, (hpf2 q hq).2.1⟩⟩
      rw [foldl_at rd x hi, hF, hps2]
  · rintro σ' H3 ⟨l, ps, y4, y5, y6, y7, y8, rfl, hx, hl, hF, hpf⟩
    rw [List.take_length] at hF
    have hF1 := p3 t.length
    have hFl := p4 t.length
    rw [List.take_length, hF] at hF1 hFl
    rw [List.length_map] at hF1
    have e03 := (e1.trans e2).trans hx
    have hD3 : H3 a0 = some (.dK (DS rd)) := exh e03 h0
    have hls : SL K H3 l (ps.map gR) := slof hl
    have hpfs : ∀ q ∈ ps, SL K H3 q.1 (Txts q.2) := fun q hq => slof (hpf q hq).1
    have hpl : ∀ q ∈ ps, q.2.length ≤ 30 := fun q hq => hFl q.2 (List.mem_map.mpr ⟨q, hq, rfl⟩)
    refine s_retL (el_lc (i_list (qa_old (ev_var rfl) (by walk_at "fact") trivial)) (by walk_at "len") (fun _ => wipe_one _ _ _) (fun x14 hx14 H114 e114 => (et_test (ev_eqS (ev__law_reads (ag_D (g_Dold (ev_var rfl) (by walk_at "facth")) (ag_L (q_old (ev_var rfl) (by walk_at "fact")) ag_nil)) (by walk_at "side") (by walk_at "side")) (ev_var rfl)))) (fun x14 hx14 hy14 H114 e114 => (ev_var rfl))) fun q H4 hq0 e4 hq4 => k q _ H4 (fresh_back e03 hq0) (e03.trans e4) hq4 ?_
    have e : every rd t x = (ps.filter fun q => decide (textOf rd q.2 = x)).map (·.2) := by
      unfold every
      rw [hF, List.filter_map]
      rfl
    rw [e]
    exact allP_of fun z hz => ⟨e4 _ _ (hpf z (List.mem_filter.mp hz).1).1, (hpf z (List.mem_filter.mp hz).1).2⟩

def R_is_row (K : PySem.W.Frag) : List V → Hp → V → Prop := fun vs H z => ∃ (r : Row) (w : Int), AllP [isV (VS r), isV (.int w)] vs H ∧ ((r.length ≤ 40000) ∧ True) ∧ z = .bl (isRow r w)
def sp_is_row (K : PySem.W.Frag) : Sp := spV  2 (R_is_row K)
theorem ev_is_row {K : PySem.W.Frag} {σ : L2.St} {H : Hp} {tr : TA} {E : XK} {r : Row} {w : Int} (h : EvAG tr σ H [isV (VS r), isV (.int w)]) (p0 : r.length ≤ 40000) : Ev (tCallO (sp_is_row K) E tr) σ H (.bl (isRow r w)) := ev_callG h rfl fun vs H1 e hp => ⟨r, w, hp, ⟨p0, trivial⟩, rfl⟩

theorem ok_is_row (T : Txt K mg) : OkF P w K mg base CX0 "is_row" 1 (sp_is_row K) := by
  refine OkF.of T.d_is_row sc_is_row (fun vs H Q E h => h.1) (fun f cdv A outer s H vs Q E hr h => ?_)
  obtain ⟨-, z, H0, e0, ⟨r, w, ⟨v0, r0, rfl, rfl, ⟨v1, r1, rfl, rfl, rfl⟩⟩, ⟨p0, -⟩, rfl⟩, k⟩ := h
  clear e0 H0
  have hu := hu_of hr
  refine ⟨_, (pss_one (ps_ret (pe_and (pe_callB (kcall_isi (K := K)) (by rfl) T.z_isinstance (by decide +kernel) (pa_cons (pv 0) (pa_cons (pe_bltn (v := .ty "str") (by rfl) T.z_str (by decide +kernel) rfl) pa_nil))) (pe_and (pe_cmpR op_eq (pe_callB cb_lenS (by rfl) T.z_len (by decide +kernel) (pa_cons (pv 0) pa_nil)) (pv 1) (nomark _)) (pe_one (pe_callB (kcr_all (K := K) rfl) (by rfl) T.z_all (by decide +kernel) (pa_cons (pe_lc (own := [("sign", 2)]) (g := gName 2) rfl sc_is_row.nd (pi_str (pv 0)) (blkOk_by (N := N_is_row) (sc := defScope s_is_row) (by decide +kernel)) (fun _ _ _ _ _ => (pg_name (i := 2) sc_is_row.nd rfl (.inl rfl))) (fun _ _ _ _ _ => pts_nil) (fun _ _ _ _ _ => (pe_cmpR (kop_in (K := K)) (pv 2) (pe_tup (pa_cons (pe_gs (by rfl) T.c_HOLE) (pa_cons (pe_gs (by rfl) T.c_BLANK) pa_nil))) rfl))) pa_nil))))))), ?_⟩
  exact s_ret2 (Ev.is (ev_andV (ev_isiS (b := true) (ev_var rfl) ev_c (by decide +kernel)) (fun hb17 => (ev_andV (ev_eqI (ev_lenS (ev_var rfl) (by walk_at "side")) (ev_var rfl)) (fun hb16 => (ev_allQ (q_new (el_lc1 (i_str (ev_var rfl)) (by walk_at "len") (fun _ => wipe_one _ _ _) (fun x15 hx15 H115 e115 => (ev_inTS (l := [[111], [46]]) (ev_var rfl) (eu_tup (ea_cons ev_c (ea_cons ev_c ea_nil)) (by simp))))))))))) rfl) k

def R_check_tape (K : PySem.W.Frag) : List V → Hp → V → Prop := fun vs H z => ∃ (w : Nat) (t : List Row), AllP [isV (.int (w : Int)), isL K (Txts t)] vs H ∧ ((TpOk t w) ∧ (w ≤ 4) ∧ True) ∧ z = .non
def sp_check_tape (K : PySem.W.Frag) : Sp := spV  2 (R_check_tape K)
theorem ev_check_tape {K : PySem.W.Frag} {σ : L2.St} {H : Hp} {tr : TA} {E : XK} {w : Nat} {t : List Row} (h : EvAG tr σ H [isV (.int (w : Int)), isL K (Txts t)]) (p0 : TpOk t w) (p1 : w ≤ 4) : Ev (tCallO (sp_check_tape K) E tr) σ H (.non) := ev_callG h rfl fun vs H1 e hp => ⟨w, t, hp, ⟨p0, p1, trivial⟩, rfl⟩

theorem ok_check_tape (T : Txt K mg) : OkF P w K mg base CX0 "check_tape" 2 (sp_check_tape K) := by
  have O_is_row : OkF P w K mg base CX0 "is_row" 1 (sp_is_row K) := ok_is_row T
  refine OkF.of T.d_check_tape sc_check_tape (fun vs H Q E h => h.1) (fun f cdv A outer s H vs Q E hr h => ?_)
  obtain ⟨-, z, H0, e0, ⟨w, t, ⟨v0, r0, rfl, rfl, ⟨v1, r1, rfl, ⟨a1, rfl, q1⟩, rfl⟩⟩, ⟨p0, p1, -⟩, rfl⟩, k⟩ := h
  have h1 := exl e0 q1
  clear q1
  clear e0 H0
  have hu := hu_of hr
  refine ⟨_, (pss_cons (ps_if (pt_not (pt_val (pe_callB (kcall_isi (K := K)) (by rfl) T.z_isinstance (by decide +kernel) (pa_cons (pv 1) (pa_cons (pe_bltn (v := .ty "list") (by rfl) T.z_list (by decide +kernel) rfl) pa_nil)))))
  (pss_one ps_never)
  pss_nil)
 (pss_one (ps_for PassesOwn.never rfl (kpi_enum (K := K) (by rfl) T.z_enumerate (pa_cons (pv 1) pa_nil)) (pg_tup rfl (pgs_cons (pg_name (i := 2) sc_check_tape.nd rfl (.inl rfl)) (pgs_cons (pg_name (i := 3) sc_check_tape.nd rfl (.inl rfl)) pgs_nil)))
  (pss_one (ps_if (PW.pt (pw_or (pt_cmpR op_eq (pv 2) (pe_gi (by rfl) T.c_MOST) (nomark _)) (pw_or1 (pt_not (pt_val (pe_callO O_is_row hr (by rfl) pass0 (pa_cons (pv 3) (pa_cons (pv 0) pa_nil))))))))
  (pss_one ps_never)
  pss_nil))))), ?_⟩
  refine q_skip (EvT.is (et_not (et_B (ev_isiL (b := true) (q_old (ev_var rfl) (by walk_at "fact")) ev_c (by decide +kernel)))) rfl) fun H1 e1 => ?_
  refine s_for (s := []) (i_enum (qa_old (ev_var rfl) (by walk_at "fact") (by walk_at "adm"))) (by simp) fun H2 e2 => ⟨fun i σ' H' => Ex H2 H' ∧ ∃ x y, σ' = [some (.int (w : Int)), some (.ref a1), x, y], ⟨Ex.refl _, none, none, rfl⟩, fun i σ' H' p => Ex.xb p.1, ?_, fun σ' H' p => k H' ((e1.trans e2).trans p.1)⟩
  rintro i ⟨row, n⟩ σ' H' H3 hi ⟨hx, x, y, rfl⟩ e3
  obtain ⟨rfl, hi⟩ := zipIdx_at hi
  have hn := (List.getElem?_eq_some_iff.mp hi).1
  have hlen := p0.len
  have hr := p0.row row (List.mem_of_getElem? hi)
  have hrl : row.length ≤ 40000 := by have := isRow_len hr; omega
  refine s_skip (EvT.is (et_or (et_test (ev_eqI (ev_var rfl) ev_c)) (fun hb18 => (et_not (et_B (ev_is_row (ag_V (ev_var rfl) (ag_V (ev_var rfl) ag_nil)) (by walk_at "side")))))) ?_) fun H4 e4 => ⟨(hx.trans e3).trans e4, _, _, rfl⟩
  simp only [hr, decide_eq_false (show ¬ ((n : Int) = 30) by omega)]
  rfl

def R_check_text (K : PySem.W.Frag) : List V → Hp → V → Prop := fun vs H z => ∃ (x : Row), AllP [isV (VS x)] vs H ∧ ((TxOk x) ∧ True) ∧ z = .non
def sp_check_text (K : PySem.W.Frag) : Sp := spV  1 (R_check_text K)
theorem ev_check_text {K : PySem.W.Frag} {σ : L2.St} {H : Hp} {tr : TA} {E : XK} {x : Row} (h : EvAG tr σ H [isV (VS x)]) (p0 : TxOk x) : Ev (tCallO (sp_check_text K) E tr) σ H (.non) := ev_callG h rfl fun vs H1 e hp => ⟨x, hp, ⟨p0, trivial⟩, rfl⟩

theorem ok_check_text (T : Txt K mg) : OkF P w K mg base CX0 "check_text" 1 (sp_check_text K) := by
  refine OkF.of T.d_check_text sc_check_text (fun vs H Q E h => h.1) (fun f cdv A outer s H vs Q E hr h => ?_)
  obtain ⟨-, z, H0, e0, ⟨x, ⟨v0, r0, rfl, rfl, rfl⟩, ⟨p0, -⟩, rfl⟩, k⟩ := h
  clear e0 H0
  have hu := hu_of hr
  refine ⟨_, (pss_cons (ps_if (pt_not (pt_val (pe_callB (kcall_isi (K := K)) (by rfl) T.z_isinstance (by decide +kernel) (pa_cons (pv 0) (pa_cons (pe_bltn (v := .ty "str") (by rfl) T.z_str (by decide +kernel) rfl) pa_nil)))))
  (pss_one ps_never)
  pss_nil)
 (pss_one (ps_for PassesOwn.never rfl (pi_enumS (by rfl) T.z_enumerate (pa_cons (pv 0) pa_nil)) (pg_tup rfl (pgs_cons (pg_name (i := 1) sc_check_text.nd rfl (.inl rfl)) (pgs_cons (pg_name (i := 2) sc_check_text.nd rfl (.inl rfl)) pgs_nil)))
  (pss_one (ps_if (PW.pt (pw_or (pt_cmpR op_eq (pv 1) (pe_gi (by rfl) T.c_MOST) (nomark _)) (pw_or1 (pt_cmpR op_ninC (pv 2) (pe_gs (by rfl) T.c_LETTERS) rfl))))
  (pss_one ps_never)
  pss_nil))))), ?_⟩
  refine q_skip (EvT.is (et_not (et_B (ev_isiS (b := true) (ev_var rfl) ev_c (by decide +kernel)))) rfl) fun H1 e1 => ?_
  refine s_for (s := []) (i_enumS (ev_var rfl)) (by simp) fun H2 e2 => ⟨fun i σ' H' => Ex H2 H' ∧ ∃ y z, σ' = [some (VS x), y, z], ⟨Ex.refl _, none, none, rfl⟩, fun i σ' H' p => Ex.xb p.1, ?_, fun σ' H' p => k H' ((e1.trans e2).trans p.1)⟩
  rintro i ⟨c, n⟩ σ' H' H3 hi ⟨hx, y, z, rfl⟩ e3
  obtain ⟨rfl, hi⟩ := zipIdx_at hi
  have hn := (List.getElem?_eq_some_iff.mp hi).1
  have hlen := p0.len
  have hc := p0.lt c (List.mem_of_getElem? hi)
  have hin := letter_in hc.1 hc.2
  refine s_skip (EvT.is (et_or (et_test (ev_eqI (ev_var rfl) ev_c)) (fun hb19 => (et_test (ev_ninC (ev_var rfl) ev_c)))) ?_) fun H4 e4 => ⟨(hx.trans e3).trans e4, _, _, rfl⟩
  simp only [hin, decide_eq_false (show ¬ ((n : Int) = 30) by omega)]
  rfl

def R_is_letter (K : PySem.W.Frag) : List V → Hp → V → Prop := fun vs H z => ∃ (c : Nat), AllP [isV (VS [c])] vs H ∧ (True) ∧ z = .bl (isLet [c])
def sp_is_letter (K : PySem.W.Frag) : Sp := spV  1 (R_is_letter K)
theorem ev_is_letter {K : PySem.W.Frag} {σ : L2.St} {H : Hp} {tr : TA} {E : XK} {c : Nat} (h : EvAG tr σ H [isV (VS [c])])  : Ev (tCallO (sp_is_letter K) E tr) σ H (.bl (isLet [c])) := ev_callG h rfl fun vs H1 e hp => ⟨c, hp, trivial, rfl⟩

theorem ok_is_letter (T : Txt K mg) : OkF P w K mg base CX0 "is_letter" 1 (sp_is_letter K) := by
  refine OkF.of T.d_is_letter sc_is_letter (fun vs H Q E h => h.1) (fun f cdv A outer s H vs Q E hr h => ?_)
  obtain ⟨-, z, H0, e0, ⟨c, ⟨v0, r0, rfl, rfl, rfl⟩, -, rfl⟩, k⟩ := h
  clear e0 H0
  have hu := hu_of hr
  refine ⟨_, (pss_one (ps_ret (pe_and (pe_callB (kcall_isi (K := K)) (by rfl) T.z_isinstance (by decide +kernel) (pa_cons (pv 0) (pa_cons (pe_bltn (v := .ty "str") (by rfl) T.z_str (by decide +kernel) rfl) pa_nil))) (pe_and (pe_cmpR op_eq (pe_callB cb_lenS (by rfl) T.z_len (by decide +kernel) (pa_cons (pv 0) pa_nil)) pe_int (nomark _)) (pe_one (pe_cmpR op_inC (pv 0) (pe_gs (by rfl) T.c_LETTERS) rfl)))))), ?_⟩
  exact s_ret2 (Ev.is (ev_andV (ev_isiS (b := true) (ev_var rfl) ev_c (by decide +kernel)) (fun hb21 => (ev_andV (ev_eqI (ev_lenS (ev_var rfl) (by walk_at "side")) ev_c) (fun hb20 => (ev_inC (ev_var rfl) ev_c))))) rfl) k

def R_width_of (K : PySem.W.Frag) : List V → Hp → V → Prop := fun vs H z => ∃ (rd : Dic) (w : Nat), AllP [isD (DS rd)] vs H ∧ ((RdOk rd w) ∧ True) ∧ z = .int (w : Int)
def sp_width_of (K : PySem.W.Frag) : Sp := spV  1 (R_width_of K)
theorem ev_width_of {K : PySem.W.Frag} {σ : L2.St} {H : Hp} {tr : TA} {E : XK} {rd : Dic} {w : Nat} (h : EvAG tr σ H [isD (DS rd)]) (p0 : RdOk rd w) : Ev (tCallO (sp_width_of K) E tr) σ H (.int (w : Int)) := ev_callG h rfl fun vs H1 e hp => ⟨rd, w, hp, ⟨p0, trivial⟩, rfl⟩

theorem ok_width_of (T : Txt K mg) : OkF P w K mg base CX0 "width_of" 2 (sp_width_of K) := by
  have O_is_row : OkF P w K mg base CX0 "is_row" 1 (sp_is_row K) := ok_is_row T
  have O_is_letter : OkF P w K mg base CX0 "is_letter" 1 (sp_is_letter K) := ok_is_letter T
  refine OkF.of T.d_width_of sc_width_of (fun vs H Q E h => h.1) (fun f cdv A outer s H vs Q E hr h => ?_)
  obtain ⟨-, z, H0, e0, ⟨rd, w, ⟨v0, r0, rfl, ⟨a0, rfl, q0⟩, rfl⟩, ⟨p0, -⟩, rfl⟩, k⟩ := h
  have h0 := exh e0 q0
  clear q0
  clear e0 H0
  have hu := hu_of hr
  refine ⟨_, (pss_cons (ps_if (PW.pt (pw_or (pt_not (pt_val (pe_callB (kcall_isi (K := K)) (by rfl) T.z_isinstance (by decide +kernel) (pa_cons (pv 0) (pa_cons (pe_bltn (v := .ty "dict") (by rfl) T.z_dict (by decide +kernel) rfl) pa_nil))))) (pw_or1 (pt_cmpR (op_eq_dict hr.units0) (pv 0) pe_dnewK (nomark _)))))
  (pss_one ps_never)
  pss_nil)
 (pss_cons (ps_set (i := 1) sc_width_of.nd rfl (.inl rfl) (pe_ix (kix_list (K := K)) (pe_callTy (call_list_dK rfl) (by rfl) T.z_list (by decide +kernel) (pa_cons (pv 0) pa_nil)) pe_int (fun _ _ => rfl)))
 (pss_cons (ps_set (i := 4) sc_width_of.nd rfl (.inl rfl) (pe_ifExp (pt_val (pe_callB (kcall_isi (K := K)) (by rfl) T.z_isinstance (by decide +kernel) (pa_cons (pv 1) (pa_cons (pe_bltn (v := .ty "str") (by rfl) T.z_str (by decide +kernel) rfl) pa_nil)))) (pe_callB cb_lenS (by rfl) T.z_len (by decide +kernel) (pa_cons (pv 1) pa_nil)) pe_int))
 (pss_cons (ps_lock (ps_for PassesOwn.never rfl (pi_items (pv 0)) (pg_tup rfl (pgs_cons (pg_name (i := 3) sc_width_of.nd rfl (.inl rfl)) (pgs_cons (pg_name (i := 2) sc_width_of.nd rfl (.inl rfl)) pgs_nil)))
  (pss_one (ps_if (PW.pt (pw_or (pt_not (pt_chain op_le op_le pe_int (pv 4) (pe_gi (by rfl) T.c_WIDEST))) (pw_or (pt_not (pt_val (pe_callO O_is_row hr (by rfl) pass0 (pa_cons (pv 3) (pa_cons (pv 4) pa_nil))))) (pw_or (pt_cmpR op_ninC (pe_gs (by rfl) T.c_BLANK) (pv 3) rfl) (pw_or1 (pt_not (pt_val (pe_callO O_is_letter hr (by rfl) pass0 (pa_cons (pv 2) pa_nil)))))))))
  (pss_one ps_never)
  pss_nil))))
 (pss_one (ps_ret (pv 4))))))), ?_⟩
  have hl : 0 < rd.length := List.length_pos_iff.mpr p0.ne
  have hne : rd.map (·.1) ≠ [] := by simpa using p0.ne
  obtain ⟨p, rs, erd⟩ : ∃ p rs, rd = p :: rs := by
    cases rd with
    | nil => exact absurd rfl p0.ne
    | cons p rs => exact ⟨p, rs, rfl⟩
  have hp1 : p.1.length = w := rd_len p0 (by rw [erd]; exact List.mem_cons_self)
  have hw4 := p0.w4
  have h1 : ((rd.map (·.1)).getD (0 : Int).toNat []).length = w := by rw [erd]; exact hp1
  have h2 : ((rd.map (·.1)).getD (0 : Int).toNat []).length ≤ 100000 := by omega
  have h3 : (0 : Int) < ((rd.map (·.1)).length : Int) := by rw [List.length_map]; omega
  have hd0 : dEq rd [] = false := by rw [erd]; rfl
  refine q_skip (EvT.is (et_or (et_not (et_B (ev_isiD (b := true) (g_Dold (ev_var rfl) (by walk_at "facth")) ev_c (by decide +kernel)))) (fun hb22 => (et_test (ev_eqD (g_Dold (ev_var rfl) (by walk_at "facth")) (g_D ed_newS))))) (by rw [hd0]; rfl)) fun H1 e1 => ?_
  refine q_asg (ev_ixQ ([] : Row) (q_new (el_keys (g_Dold (ev_var rfl) (by walk_at "facth")))) ev_c (by walk_at "side") (by walk_at "side")) fun H2 e2 => ?_
  refine q_asg (Ev.is (ev_ifI (et_B (ev_isiS (b := true) (ev_var rfl) ev_c (by decide +kernel))) (fun hb23 => (ev_lenS (ev_var rfl) (by walk_at "side"))) (fun hb23 => ev_c)) (by rw [if_pos rfl, h1])) fun H3 e3 => ?_
  refine q_items (r := rd) (d := a0) (Pv := fun i σ' => ∃ x y, σ' = [some (.ref a0), some (VS ((rd.map (·.1)).getD (0 : Int).toNat [])), x, y, some (.int (w : Int))]) (by walk_at "facth") (fun od => ev_var rfl) ⟨none, none, rfl⟩ ?_ fun σ' H' e4 hp => ?_
  · rintro od i ⟨row, letter⟩ σ' H' hi ⟨x, y, rfl⟩ hx
    have hm := List.mem_of_getElem? hi
    obtain ⟨c, ec, hc1, hc2⟩ := isLet_one (p0.lt _ hm)
    have ec : letter = [c] := ec
    subst ec
    have hr := p0.row _ hm
    have hb : 46 ∈ row := p0.bl _ hm
    have hrl : row.length ≤ 40000 := by have := rd_len p0 hm; simp only at this; omega
    refine s_skip (EvT.is (et_or (et_not (et_test (ev_chain ev_c (ev_var rfl) ev_c))) (fun hb26 => (et_or (et_not (et_B (ev_is_row (ag_V (ev_var rfl) (ag_V (ev_var rfl) ag_nil)) (by walk_at "side")))) (fun hb25 => (et_or (et_test (ev_ninC ev_c (ev_var rfl))) (fun hb24 => (et_not (et_B (ev_is_letter (ag_V (ev_var rfl) ag_nil)))))))))) ?_) fun H4 e4 => ⟨hx.trans e4, some (VS [c]), some (VS row), rfl⟩
    have hw1 := p0.w1
    have hlt := p0.lt _ hm
    simp only at hr hlt
    simp only [hr, hlt, hb, decide_eq_true (show (1 : Int) ≤ (w : Int) by omega), decide_eq_true (show (w : Int) ≤ 4 by omega)]
    rfl
  · obtain ⟨x, y, rfl⟩ := hp
    exact s_ret2 (ev_var rfl) (RetV.ex k (by walk_at "exs"))

def R_check_all (K : PySem.W.Frag) : List V → Hp → V → Prop := fun vs H z => ∃ (rd : Dic) (w : Nat) (t : List Row) (x : Row), AllP [isD (DS rd), isL K (Txts t), isV (VS x)] vs H ∧ ((RdOk rd w) ∧ (TpOk t w) ∧ (TxOk x) ∧ True) ∧ z = .non
def sp_check_all (K : PySem.W.Frag) : Sp := spV  3 (R_check_all K)
theorem ev_check_all {K : PySem.W.Frag} {σ : L2.St} {H : Hp} {tr : TA} {E : XK} {rd : Dic} {w : Nat} {t : List Row} {x : Row} (h : EvAG tr σ H [isD (DS rd), isL K (Txts t), isV (VS x)]) (p0 : RdOk rd w) (p1 : TpOk t w) (p2 : TxOk x) : Ev (tCallO (sp_check_all K) E tr) σ H (.non) := ev_callG h rfl fun vs H1 e hp => ⟨rd, w, t, x, hp, ⟨p0, p1, p2, trivial⟩, rfl⟩

theorem ok_check_all (T : Txt K mg) : OkF P w K mg base CX0 "check_all" 3 (sp_check_all K) := by
  have O_check_tape : OkF P w K mg base CX0 "check_tape" 2 (sp_check_tape K) := ok_check_tape T
  have O_check_text : OkF P w K mg base CX0 "check_text" 1 (sp_check_text K) := ok_check_text T
  have O_width_of : OkF P w K mg base CX0 "width_of" 2 (sp_width_of K) := ok_width_of T
  refine OkF.of T.d_check_all sc_check_all (fun vs H Q E h => h.1) (fun f cdv A outer s H vs Q E hr h => ?_)
  obtain ⟨-, z, H0, e0, ⟨rd, w, t, x, ⟨v0, r0, rfl, ⟨a0, rfl, q0⟩, ⟨v1, r1, rfl, ⟨a1, rfl, q1⟩, ⟨v2, r2, rfl, rfl, rfl⟩⟩⟩, ⟨p0, p1, p2, -⟩, rfl⟩, k⟩ := h
  have h0 := exh e0 q0
  clear q0
  have h1 := exl e0 q1
  clear q1
  clear e0 H0
  have hu := hu_of hr
  refine ⟨_, (pss_cons (ps_expr (pe_callO O_check_tape hr (by rfl) pass0 (pa_cons (pe_callO O_width_of hr (by rfl) pass0 (pa_cons (pv 0) pa_nil)) (pa_cons (pv 1) pa_nil))))
 (pss_one (ps_expr (pe_callO O_check_text hr (by rfl) pass0 (pa_cons (pv 2) pa_nil))))), ?_⟩
  have hw := p0.w4
  refine q_drop (ev_check_tape (ag_V (ev_width_of (ag_D (g_Dold (ev_var rfl) (by walk_at "facth")) ag_nil) (by walk_at "side")) (ag_L (q_old (ev_var rfl) (by walk_at "fact")) ag_nil)) (by walk_at "side") (by walk_at "side")) fun H1 e1 => ?_
  exact s_drop (ev_check_text (ag_V (ev_var rfl) ag_nil) (by walk_at "side")) fun H2 e2 => k H2 (e1.trans e2)

def R_meaning (K : PySem.W.Frag) : List V → Hp → V → Prop := fun vs H z => ∃ (rd : Dic) (r : Row), AllP [isD (DS rd), isV (VS r)] vs H ∧ (True) ∧ z = VS (mean rd r)
def sp_meaning (K : PySem.W.Frag) : Sp := spV  2 (R_meaning K)
theorem ev_meaning {K : PySem.W.Frag} {σ : L2.St} {H : Hp} {tr : TA} {E : XK} {rd : Dic} {r : Row} (h : EvAG tr σ H [isD (DS rd), isV (VS r)])  : Ev (tCallO (sp_meaning K) E tr) σ H (VS (mean rd r)) := ev_callG h rfl fun vs H1 e hp => ⟨rd, r, hp, trivial, rfl⟩

theorem ok_meaning (T : Txt K mg) : OkF P w K mg base CX0 "meaning" 1 (sp_meaning K) := by
  refine OkF.of T.d_meaning sc_meaning (fun vs H Q E h => h.1) (fun f cdv A outer s H vs Q E hr h => ?_)
  obtain ⟨-, z, H0, e0, ⟨rd, r, ⟨v0, r0, rfl, ⟨a0, rfl, q0⟩, ⟨v1, r1, rfl, rfl, rfl⟩⟩, -, rfl⟩, k⟩ := h
  have h0 := exh e0 q0
  clear q0
  clear e0 H0
  have hu := hu_of hr
  refine ⟨_, (pss_one (ps_ret (pe_dget2 hu (pv 0) (pv 1) pe_str ⟨rfl, rfl, rfl, rfl⟩))), ?_⟩
  exact s_ret2 (Ev.is (ev_get2 (ev_var rfl) (by walk_at "facth") (ev_var rfl) (ev_cS lit_nil)) rfl) k

def R_rows_of (K : PySem.W.Frag) : List V → Hp → List V → Prop := fun vs H z => ∃ (w : Nat), AllP [isV (.int (w : Int))] vs H ∧ ((w ≤ 4) ∧ True) ∧ z = Txts (rowsL (w : Int))
def sp_rows_of (K : PySem.W.Frag) : Sp := spL  1 (R_rows_of K)
theorem ev_rows_of {K : PySem.W.Frag} {σ : L2.St} {H : Hp} {tr : TA} {E : XK} {w : Nat} (h : EvAG tr σ H [isV (.int (w : Int))]) (p0 : w ≤ 4) : EvL (tCallO (sp_rows_of K) E tr) σ H (Txts (rowsL (w : Int))) := el_callG h rfl fun vs H1 e hp => ⟨w, hp, ⟨p0, trivial⟩, rfl⟩

theorem ok_rows_of (T : Txt K mg) : OkF P w K mg base CX0 "rows_of" 1 (sp_rows_of K) := by
  refine OkF.of T.d_rows_of sc_rows_of (fun vs H Q E h => h.1) (fun f cdv A outer s H vs Q E hr h => ?_)
  obtain ⟨-, z, H0, e0, ⟨w, ⟨v0, r0, rfl, rfl, rfl⟩, ⟨p0, -⟩, rfl⟩, k⟩ := h
  clear e0 H0
  have hu := hu_of hr
  refine ⟨_, (pss_cons (ps_set (i := 1) sc_rows_of.nd rfl (.inl rfl) (pe_lst (pa_cons pe_str pa_nil)))
 (pss_cons (ps_for PassesOwn.never rfl (pi_range1 rfl T.z_range (pa_cons (pv 0) pa_nil)) (pg_name (i := 2) sc_rows_of.nd rfl (.inl rfl))
  (pss_one (ps_set (i := 1) sc_rows_of.nd rfl (.inl rfl) (pe_op op_cat (pe_lc (own := [("row", 3)]) (g := gName 3) rfl sc_rows_of.nd (kpi_list (K := K) (pv 1)) (blkOk_by (N := N_rows_of) (sc := defScope s_rows_of) (by decide +kernel)) (fun _ _ _ _ _ => (pg_name (i := 3) sc_rows_of.nd rfl (.inl rfl))) (fun _ _ _ _ _ => pts_nil) (fun _ _ _ _ _ => (pe_op op_addS (pv 3) (pe_gs (by rfl) T.c_BLANK)))) (pe_lc (own := [("row", 3)]) (g := gName 3) rfl sc_rows_of.nd (kpi_list (K := K) (pv 1)) (blkOk_by (N := N_rows_of) (sc := defScope s_rows_of) (by decide +kernel)) (fun _ _ _ _ _ => (pg_name (i := 3) sc_rows_of.nd rfl (.inl rfl))) (fun _ _ _ _ _ => pts_nil) (fun _ _ _ _ _ => (pe_op op_addS (pv 3) (pe_gs (by rfl) T.c_HOLE))))))))
 (pss_one (ps_ret (pe_callB (kcr_sortedS (K := K)) (by rfl) T.z_sorted (by decide +kernel) (pa_cons (pv 1) pa_nil)))))), ?_⟩
  refine q_asgL (el_lst (emS_cons (ev_cS lit_nil) emS_nil) (by simp)) fun p H1 hp0 e1 hp => ?_
  have hlen : ∀ i, i ≤ 4 → (genL i).length ≤ 16 := genL_len
  refine q_for (s := []) (i_rng1 (ea_cons (ev_var rfl) ea_nil) (by walk_at "rng")) (by simp) fun H2 e2 => ⟨fun i σ' H' => Ex H2 H' ∧ ∃ q y z, σ' = [some (.int (w : Int)), some (.ref q), y, z] ∧ H q = none ∧ H' q = some (.lst (Txts (genL i))),
    ⟨Ex.refl _, p, none, none, rfl, hp0, e2 _ _ hp⟩, fun i σ' H' p => Ex.xb p.1, ?_, ?_⟩
  · rintro i t σ' H3 H4 hi ⟨hx, q, y, z, rfl, hq0, hq⟩ e4
    have hit : i < w := by
      have := (List.getElem?_eq_some_iff.mp hi).1
      rw [List.length_range] at this
      omega
    have hq4 : SL K H4 q (Txts (genL i)) := slof (e4 _ _ hq)
    have hl := hlen i (by omega)
    have hr : ∀ r ∈ genL i, r.length + 1 ≤ 100000 := fun r hr => by rw [genL_row i r hr]; omega
    refine s_asgL (EvL.is (w := Txts (genL (i + 1))) (el_cat2 (h_new (el_lc1 (i_list (qa_old (ev_var rfl) (by walk_at "fact") trivial)) (by walk_at "len") (fun _ => wipe_one _ _ _) (fun x27 hx27 H127 e127 => (ev_addS (ev_var rfl) ev_c (by walk_at "side"))))) (h_new (el_lc1 (i_list (qa_old (ev_var rfl) (by walk_at "fact") trivial)) (by walk_at "len") (fun _ => wipe_one _ _ _) (fun x28 hx28 H128 e128 => (ev_addS (ev_var rfl) ev_c (by walk_at "side"))))) (by walk_at "side")) (by show _ = Txts ((genL i).map (· ++ [46]) ++ (genL i).map (· ++ [111])); unfold Txts; rw [List.map_append, List.map_map, List.map_map]; rfl)) fun q2 H5 hq2 e5 h5 => ⟨(hx.trans e4).trans e5, q2, _, _, rfl, fresh_back (((e1.trans e2).trans hx).trans e4) hq2, h5⟩
  · rintro σ' H3 ⟨hx, q, y, z, rfl, hq0, hq⟩
    have hq : H3 q = some (.lst (Txts (genL (List.range w).length))) := hq
    rw [List.length_range] at hq
    have hq3 : SL K H3 q (Txts (genL w)) := slof hq
    have h64 : (genL w).length < 64 := by have := hlen w p0; omega
    have hpm := rows_perm w p0
    have hrs := rows_rising w p0
    exact s_retL2 (el_sortedS (q_old (ev_var rfl) (by walk_at "fact")) (by walk_at "side") (by walk_at "side") (by walk_at "side")) (RetL.ex k ((e1.trans e2).trans hx))

def R_goes_over (K : PySem.W.Frag) : List V → Hp → V → Prop := fun vs H z => ∃ (r o : Row), AllP [isV (VS r), isV (VS o)] vs H ∧ ((r.length ≤ 40000) ∧ True) ∧ z = .bl (goes r o)
def sp_goes_over (K : PySem.W.Frag) : Sp := spV  2 (R_goes_over K)
theorem ev_goes_over {K : PySem.W.Frag} {σ : L2.St} {H : Hp} {tr : TA} {E : XK} {r o : Row} (h : EvAG tr σ H [isV (VS r), isV (VS o)]) (p0 : r.length ≤ 40000) : Ev (tCallO (sp_goes_over K) E tr) σ H (.bl (goes r o)) := ev_callG h rfl fun vs H1 e hp => ⟨r, o, hp, ⟨p0, trivial⟩, rfl⟩

theorem ok_goes_over (T : Txt K mg) : OkF P w K mg base CX0 "goes_over" 1 (sp_goes_over K) := by
  refine OkF.of T.d_goes_over sc_goes_over (fun vs H Q E h => h.1) (fun f cdv A outer s H vs Q E hr h => ?_)
  obtain ⟨-, z, H0, e0, ⟨r, o, ⟨v0, r0, rfl, rfl, ⟨v1, r1, rfl, rfl, rfl⟩⟩, ⟨p0, -⟩, rfl⟩, k⟩ := h
  clear e0 H0
  have hu := hu_of hr
  refine ⟨_, (pss_one (ps_ret (pe_not (pe_callB (kcr_any (K := K) rfl) (by rfl) T.z_any (by decide +kernel) (pa_cons (pe_lc (own := [("one", 2), ("new", 3)]) (g := gTup K 2 (gCons (gName 2) (gCons (gName 3) gNil))) rfl sc_goes_over.nd (pi_zipSS (by rfl) T.z_zip (pa_cons (pv 0) (pa_cons (pv 1) pa_nil))) (blkOk_by (N := N_goes_over) (sc := defScope s_goes_over) (by decide +kernel)) (fun _ _ _ _ _ => (pg_tup rfl (pgs_cons (pg_name (i := 2) sc_goes_over.nd rfl (.inl rfl)) (pgs_cons (pg_name (i := 3) sc_goes_over.nd rfl (.inl rfl)) pgs_nil)))) (fun _ _ _ _ _ => pts_nil) (fun _ _ _ _ _ => (pe_and (pe_cmpR op_eq (pv 2) (pe_gs (by rfl) T.c_HOLE) (nomark _)) (pe_one (pe_cmpR op_eq (pv 3) (pe_gs (by rfl) T.c_BLANK) (nomark _)))))) pa_nil))))), ?_⟩
  exact s_ret2 (Ev.is (ev_notV (ev_anyQ (q_new (el_lc1 (i_zipSS (ev_var rfl) (ev_var rfl)) (by walk_at "len") (fun _ => wipe_two _ (by decide) _ _) (fun x29 hx29 H129 e129 => (ev_andV (ev_eqS (ev_var rfl) ev_c) (fun hb30 => (ev_eqS (ev_var rfl) ev_c)))))))) rfl) k

def R_above (K : PySem.W.Frag) : List V → Hp → List V → Prop := fun vs H z => ∃ (r : Row), AllP [isV (VS r)] vs H ∧ ((r.length ≤ 4) ∧ True) ∧ z = Txts (aboveL r)
def sp_above (K : PySem.W.Frag) : Sp := spL  1 (R_above K)
theorem ev_above {K : PySem.W.Frag} {σ : L2.St} {H : Hp} {tr : TA} {E : XK} {r : Row} (h : EvAG tr σ H [isV (VS r)]) (p0 : r.length ≤ 4) : EvL (tCallO (sp_above K) E tr) σ H (Txts (aboveL r)) := el_callG h rfl fun vs H1 e hp => ⟨r, hp, ⟨p0, trivial⟩, rfl⟩

theorem ok_above (T : Txt K mg) : OkF P w K mg base CX0 "above" 2 (sp_above K) := by
  have O_rows_of : OkF P w K mg base CX0 "rows_of" 1 (sp_rows_of K) := ok_rows_of T
  have O_goes_over : OkF P w K mg base CX0 "goes_over" 1 (sp_goes_over K) := ok_goes_over T
  refine OkF.of T.d_above sc_above (fun vs H Q E h => h.1) (fun f cdv A outer s H vs Q E hr h => ?_)
  obtain ⟨-, z, H0, e0, ⟨r, ⟨v0, r0, rfl, rfl, rfl⟩, ⟨p0, -⟩, rfl⟩, k⟩ := h
  clear e0 H0
  have hu := hu_of hr
  refine ⟨_, (pss_one (ps_ret (pe_lc (own := [("other", 1)]) (g := gName 1) rfl sc_above.nd (kpi_list (K := K) (pe_callO O_rows_of hr (by rfl) pass0 (pa_cons (pe_callB cb_lenS (by rfl) T.z_len (by decide +kernel) (pa_cons (pv 0) pa_nil)) pa_nil))) (blkOk_by (N := N_above) (sc := defScope s_above) (by decide +kernel)) (fun _ _ _ _ _ => (pg_name (i := 1) sc_above.nd rfl (.inl rfl))) (fun _ _ _ _ _ => (pts_one (pt_val (pe_callO O_goes_over hr (by rfl) pass0 (pa_cons (pv 0) (pa_cons (pv 1) pa_nil)))))) (fun _ _ _ _ _ => (pv 1))))), ?_⟩
  have hl := rowsL_le (w := (r.length : Int)) (by omega)
  exact s_retL2 (EvL.is (el_lc (i_list (qa_new (ev_rows_of (ag_V (ev_lenS (ev_var rfl) (by walk_at "side")) ag_nil) (by walk_at "side")))) (by walk_at "len") (fun _ => wipe_one _ _ _) (fun x31 hx31 H131 e131 => (et_B (ev_goes_over (ag_V (ev_var rfl) (ag_V (ev_var rfl) ag_nil)) (by walk_at "side")))) (fun x31 hx31 hy31 H131 e131 => (ev_var rfl))) rfl) k

def R_ways_of (K : PySem.W.Frag) : List V → Hp → List (List Int) → Prop := fun vs H z => ∃ (rd : Dic) (w : Nat) (t : List Row) (x : Row), AllP [isD (DS rd), isL K (Txts t), isV (VS x)] vs H ∧ ((RdOk rd w) ∧ (TpOk t w) ∧ (x.length ≤ 30) ∧ True) ∧ z = tblL rd t x
def sp_ways_of (K : PySem.W.Frag) : Sp := spA (nL K Ints) 3 (R_ways_of K)
theorem ev_ways_of {K : PySem.W.Frag} {σ : L2.St} {H : Hp} {tr : TA} {E : XK} {rd : Dic} {w : Nat} {t : List Row} {x : Row} (h : EvAG tr σ H [isD (DS rd), isL K (Txts t), isV (VS x)]) (p0 : RdOk rd w) (p1 : TpOk t w) (p2 : x.length ≤ 30) : EvNA (tCallO (sp_ways_of K) E tr) σ H (nL K Ints) (tblL rd t x) := en_callG anti_nL h rfl fun vs H1 e hp => ⟨rd, w, t, x, hp, ⟨p0, p1, p2, trivial⟩, rfl⟩

theorem ok_ways_of (T : Txt K mg) : OkF P w K mg base CX0 "ways_of" 3 (sp_ways_of K) := by
  have O_meaning : OkF P w K mg base CX0 "meaning" 1 (sp_meaning K) := ok_meaning T
  have O_above : OkF P w K mg base CX0 "above" 2 (sp_above K) := ok_above T
  refine OkF.of T.d_ways_of sc_ways_of (fun vs H Q E h => h.1) (fun f cdv A outer s H vs Q E hr h => ?_)
  obtain ⟨-, z, H0, e0, ⟨rd, w, t, x, ⟨v0, r0, rfl, ⟨a0, rfl, q0⟩, ⟨v1, r1, rfl, ⟨a1, rfl, q1⟩, ⟨v2, r2, rfl, rfl, rfl⟩⟩⟩, ⟨p0, p1, p2, -⟩, rfl⟩, k⟩ := h
  have h0 := exh e0 q0
  clear q0
  have h1 := exl e0 q1
  clear q1
  clear e0 H0
  have hu := hu_of hr
  refine ⟨_, (pss_cons (ps_set (i := 3) sc_ways_of.nd rfl (.inl rfl) (pe_lst (pa_cons (pe_op op_cat (pe_op op_rep (pe_lst (pa_cons pe_int pa_nil)) (pe_callB cb_lenS (by rfl) T.z_len (by decide +kernel) (pa_cons (pv 2) pa_nil))) (pe_lst (pa_cons pe_int pa_nil))) pa_nil)))
 (pss_cons (ps_for PassesOwn.never rfl (kpi_list (K := K) (kpe_revL (K := K) (pv 1))) (pg_name (i := 9) sc_ways_of.nd rfl (.inl rfl))
  (pss_cons (ps_par (i := 4) (j := 6) rfl sc_ways_of.nd rfl rfl (by decide) rfl rfl (pa_cons (pe_ix (kix_list (K := K)) (pv 3) (pe_un un_neg pe_int) (fun _ _ => rfl)) (pa_cons (pe_lst pa_nil) pa_nil)) (by rfl))
 (pss_cons (ps_setLc (i := 5) (own := [("other", 10)]) (g := gName 10) rfl sc_ways_of.nd rfl rfl (sw_true rfl rfl rfl (by decide +kernel)) (kpi_list (K := K) (pe_callO O_above hr (by rfl) pass0 (pa_cons (pv 9) pa_nil))) (blkOk_by (N := N_ways_of) (sc := defScope s_ways_of) (by decide +kernel)) (fun _ _ _ _ _ => (pg_name (i := 10) sc_ways_of.nd rfl (.inl rfl))) (fun _ _ _ _ _ => pts_nil) (fun _ _ _ _ _ => (pe_callO O_meaning hr (by rfl) pass0 (pa_cons (pv 0) (pa_cons (pv 10) pa_nil)))))
 (pss_cons (ps_for PassesOwn.never rfl (pi_range1 rfl T.z_range (pa_cons (pe_op op_add (pe_callB cb_lenS (by rfl) T.z_len (by decide +kernel) (pa_cons (pv 2) pa_nil)) pe_int) pa_nil)) (pg_name (i := 7) sc_ways_of.nd rfl (.inl rfl))
  (pss_cons (ps_set (i := 8) sc_ways_of.nd rfl (.inl rfl) (pe_ifExp (pt_cmpR op_lt (pv 7) (pe_callB cb_lenS (by rfl) T.z_len (by decide +kernel) (pa_cons (pv 2) pa_nil)) (nomark _)) (pe_op op_mul (pe_bm PySem.F.plainAttrs_list PySem.F.slot_list_count PySem.F.type_list_count (kmt_lcount (K := K)) (pv 5) (pa_cons (pe_ix ix_str (pv 2) (pv 7) (fun _ _ => rfl)) pa_nil)) (pe_ix (kix_list (K := K)) (pv 4) (pe_op op_add (pv 7) pe_int) (fun _ _ => rfl))) pe_int))
 (pss_one (ps_expr (pe_bm PySem.F.plainAttrs_list PySem.F.slot_list_append PySem.F.type_list_append mt_append (pv 6) (pa_cons (pe_op op_add (pe_op op_mul (pe_bm PySem.F.plainAttrs_list PySem.F.slot_list_count PySem.F.type_list_count (kmt_lcount (K := K)) (pv 5) (pa_cons pe_str pa_nil)) (pe_ix (kix_list (K := K)) (pv 4) (pv 7) (fun _ _ => rfl))) (pv 8)) pa_nil))))))
 (pss_one (ps_expr (pe_bm PySem.F.plainAttrs_list PySem.F.slot_list_append PySem.F.type_list_append mt_append (pv 3) (pa_cons (pv 6) pa_nil))))))))
 (pss_one (ps_ret (kpe_revL (K := K) (pv 3)))))), ?_⟩
  have hw := p0.w4
  have htl := p1.len
  have hfl : ((List.replicate ((x.length : Int)).toNat [(0 : Int)]).flatten).length ≤ 30 := by
    rw [List.length_flatten, List.map_replicate]
    simp
    omega
  have hbase : [(List.replicate ((x.length : Int)).toNat [(0 : Int)]).flatten ++ [1]] = [List.replicate x.length (0 : Int) ++ [1]] := by simp
  refine q_asgA (N := nL K Ints) (EvNA.is (en_one (el_catH (h_new (el_repH (h_new (el_lst (emI_cons ev_c emI_nil) (by simp))) (ev_lenS (ev_var rfl) (by walk_at "side")) (by walk_at "side") (by walk_at "side") (by walk_at "side"))) (h_new (el_lst (emI_cons ev_c emI_nil) (by simp))) (by walk_at "side"))) hbase) fun p vs H1 hp0 e1 hp hvs => ?_
  have hvs := allP_one hp hvs (fun a e z => by
    have z := congrArg List.getLast? z
    rw [e] at z
    simp [Ints] at z)
  rw [← tblT_zero rd t x] at hvs
  have hrev : ∀ r ∈ t.reverse, r ∈ t := fun r h => List.mem_reverse.mp h
  refine q_for (s := [p]) (i_list (qa_new (el_revQ (q_old (ev_var rfl) (by walk_at "fact"))))) (by intro a ha; rw [List.mem_singleton.mp ha, hp]; simp) fun H2 e2 => ⟨fun i σ' H' => ∃ y1 y2 y3 y4 y5 y6 vs, σ' = [some (.ref a0), some (.ref a1), some (VS x), some (.ref p), y1, y2, y3, y4, y5, y6, none] ∧ Xb [p] H2 H' ∧
      H' p = some (.lst vs) ∧ AllP ((tblT rd t x i).map (kL K Ints (frx H p))) vs H' ∧ i ≤ t.length,
    ⟨none, none, none, none, none, none, vs, rfl, Xb.refl _ _, e2 _ _ hp, allP_ex mkL e2 hvs, Nat.zero_le _⟩, fun i σ' H' ⟨_, _, _, _, _, _, _, _, x, _⟩ => x, ?_, ?_⟩
  · rintro i r σ' H3 H4 hi ⟨y1, y2, y3, y4, y5, y6, vs, rfl, hx, hq, ha, hil⟩ e4
    have hil2 := (List.getElem?_eq_some_iff.mp hi).1
    rw [List.length_reverse] at hil2
    have hr : r ∈ t := hrev r (List.mem_of_getElem? hi)
    have hrl := isRow_len (p1.row r hr)
    have hr4 : r.length ≤ 4 := by omega
    have hx4 := hx.ex e4
    have eb := e1.trans e2
    have hD : H4 a0 = some (.dK (DS rd)) := hx4 _ _ (nin1 (ne_of_none h0 hp0)) (eb _ _ h0)
    have h2a : SL K H4 a1 (Txts t) := hx4.l (nin1 (h1.ne hp0)) (exl eb h1)
    have hq4 := e4 _ _ hq
    have ha4 := allP_ex mkL e4 ha
    have hA : AG K H4 p (kL K Ints (oldx H4 p)) (tblT rd t x i) := ⟨vs, slof hq4, allP_imp (fun y u ⟨a, h1, h2, h3⟩ => ⟨a, h1, h2, by rw [h2]; simp, h3.2⟩) ha4⟩
    have hlast := tblT_last rd t x i
    refine q_par (ag_G (mkL _) (eg_ixLastA mkL (g_Aold mkL (ev_var rfl) (by walk_at "facta")) (ev_neg ev_c) (by walk_at "side")) (ag_NL el_nil ag_nil)) fun v1 v2 H5 e5 g1 g2 => ?_
    obtain ⟨l, rfl, hl, hlo, hlp⟩ := g1
    have hl : SL K H5 l (Ints (lineL rd (t.drop (t.length - i)) x)) := slof hl
    obtain ⟨ln, rfl, hln0, hln⟩ := g2
    have hlln : l ≠ ln := fun e => hlo (e ▸ hln0)
    have hpln : p ≠ ln := ne_of_none hq4 hln0
    have hal := aboveL_len hr4
    refine q_asgL (EvL.is (w := Txts ((aboveL r).map (mean rd))) (el_lc1 (i_list (qa_new (ev_above (ag_V (ev_var rfl) ag_nil) (by walk_at "side")))) (by walk_at "len") (fun _ => wipe_one _ _ _) (fun x32 hx32 H132 e132 => (ev_meaning (ag_D (g_Dold (ev_var rfl) (by walk_at "facth")) (ag_V (ev_var rfl) ag_nil))))) (by unfold Txts; rw [List.map_map]; rfl)) fun ls H6 hls0 e6 hls => ?_
    have hcn : ∀ y, (((aboveL r).map (mean rd)).count y : Int) ≤ 16 := fun y => by
      have h1 := List.count_le_length (a := y) (l := (aboveL r).map (mean rd))
      have h2 := aboveL_len hr4
      rw [List.length_map] at h1
      omega
    have hstep := fun (m : Nat) (hm : m ≤ x.length) => line_step p0 r (t.drop (t.length - i)) x hm
    generalize (aboveL r).map (mean rd) = Ls at hls hcn hstep
    have hls : SL K H6 ls (Txts Ls) := slof hls
    have hlsln : ls ≠ ln := (hls.ne (d := ln) · ) |> fun _ => fun e => by rw [e, hln] at hls0; cases hls0
    have hll := lineL_len rd (t.drop (t.length - i)) x
    have hlat := fun (m : Nat) (hm : m ≤ x.length) => lineL_at (rd := rd) (t := t.drop (t.length - i)) hm
    generalize lineL rd (t.drop (t.length - i)) x = ll at hl hll hlat
    have hln6 := e6 _ _ hln
    refine q_for (s := [ln]) (i_rng1 (ea_cons (ev_add (ev_lenS (ev_var rfl) (by walk_at "side")) ev_c) ea_nil) (by walk_at "rng")) (by intro a ha; rw [List.mem_singleton.mp ha, hln6]; simp) fun H7 e7 => ⟨fun m σ' H' => ∃ y z, σ' = [some (.ref a0), some (.ref a1), some (VS x), some (.ref p), some (.ref l), some (.ref ls), some (.ref ln), y, z, some (VS r), none] ∧ Xb [ln] H7 H' ∧
        H' ln = some (.lst (Ints ((List.range m).map fun m => W rd (r :: t.drop (t.length - i)) (x.drop m)))),
      ⟨_, _, rfl, Xb.refl _ _, e7 _ _ hln6⟩, fun i σ' H' ⟨_, _, _, x, _⟩ => x, ?_, ?_⟩
    · rintro m m' σ' H8 H9 hi ⟨y, z, rfl, hx8, hq8⟩ e9
      have hm : m' = m ∧ m ≤ x.length := by
        obtain ⟨h1, h2⟩ := List.getElem?_eq_some_iff.mp hi
        rw [List.length_range] at h1
        rw [List.getElem_range] at h2
        exact ⟨h2.symm, by omega⟩
      obtain ⟨rfl, hml⟩ := hm
      have hx9 := hx8.ex e9
      have hl9 : SL K H9 l (Ints ll) := hx9.l (nin1 hlln) (exl (e6.trans e7) hl)
      have hls9 : SL K H9 ls (Txts Ls) := hx9.l (nin1 hlsln) (exl e7 hls)
      have hc0 := hcn []
      have hc1 := hcn [x.getD (m' : Int).toNat 0]
      have hxl := p2
      refine q_asg (ev_ifI (et_test (ev_lt (ev_var rfl) (ev_lenS (ev_var rfl) (by walk_at "side")))) (fun hb33 => (ev_mul (ev_lcountS (q_old (ev_var rfl) (by walk_at "fact")) (ev_ixS (ev_var rfl) (ev_var rfl) (by walk_at "side") (by walk_at "side") (by walk_at "side"))) (ev_ixQ (0 : Int) (q_old (ev_var rfl) (by walk_at "fact")) (ev_add (ev_var rfl) ev_c) (by walk_at "side") (by walk_at "side")) (by walk_at "cmul"))) (fun hb33 => ev_c)) fun H10 e10 => ?_
      refine s_app (e10 _ _ (e9 _ _ hq8)) (ev_var rfl) (Ev.is (w := .int (W rd (r :: t.drop (t.length - i)) (x.drop m'))) (ev_add (ev_mul (ev_lcountS (q_old (ev_var rfl) (by walk_at "fact")) (ev_cS lit_nil)) (ev_ixQ (0 : Int) (q_old (ev_var rfl) (by walk_at "fact")) (ev_var rfl) (by walk_at "side") (by walk_at "side")) (by walk_at "cmul")) (ev_var rfl)) ?_) (by unfold Ints; simp only [List.length_map, List.length_range]; omega) fun H11 e11 => ⟨_, _, rfl, ((hx9.ex e10).ex e11).upd (by simp), ?_⟩
      · rw [← hstep m' hml, ← hlat m' hml]
        by_cases hc : (m' : Int) < (x.length : Int)
        · rw [decide_eq_true hc, if_pos rfl, if_pos hc, ← hlat (m' + 1) (by omega)]
          rfl
        · rw [decide_eq_false hc, if_neg (by decide), if_neg hc]
          rfl
      · rw [upd_same, List.range_succ, List.map_append]
        unfold Ints
        rw [List.map_append]
        rfl
    · rintro σ' H8 ⟨y, z, rfl, hx8, hq8⟩
      have hX : Xb [ln] H4 H8 := Xb.ex0 ((e5.trans e6).trans e7) hx8
      have eX : Ex H4 H8 := Ex.xb0 (Ex.refl _) hX (fun a ha => by rw [List.mem_singleton.mp ha]; exact hln0)
      have hq8' : H8 p = some (.lst vs) := hX _ _ (nin1 hpln) hq4
      have hle := tblT_len rd t x i
      have hvl := allP_len ha4
      refine s_app hq8' (ev_var rfl) (ev_var rfl) (by omega) fun H9 e9 => ⟨_, _, _, _, _, _, vs ++ [.ref ln], rfl, ?_, upd_same, ?_, hil2⟩
      · exact Xb.upd ((hx4.ex eX).ex e9) (by simp)
      · rw [tblT_succ, drop_rev hi]
        have hX9 : Xb [ln, p] H4 (upd H9 p (.lst (vs ++ [.ref ln]))) := ((hX.mono (by intro a ha; rw [List.mem_singleton.mp ha]; simp)).ex e9).upd (by simp)
        refine allP_snoc ?_ ⟨ln, rfl, ?_, ?_, hpln.symm⟩
        · exact allP_imp (fun y u ⟨a, h1, h2, h3, h4⟩ => ⟨a, h1, hX9 _ _ (nin2 (ne_of_none h2 hln0) h4) h2, h3, h4⟩) ha4
        · refine (xb_upd (p := p)) _ _ (nin1 hpln.symm) (e9 _ _ ?_)
          rw [hq8, List.length_range]
          unfold lineL
          rfl
        · exact fresh_back (Ex.xb0 eb hx4 (fun a ha => by rw [List.mem_singleton.mp ha]; exact hp0)) hln0
  · rintro σ' H3 ⟨y1, y2, y3, y4, y5, y6, vs, rfl, hx, hq, ha, hil⟩
    have hq3 : SL K H3 p (vs.map fun v => v) := by rw [List.map_id']; exact slof hq
    have ha : AllP ((tblT rd t x t.reverse.length).map (kL K Ints (frx H p))) vs H3 := ha
    rw [List.length_reverse] at ha
    have eH : Ex H H3 := Ex.xb0 (e1.trans e2) hx (fun a ha => by rw [List.mem_singleton.mp ha]; exact hp0)
    refine s_retL (el_revQ (q_old (ev_var rfl) (by walk_at "fact"))) fun q H4 hq0 e4 hq4 => k q vs.reverse H4 (fresh_back eH hq0) (eH.trans e4) (by rw [hq4, List.map_id']) ?_
    have := allP_ex mkL e4 (allP_rev ha)
    rw [tblT_rev] at this
    exact allP_imp (fun y u ⟨a, h1, h2, h3⟩ => ⟨a, h1, h2, h3.1⟩) this

def R_is_whole (K : PySem.W.Frag) : List V → Hp → V → Prop := fun vs H z => ∃ (n : Int), AllP [isV (.int n)] vs H ∧ (True) ∧ z = .bl true
def sp_is_whole (K : PySem.W.Frag) : Sp := spV  1 (R_is_whole K)
theorem ev_is_whole {K : PySem.W.Frag} {σ : L2.St} {H : Hp} {tr : TA} {E : XK} {n : Int} (h : EvAG tr σ H [isV (.int n)])  : Ev (tCallO (sp_is_whole K) E tr) σ H (.bl true) := ev_callG h rfl fun vs H1 e hp => ⟨n, hp, trivial, rfl⟩

theorem ok_is_whole (T : Txt K mg) : OkF P w K mg base CX0 "is_whole" 1 (sp_is_whole K) := by
  refine OkF.of T.d_is_whole sc_is_whole (fun vs H Q E h => h.1) (fun f cdv A outer s H vs Q E hr h => ?_)
  obtain ⟨-, z, H0, e0, ⟨n, ⟨v0, r0, rfl, rfl, rfl⟩, -, rfl⟩, k⟩ := h
  clear e0 H0
  have hu := hu_of hr
  refine ⟨_, (pss_one (ps_ret (pe_and (pe_callB (kcall_isi (K := K)) (by rfl) T.z_isinstance (by decide +kernel) (pa_cons (pv 0) (pa_cons (pe_bltn (v := .ty "int") (by rfl) T.z_int (by decide +kernel) rfl) pa_nil))) (pe_one (pe_not (pe_callB (kcall_isi (K := K)) (by rfl) T.z_isinstance (by decide +kernel) (pa_cons (pv 0) (pa_cons (pe_bltn (v := .ty "bool") (by rfl) T.z_bool (by decide +kernel) rfl) pa_nil)))))))), ?_⟩
  exact s_ret2 (Ev.is (ev_andV (ev_isiI (b := true) (ev_var rfl) ev_c (by decide +kernel)) (fun hb34 => (ev_notV (ev_isiI (b := false) (ev_var rfl) ev_c (by decide +kernel))))) rfl) k

def R_way_by (K : PySem.W.Frag) : List V → Hp → List V → Prop := fun vs H z => ∃ (rd : Dic) (w : Nat) (t : List Row) (x : Row) (n : Int), AllP [isD (DS rd), isL K (Txts t), isV (VS x), isV (.int n)] vs H ∧ ((RdOk rd w) ∧ (TpOk t w) ∧ (TxOk x) ∧ (0 ≤ n) ∧ (n < W rd t x) ∧ True) ∧ z = Txts (U rd t x n)
def sp_way_by (K : PySem.W.Frag) : Sp := spL  4 (R_way_by K)
theorem ev_way_by {K : PySem.W.Frag} {σ : L2.St} {H : Hp} {tr : TA} {E : XK} {rd : Dic} {w : Nat} {t : List Row} {x : Row} {n : Int} (h : EvAG tr σ H [isD (DS rd), isL K (Txts t), isV (VS x), isV (.int n)]) (p0 : RdOk rd w) (p1 : TpOk t w) (p2 : TxOk x) (p3 : 0 ≤ n) (p4 : n < W rd t x) : EvL (tCallO (sp_way_by K) E tr) σ H (Txts (U rd t x n)) := el_callG h rfl fun vs H1 e hp => ⟨rd, w, t, x, n, hp, ⟨p0, p1, p2, p3, p4, trivial⟩, rfl⟩

theorem ok_way_by (T : Txt K mg) : OkF P w K mg base CX0 "way_by" 4 (sp_way_by K) := by
  have O_check_all : OkF P w K mg base CX0 "check_all" 3 (sp_check_all K) := ok_check_all T
  have O_ways_of : OkF P w K mg base CX0 "ways_of" 3 (sp_ways_of K) := ok_ways_of T
  have O_above : OkF P w K mg base CX0 "above" 2 (sp_above K) := ok_above T
  have O_is_whole : OkF P w K mg base CX0 "is_whole" 1 (sp_is_whole K) := ok_is_whole T
  have O_meaning : OkF P w K mg base CX0 "meaning" 1 (sp_meaning K) := ok_meaning T
  refine OkF.of T.d_way_by sc_way_by (fun vs H Q E h => h.1) (fun f cdv A outer s H vs Q E hr h => ?_)
  obtain ⟨-, z, H0, e0, ⟨rd, w, t, x, n, ⟨v0, r0, rfl, ⟨a0, rfl, q0⟩, ⟨v1, r1, rfl, ⟨a1, rfl, q1⟩, ⟨v2, r2, rfl, rfl, ⟨v3, r3, rfl, rfl, rfl⟩⟩⟩⟩, ⟨p0, p1, p2, p3, p4, -⟩, rfl⟩, k⟩ := h
  have h0 := exh e0 q0
  clear q0
  have h1 := exl e0 q1
  clear q1
  clear e0 H0
  have hu := hu_of hr
  refine ⟨_, (pss_cons (ps_expr (pe_callO O_check_all hr (by rfl) pass0 (pa_cons (pv 0) (pa_cons (pv 1) (pa_cons (pv 2) pa_nil)))))
 (pss_cons (ps_asg (pe_tup (pa_cons (pe_callO O_ways_of hr (by rfl) pass0 (pa_cons (pv 0) (pa_cons (pv 1) (pa_cons (pv 2) pa_nil)))) (pa_cons (pv 3) (pa_cons pe_int (pa_cons (pe_lst pa_nil) pa_nil))))) (pg_tup rfl (pgs_cons (pg_name (i := 11) sc_way_by.nd rfl (.inl rfl)) (pgs_cons (pg_name (i := 6) sc_way_by.nd rfl (.inl rfl)) (pgs_cons (pg_name (i := 7) sc_way_by.nd rfl (.inl rfl)) (pgs_cons (pg_name (i := 5) sc_way_by.nd rfl (.inl rfl)) pgs_nil))))))
 (pss_cons (ps_if (PW.pt (pw_or (pt_not (pt_val (pe_callO O_is_whole hr (by rfl) pass0 (pa_cons (pv 3) pa_nil)))) (pw_or1 (pt_not (pt_chain op_le op_lt pe_int (pv 3) (pe_ix (kix_list (K := K)) (pe_ix (kix_list (K := K)) (pv 11) pe_int (fun _ _ => rfl)) pe_int (fun _ _ => rfl)))))))
  (pss_one ps_never)
  pss_nil)
 (pss_cons (ps_for PassesOwn.never rfl (kpi_enum (K := K) (by rfl) T.z_enumerate (pa_cons (pv 1) pa_nil)) (pg_tup rfl (pgs_cons (pg_name (i := 4) sc_way_by.nd rfl (.inl rfl)) (pgs_cons (pg_name (i := 9) sc_way_by.nd rfl (.inl rfl)) pgs_nil)))
  (pss_cons (ps_for PassesOwn.never rfl (kpi_list (K := K) (pe_callO O_above hr (by rfl) pass0 (pa_cons (pv 9) pa_nil))) (pg_name (i := 8) sc_way_by.nd rfl (.inl rfl))
  (pss_cons (ps_set (i := 10) sc_way_by.nd rfl (.inl rfl) (pe_callB cb_lenS (by rfl) T.z_len (by decide +kernel) (pa_cons (pe_callO O_meaning hr (by rfl) pass0 (pa_cons (pv 0) (pa_cons (pv 8) pa_nil))) pa_nil)))
 (pss_one (ps_if (PW.pt (pw_or (pt_cmpR op_eq (pv 10) pe_int (nomark _)) (pw_or1 (pt_cmpR op_eq (pe_slice sl_str (pv 2) (po_some (pv 7)) (po_some (pe_op op_add (pv 7) pe_int))) (pe_callO O_meaning hr (by rfl) pass0 (pa_cons (pv 0) (pa_cons (pv 8) pa_nil))) (nomark _)))))
  (pss_cons (ps_if (pt_cmpR op_lt (pv 6) (pe_ix (kix_list (K := K)) (pe_ix (kix_list (K := K)) (pv 11) (pe_op op_add (pv 4) pe_int) (fun _ _ => rfl)) (pe_op op_add (pv 7) (pv 10)) (fun _ _ => rfl)) (nomark _))
  (pss_one ps_break)
  pss_nil)
 (pss_one (ps_aug (i := 6) sc_way_by.nd rfl (.inl rfl) (pe_ix (kix_list (K := K)) (pe_ix (kix_list (K := K)) (pv 11) (pe_op op_add (pv 4) pe_int) (fun _ _ => rfl)) (pe_op op_add (pv 7) (pv 10)) (fun _ _ => rfl)) ip_sub)))
  pss_nil))))
 (pss_cons (ps_expr (pe_bm PySem.F.plainAttrs_list PySem.F.slot_list_append PySem.F.type_list_append mt_append (pv 5) (pa_cons (pv 8) pa_nil)))
 (pss_one (ps_aug (i := 7) sc_way_by.nd rfl (.inl rfl) (pv 10) ip_add)))))
 (pss_one (ps_ret (pv 5))))))), ?_⟩
  have hxl := p2.len
  have htl := p1.len
  have hw := p0.w4
  have hl0 : (0 : Int) < ((tblL rd t x).length : Int) := by rw [tblL_len]; omega
  have h00 : ((tblL rd t x).getD (0 : Int).toNat []) = lineL rd t x := tblL_at (Nat.zero_le _)
  have hl1 : (0 : Int) < (((tblL rd t x).getD (0 : Int).toNat []).length : Int) := by rw [h00, lineL_len]; omega
  have h01 : ((tblL rd t x).getD (0 : Int).toNat []).getD (0 : Int).toNat 0 = W rd t x := by rw [h00]; exact lineL_at (Nat.zero_le _)
  refine q_drop (ev_check_all (ag_D (g_Dold (ev_var rfl) (by walk_at "facth")) (ag_L (q_old (ev_var rfl) (by walk_at "fact")) (ag_V (ev_var rfl) ag_nil))) (by walk_at "side") (by walk_at "side") (by walk_at "side")) fun H1 e1 => ?_
  refine q_par4 (ag_NA (fun _ => mkL) anti_nL (ev_ways_of (ag_D (g_Dold (ev_var rfl) (by walk_at "facth")) (ag_L (q_old (ev_var rfl) (by walk_at "fact")) (ag_V (ev_var rfl) ag_nil))) (by walk_at "side") (by walk_at "side") (by walk_at "side")) (ag_V (ev_var rfl) (ag_V ev_c (ag_NL el_nil ag_nil)))) (mon_NA (fun _ => mkL)) (mon_V _) (mon_V _) mon_NL fun v1 v2 v3 v4 H2 e2 g1 g2 g3 g4 => ?_
  obtain ⟨tb, vs, rfl, htb0, htb, hvs⟩ := g1
  obtain rfl := g2
  obtain rfl := g3
  obtain ⟨p, rfl, hp0, hp⟩ := g4
  have htp : tb ≠ p := ne_of htb hp (by
    intro z
    have z := congrArg List.length (HO.lst.inj z)
    rw [allP_len hvs, tblL_len] at z
    cases z)
  have hA : AG K H2 tb (kL K Ints (· ≠ p)) (tblL rd t x) := ⟨vs, slof htb, allP_impM (fun y hy u ⟨a, h1, h2, _⟩ => ⟨a, h1, h2, fun e => by
    subst e
    obtain ⟨j, _, rfl⟩ := List.mem_map.mp hy
    rw [hp] at h2
    have z := congrArg List.length (HO.lst.inj (Option.some.inj h2))
    unfold Ints at z
    rw [List.length_map, lineL_len] at z
    cases z⟩) hvs⟩
  refine q_skip (EvT.is (et_or (et_not (et_B (ev_is_whole (ag_V (ev_var rfl) ag_nil)))) (fun hb35 => (et_not (et_test (ev_chain ev_c (ev_var rfl) (ev_ixQ (0 : Int) (q_GL (eg_ixA ([] : List Int) mkL (g_Aold mkL (ev_var rfl) (by walk_at "facta")) ev_c (by walk_at "side") (by walk_at "side"))) ev_c (by walk_at "side") (by walk_at "side"))))))) ?_) fun H3 e3 => ?_
  · rw [h01, decide_eq_true p3, decide_eq_true p4]
    rfl
  have hA3 : AG K H3 tb (kL K Ints (· ≠ p)) (tblL rd t x) := hA.ex mkL e3
  have hp3 := e3 _ _ hp
  have hD3 : H3 a0 = some (.dK (DS rd)) := exh ((e1.trans e2).trans e3) h0
  have ht3 : SL K H3 a1 (Txts t) := exl ((e1.trans e2).trans e3) h1
  have a0p : a0 ≠ p := ne_of_none (e1 _ _ h0) hp0
  have a1p : a1 ≠ p := (exl e1 h1).ne hp0
  refine q_for (s := [p]) (i_enum (qa_old (ev_var rfl) (by walk_at "fact") (by walk_at "adm"))) (by intro a ha; rw [List.mem_singleton.mp ha, hp3]; simp) fun H4 e4 => ⟨fun i σ' H' => ∃ y1 y2 y3 y4 n' m pre, σ' = [some (.ref a0), some (.ref a1), some (VS x), some (.int n), y1, some (.ref p), some (.int n'), some (.int m), y2, y3, y4, some (.ref tb)] ∧
      Xb [p] H4 H' ∧ H' p = some (.lst (Txts pre)) ∧ U rd t x n = pre ++ U rd (t.drop i) (x.drop m.toNat) n' ∧ 0 ≤ m ∧ m.toNat ≤ x.length ∧ 0 ≤ n' ∧ n' < W rd (t.drop i) (x.drop m.toNat) ∧ pre.length = i,
    ⟨none, none, none, none, n, 0, [], rfl, Xb.refl _ _, e4 _ _ hp3, rfl, Int.le_refl _, Nat.zero_le _, p3, p4, rfl⟩, fun i σ' H' ⟨_, _, _, _, _, _, _, _, x, _⟩ => x, ?_, ?_⟩
  · rintro i ⟨r, i'⟩ σ' H5 H6 hi ⟨y1, y2, y3, y4, n', m, pre, rfl, hx, hq, hU, hm0, hm1, hn0, hn1, hpre⟩ e6
    obtain ⟨rfl, hi⟩ := zipIdx_at hi
    have hil := (List.getElem?_eq_some_iff.mp hi).1
    have hr := p1.row r (List.mem_of_getElem? hi)
    have hr4 : r.length ≤ 4 := by have := isRow_len hr; omega
    have hdr : t.drop i' = r :: t.drop (i' + 1) := by
      rw [List.drop_eq_getElem_cons hil]
      obtain ⟨_, e⟩ := List.getElem?_eq_some_iff.mp hi
      rw [e]
    rw [hdr] at hU hn1
    rw [W_cons] at hn1
    have hx6 := hx.ex e6
    have hD6 : H6 a0 = some (.dK (DS rd)) := hx6 _ _ (nin1 a0p) (exh e4 hD3)
    have hA6 : AG K H6 tb (kL K Ints (· ≠ p)) (tblL rd t x) := by
      obtain ⟨vs, q1, q2⟩ := hA3.ex mkL e4
      exact ⟨vs, hx6.l (nin1 htp) q1, allx_xb (fun _ h => h) hx6 q2⟩
    have hq6 := e6 _ _ hq
    refine q_forJ (s := []) (fun σ' H' => ∃ o nn, Ex H6 H' ∧ pick (stp rd (t.drop (i' + 1)) (x.drop m.toNat)) (aboveL r) n' = some (o, nn) ∧ 0 ≤ nn ∧ nn < stp rd (t.drop (i' + 1)) (x.drop m.toNat) o ∧
        σ' = [some (.ref a0), some (.ref a1), some (VS x), some (.int n), some (.int (i' : Nat)), some (.ref p), some (.int nn), some (.int m), some (VS o), some (VS r), some (.int ((mean rd o).length : Int)), some (.ref tb)]) (i_list (qa_new (ev_above (ag_V (ev_var rfl) ag_nil) (by walk_at "side")))) (by simp) (fun H7 e7 fin => ?_) ?_
    · refine ⟨fun j σ' H' => ∃ y2 y4 l, Ex H7 H' ∧ σ' = [some (.ref a0), some (.ref a1), some (VS x), some (.int n), some (.int (i' : Nat)), some (.ref p), some (.int l), some (.int m), y2, some (VS r), y4, some (.ref tb)] ∧
          pick (stp rd (t.drop (i' + 1)) (x.drop m.toNat)) (aboveL r) n' = pick (stp rd (t.drop (i' + 1)) (x.drop m.toNat)) ((aboveL r).drop j) l ∧ 0 ≤ l ∧ l < (((aboveL r).drop j).map (stp rd (t.drop (i' + 1)) (x.drop m.toNat))).sum,
        ⟨y2, y4, n', Ex.refl _, rfl, rfl, hn0, hn1⟩, fun j σ' H' ⟨_, _, _, x, _⟩ => Ex.xb x, ?_, ?_⟩
      · rintro j o σ' H8 H9 hj ⟨y2, y4, l, e8, rfl, hpk, hl0', hl1'⟩ e9
        have hjl := (List.getElem?_eq_some_iff.mp hj).1
        have hdj : (aboveL r).drop j = o :: (aboveL r).drop (j + 1) := by
          rw [List.drop_eq_getElem_cons hjl]
          obtain ⟨_, e⟩ := List.getElem?_eq_some_iff.mp hj
          rw [e]
        rw [hdj] at hpk hl1'
        rw [List.map_cons, List.sum_cons] at hl1'
        have e69 := (e7.trans e8).trans e9
        have hD9 := exh e69 hD6
        have hA9 := hA6.ex mkL e69
        have hml := mean_len p0 o
        refine q_asg (ev_lenS (ev_meaning (ag_D (g_Dold (ev_var rfl) (by walk_at "facth")) (ag_V (ev_var rfl) ag_nil))) (by walk_at "side")) fun H10 e10 => ?_
        refine s_when (EvT.is (et_or (et_test (ev_eqI (ev_var rfl) ev_c)) (fun hb36 => (et_test (ev_eqS (ev_slS (ev_var rfl) (eo_some (ev_var rfl)) (eo_some (ev_add (ev_var rfl) ev_c)) (by walk_at "side")) (ev_meaning (ag_D (g_Dold (ev_var rfl) (by walk_at "facth")) (ag_V (ev_var rfl) ag_nil))))))) (fits_eq p0 hm0 o)) (fun hb H11 e11 => ?_) (fun hb H11 e11 => ?_)
        · have hfl := fits_len hb
          rw [List.length_drop] at hfl
          have hti : (i' : Int) + 1 < ((tblL rd t x).length : Int) := by rw [tblL_len]; omega
          have hrl : ((tblL rd t x).getD ((i' : Int) + 1).toNat []).length = x.length + 1 := by rw [tbl_row hil, lineL_len]
          have hat := tbl_at (rd := rd) (t := t) (x := x) (k := (mean rd o).length) hil hm0 (by omega)
          rw [← stp_T hb] at hat
          refine q_when (et_test (ev_lt (ev_var rfl) (ev_ixQ (0 : Int) (q_GL (eg_ixA ([] : List Int) mkL (g_Aold mkL (ev_var rfl) (by walk_at "facta")) (ev_add (ev_var rfl) ev_c) (by walk_at "side") (by walk_at "side"))) (ev_add (ev_var rfl) (ev_var rfl)) (by walk_at "side") (by walk_at "side")))) (fun hc H12 e12 => ?_) (fun hc H12 e12 => ?_)
          · rw [hat] at hc
            have hc := of_decide_eq_true hc
            refine fin _ _ ⟨o, l, ((e69.trans e10).trans e11).trans e12, ?_, hl0', hc, rfl⟩
            rw [hpk]
            unfold pick
            rw [if_pos hc]
          · rw [hat] at hc
            have hc := of_decide_eq_false hc
            refine s_aug rfl (ev_ixQ (0 : Int) (q_GL (eg_ixA ([] : List Int) mkL (g_Aold mkL (ev_var rfl) (by walk_at "facta")) (ev_add (ev_var rfl) ev_c) (by walk_at "side") (by walk_at "side"))) (ev_add (ev_var rfl) (ev_var rfl)) (by walk_at "side") (by walk_at "side")) fun H13 e13 => ⟨_, _, _, (((((e8.trans e9).trans e10).trans e11).trans e12).trans e13), rfl, ?_, ?_, ?_⟩
            · rw [hpk, hat]
              conv => lhs; unfold pick
              rw [if_neg hc]
            · rw [hat]; omega
            · rw [hat]; omega
        · have hz := stp_F (t := t.drop (i' + 1)) hb
          refine ⟨_, _, l, ((e8.trans e9).trans e10).trans e11, rfl, ?_, hl0', by omega⟩
          rw [hpk]
          conv => lhs; unfold pick
          rw [if_neg (by omega), hz, Int.sub_zero]
      · rintro σ' H8 ⟨y2, y4, l, e8, rfl, hpk, hl0', hl1'⟩
        rw [List.drop_length] at hl1'
        simp at hl1'
        omega
    · rintro σ' H7 ⟨o, nn, e7, hpk, hnn0, hnn1, rfl⟩
      obtain ⟨hf, hw2⟩ := stp_pos hnn0 hnn1
      have hfl := fits_len hf
      rw [List.length_drop] at hfl
      refine q_app (e7 _ _ hq6) (ev_var rfl) (ev_var rfl) (by unfold Txts; rw [List.length_map]; omega) fun H8 e8 => ?_
      refine s_aug rfl (ev_var rfl) fun H9 e9 => ⟨_, _, _, _, nn, m + ((mean rd o).length : Int), pre ++ [o], rfl, ?_, ?_, ?_, by omega, by omega, hnn0, ?_, by rw [List.length_append, hpre]; rfl⟩
      · exact (Xb.upd ((hx6.ex e7).ex e8) (by simp)).ex e9
      · refine e9 _ _ ?_
        rw [upd_same]
        unfold Txts
        rw [List.map_append]
        rfl
      · rw [hU, U_cons hpk, List.append_assoc, List.drop_drop]
        congr 4
        omega
      · have e3 : (m + ((mean rd o).length : Int)).toNat = m.toNat + (mean rd o).length := by omega
        rw [e3, drop2 x]
        exact hw2
  · rintro σ' H5 ⟨y1, y2, y3, y4, n', m, pre, rfl, hx, hq, hU, hm0, hm1, hn0, hn1, hpre⟩
    rw [List.length_zipIdx, List.drop_length] at hU
    have eH : Ex H H5 := Ex.xb0 ((e1.trans e2).trans (e3.trans e4)) hx (fun a ha => by rw [List.mem_singleton.mp ha]; exact fresh_back e1 hp0)
    refine s_ret (ev_var rfl) fun H6 e6 => k p H6 (fresh_back e1 hp0) (eH.trans e6) (e6 _ _ ?_)
    rw [hq, hU]
    unfold U
    rw [List.append_nil]

def R__law_width (K : PySem.W.Frag) : List V → Hp → V → Prop := fun vs H z => ∃ (rd : Dic) (w : Nat), AllP [isD (DS rd)] vs H ∧ ((RdOk rd w) ∧ True) ∧ z = .int (w : Int)
def sp__law_width (K : PySem.W.Frag) : Sp := spV  1 (R__law_width K)
theorem ev__law_width {K : PySem.W.Frag} {σ : L2.St} {H : Hp} {tr : TA} {E : XK} {rd : Dic} {w : Nat} (h : EvAG tr σ H [isD (DS rd)]) (p0 : RdOk rd w) : Ev (tCallO (sp__law_width K) E tr) σ H (.int (w : Int)) := ev_callG h rfl fun vs H1 e hp => ⟨rd, w, hp, ⟨p0, trivial⟩, rfl⟩

theorem ok__law_width (T : Txt K mg) : OkF P w K mg base CX0 "_law_width" 1 (sp__law_width K) := by
  refine OkF.of T.d__law_width sc__law_width (fun vs H Q E h => h.1) (fun f cdv A outer s H vs Q E hr h => ?_)
  obtain ⟨-, z, H0, e0, ⟨rd, w, ⟨v0, r0, rfl, ⟨a0, rfl, q0⟩, rfl⟩, ⟨p0, -⟩, rfl⟩, k⟩ := h
  have h0 := exh e0 q0
  clear q0
  clear e0 H0
  have hu := hu_of hr
  refine ⟨_, (pss_one (ps_ret (pe_callB cb_lenS (by rfl) T.z_len (by decide +kernel) (pa_cons (pe_ix (kix_list (K := K)) (pe_callTy (call_list_dK rfl) (by rfl) T.z_list (by decide +kernel) (pa_cons (pv 0) pa_nil)) pe_int (fun _ _ => rfl)) pa_nil)))), ?_⟩
  obtain ⟨p, rs, erd⟩ : ∃ p rs, rd = p :: rs := by
    cases rd with
    | nil => exact absurd rfl p0.ne
    | cons p rs => exact ⟨p, rs, rfl⟩
  have hp1 : p.1.length = w := rd_len p0 (by rw [erd]; exact List.mem_cons_self)
  have hw4 := p0.w4
  have h1 : ((rd.map (·.1)).getD (0 : Int).toNat []).length = w := by rw [erd]; exact hp1
  have h2 : ((rd.map (·.1)).getD (0 : Int).toNat []).length ≤ 100000 := by omega
  have h3 : (0 : Int) < ((rd.map (·.1)).length : Int) := by rw [List.length_map, erd, List.length_cons]; omega
  exact s_ret2 (Ev.is (ev_lenS (ev_ixQ ([] : Row) (q_new (el_keys (g_Dold (ev_var rfl) (by walk_at "facth")))) ev_c (by walk_at "side") (by walk_at "side")) (by walk_at "side")) (by rw [h1])) k

def R_ways (K : PySem.W.Frag) : List V → Hp → V → Prop := fun vs H z => ∃ (rd : Dic) (w : Nat) (t : List Row) (x : Row), AllP [isD (DS rd), isL K (Txts t), isV (VS x)] vs H ∧ ((RdOk rd w) ∧ (TpOk t w) ∧ (TxOk x) ∧ True) ∧ z = .int (W rd t x)
def sp_ways (K : PySem.W.Frag) : Sp := spV  3 (R_ways K)
theorem ev_ways {K : PySem.W.Frag} {σ : L2.St} {H : Hp} {tr : TA} {E : XK} {rd : Dic} {w : Nat} {t : List Row} {x : Row} (h : EvAG tr σ H [isD (DS rd), isL K (Txts t), isV (VS x)]) (p0 : RdOk rd w) (p1 : TpOk t w) (p2 : TxOk x) : Ev (tCallO (sp_ways K) E tr) σ H (.int (W rd t x)) := ev_callG h rfl fun vs H1 e hp => ⟨rd, w, t, x, hp, ⟨p0, p1, p2, trivial⟩, rfl⟩

theorem ok_ways (T : Txt K mg) : OkF P w K mg base CX0 "ways" 4 (sp_ways K) := by
  have O_check_all : OkF P w K mg base CX0 "check_all" 3 (sp_check_all K) := ok_check_all T
  have O_ways_of : OkF P w K mg base CX0 "ways_of" 3 (sp_ways_of K) := ok_ways_of T
  refine OkF.of T.d_ways sc_ways (fun vs H Q E h => h.1) (fun f cdv A outer s H vs Q E hr h => ?_)
  obtain ⟨-, z, H0, e0, ⟨rd, w, t, x, ⟨v0, r0, rfl, ⟨a0, rfl, q0⟩, ⟨v1, r1, rfl, ⟨a1, rfl, q1⟩, ⟨v2, r2, rfl, rfl, rfl⟩⟩⟩, ⟨p0, p1, p2, -⟩, rfl⟩, k⟩ := h
  have h0 := exh e0 q0
  clear q0
  have h1 := exl e0 q1
  clear q1
  clear e0 H0
  have hu := hu_of hr
  refine ⟨_, (pss_cons (ps_expr (pe_callO O_check_all hr (by rfl) pass0 (pa_cons (pv 0) (pa_cons (pv 1) (pa_cons (pv 2) pa_nil)))))
 (pss_one (ps_ret (pe_ix (kix_list (K := K)) (pe_ix (kix_list (K := K)) (pe_callO O_ways_of hr (by rfl) pass0 (pa_cons (pv 0) (pa_cons (pv 1) (pa_cons (pv 2) pa_nil)))) pe_int (fun _ _ => rfl)) pe_int (fun _ _ => rfl))))), ?_⟩
  have hxl := p2.len
  have hl0 : (0 : Int) < ((tblL rd t x).length : Int) := by rw [tblL_len]; omega
  have hl1 : (0 : Int) < (((tblL rd t x).getD (0 : Int).toNat []).length : Int) := by
    have := tblL_at (rd := rd) (t := t) (x := x) (k := 0) (Nat.zero_le _)
    show (0 : Int) < (((tblL rd t x).getD 0 []).length : Int)
    rw [this, lineL_len]
    omega
  refine q_drop (ev_check_all (ag_D (g_Dold (ev_var rfl) (by walk_at "facth")) (ag_L (q_old (ev_var rfl) (by walk_at "fact")) (ag_V (ev_var rfl) ag_nil))) (by walk_at "side") (by walk_at "side") (by walk_at "side")) fun H1 e1 => ?_
  refine s_ret2 (Ev.is (ev_ixQ (0 : Int) (q_GL (eg_ixA ([] : List Int) mkL (g_AL (ev_ways_of (ag_D (g_Dold (ev_var rfl) (by walk_at "facth")) (ag_L (q_old (ev_var rfl) (by walk_at "fact")) (ag_V (ev_var rfl) ag_nil))) (by walk_at "side") (by walk_at "side") (by walk_at "side"))) ev_c (by walk_at "side") (by walk_at "side"))) ev_c (by walk_at "side") (by walk_at "side")) ?_) (RetV.ex k e1)
  show V.int (((tblL rd t x).getD 0 []).getD 0 0) = _
  rw [tblL_at (Nat.zero_le _), lineL_at (Nat.zero_le _)]
  rfl

def R__law_many (K : PySem.W.Frag) : List V → Hp → V → Prop := fun vs H z => ∃ (rd : Dic) (w : Nat) (t : List Row) (x : Row), AllP [isD (DS rd), isL K (Txts t), isV (VS x)] vs H ∧ ((RdOk rd w) ∧ (TpOk t w) ∧ (x.length ≤ 30) ∧ True) ∧ z = .int (W rd t x)
def sp__law_many (K : PySem.W.Frag) : Sp := spV  3 (R__law_many K)
theorem ev__law_many {K : PySem.W.Frag} {σ : L2.St} {H : Hp} {tr : TA} {E : XK} {rd : Dic} {w : Nat} {t : List Row} {x : Row} (h : EvAG tr σ H [isD (DS rd), isL K (Txts t), isV (VS x)]) (p0 : RdOk rd w) (p1 : TpOk t w) (p2 : x.length ≤ 30) : Ev (tCallO (sp__law_many K) E tr) σ H (.int (W rd t x)) := ev_callG h rfl fun vs H1 e hp => ⟨rd, w, t, x, hp, ⟨p0, p1, p2, trivial⟩, rfl⟩

theorem ok__law_many (T : Txt K mg) : OkF P w K mg base CX0 "_law_many" 3 (sp__law_many K) := by
  have O__law_letters_above : OkF P w K mg base CX0 "_law_letters_above" 2 (sp__law_letters_above K) := ok__law_letters_above T
  refine OkF.of T.d__law_many sc__law_many (fun vs H Q E h => h.1) (fun f cdv A outer s H vs Q E hr h => ?_)
  obtain ⟨-, z, H0, e0, ⟨rd, w, t, x, ⟨v0, r0, rfl, ⟨a0, rfl, q0⟩, ⟨v1, r1, rfl, ⟨a1, rfl, q1⟩, ⟨v2, r2, rfl, rfl, rfl⟩⟩⟩, ⟨p0, p1, p2, -⟩, rfl⟩, k⟩ := h
  have h0 := exh e0 q0
  clear q0
  have h1 := exl e0 q1
  clear q1
  clear e0 H0
  have hu := hu_of hr
  refine ⟨_, (pss_cons (ps_set (i := 6) sc__law_many.nd rfl (.inl rfl) (pe_op op_cat (pe_op op_rep (pe_lst (pa_cons pe_int pa_nil)) (pe_callB cb_lenS (by rfl) T.z_len (by decide +kernel) (pa_cons (pv 2) pa_nil))) (pe_lst (pa_cons pe_int pa_nil))))
 (pss_cons (ps_for PassesOwn.never rfl (kpi_list (K := K) (kpe_revL (K := K) (pv 1))) (pg_name (i := 9) sc__law_many.nd rfl (.inl rfl))
  (pss_cons (ps_par (i := 4) (j := 6) rfl sc__law_many.nd rfl rfl (by decide) rfl rfl (pa_cons (pv 6) (pa_cons (pe_lst pa_nil) pa_nil)) (by rfl))
 (pss_one (ps_for PassesOwn.never rfl (pi_range1 rfl T.z_range (pa_cons (pe_op op_add (pe_callB cb_lenS (by rfl) T.z_len (by decide +kernel) (pa_cons (pv 2) pa_nil)) pe_int) pa_nil)) (pg_name (i := 3) sc__law_many.nd rfl (.inl rfl))
  (pss_cons (ps_set (i := 7) sc__law_many.nd rfl (.inl rfl) pe_int)
 (pss_cons (ps_for PassesOwn.never rfl (kpi_list (K := K) (pe_callO O__law_letters_above hr (by rfl) pass0 (pa_cons (pv 0) (pa_cons (pv 9) pa_nil)))) (pg_tup rfl (pgs_cons (pg_name (i := 8) sc__law_many.nd rfl (.inl rfl)) (pgs_cons (pg_name (i := 5) sc__law_many.nd rfl (.inl rfl)) pgs_nil)))
  (pss_one (ps_if (pt_cmpR op_eq (pv 5) pe_str (nomark _))
  (pss_one (ps_aug (i := 7) sc__law_many.nd rfl (.inl rfl) (pe_ix (kix_list (K := K)) (pv 4) (pv 3) (fun _ _ => rfl)) ip_add))
  (pss_one (ps_if (PW.pt (pw_and (pt_cmpR op_lt (pv 3) (pe_callB cb_lenS (by rfl) T.z_len (by decide +kernel) (pa_cons (pv 2) pa_nil)) (nomark _)) (pw_and1 (pt_cmpR op_eq (pe_ix ix_str (pv 2) (pv 3) (fun _ _ => rfl)) (pv 5) (nomark _)))))
  (pss_one (ps_aug (i := 7) sc__law_many.nd rfl (.inl rfl) (pe_ix (kix_list (K := K)) (pv 4) (pe_op op_add (pv 3) pe_int) (fun _ _ => rfl)) ip_add))
  pss_nil)))))
 (pss_one (ps_expr (pe_bm PySem.F.plainAttrs_list PySem.F.slot_list_append PySem.F.type_list_append mt_append (pv 6) (pa_cons (pv 7) pa_nil))))))))))
 (pss_one (ps_ret (pe_ix (kix_list (K := K)) (pv 6) pe_int (fun _ _ => rfl)))))), ?_⟩
  have hw := p0.w4
  have htl := p1.len
  have hfl : ((List.replicate ((x.length : Int)).toNat [(0 : Int)]).flatten).length ≤ 30 := by
    rw [List.length_flatten, List.map_replicate]
    simp
    omega
  have hbase : Ints ((List.replicate ((x.length : Int)).toNat [(0 : Int)]).flatten ++ [1]) = Ints (lineL rd (t.drop (t.length - 0)) x) := by
    rw [Nat.sub_zero, List.drop_length, lineL_nil]
    simp
  have hrev : ∀ r ∈ t.reverse, r ∈ t := fun r h => List.mem_reverse.mp h
  refine q_asgL (EvL.is (el_catH (h_new (el_repH (h_new (el_lst (emI_cons ev_c emI_nil) (by simp))) (ev_lenS (ev_var rfl) (by walk_at "side")) (by walk_at "side") (by walk_at "side") (by walk_at "side"))) (h_new (el_lst (emI_cons ev_c emI_nil) (by simp))) (by walk_at "side")) hbase) fun p H1 hp0 e1 hp => ?_
  refine q_for (s := []) (i_list (qa_new (el_revQ (q_old (ev_var rfl) (by walk_at "fact"))))) (by simp) fun H2 e2 => ⟨fun i σ' H' => ∃ l y1 y2 y3 y4 y5 y6, σ' = [some (.ref a0), some (.ref a1), some (VS x), y1, y2, y3, some (.ref l), y4, y5, y6] ∧ Ex H2 H' ∧
      H' l = some (.lst (Ints (lineL rd (t.drop (t.length - i)) x))),
    ⟨p, none, none, none, none, none, none, rfl, Ex.refl _, e2 _ _ hp⟩, fun i σ' H' ⟨_, _, _, _, _, _, _, _, x, _⟩ => Ex.xb x, ?_, ?_⟩
  · rintro i r σ' H3 H4 hi ⟨l, y1, y2, y3, y4, y5, y6, rfl, hx, hl⟩ e4
    have hr := p1.row r (hrev r (List.mem_of_getElem? hi))
    have hr4 : r.length ≤ 4 := by have := isRow_len hr; omega
    have e04 := (e1.trans e2).trans (hx.trans e4)
    have hD4 : H4 a0 = some (.dK (DS rd)) := exh e04 h0
    have hll := lineL_len rd (t.drop (t.length - i)) x
    have hlat := fun (m : Nat) (hm : m ≤ x.length) => lineL_at (rd := rd) (t := t.drop (t.length - i)) hm
    have hdr := drop_rev hi
    generalize lineL rd (t.drop (t.length - i)) x = ll at hl hll hlat
    refine q_par (ag_V (ev_var rfl) (ag_NL el_nil ag_nil)) fun v1 v2 H5 e5 g1 g2 => ?_
    obtain rfl := g1
    obtain ⟨ln, rfl, hln0, hln⟩ := g2
    have hl4 := e4 _ _ hl
    have hlln : l ≠ ln := ne_of_none hl4 hln0
    have hlS : SL K H5 l (Ints ll) := slof (e5 _ _ hl4)
    refine s_for (s := [ln]) (i_rng1 (ea_cons (ev_add (ev_lenS (ev_var rfl) (by walk_at "side")) ev_c) ea_nil) (by walk_at "rng")) (by intro a ha; rw [List.mem_singleton.mp ha, hln]; simp) fun H6 e6 => ⟨fun m σ' H' => ∃ y1 y3 y4 y5, σ' = [some (.ref a0), some (.ref a1), some (VS x), y1, some (.ref l), y3, some (.ref ln), y4, y5, some (VS r)] ∧ Xb [ln] H6 H' ∧
        H' ln = some (.lst (Ints ((List.range m).map fun m => W rd (r :: t.drop (t.length - i)) (x.drop m)))),
      ⟨_, _, _, _, rfl, Xb.refl _ _, e6 _ _ hln⟩, fun m σ' H' ⟨_, _, _, _, _, x, _⟩ => x, ?_, ?_⟩
    · rintro m m' σ' H7 H8 hm ⟨y1, y3, y4, y5, rfl, hx7, hq⟩ e8
      have hm : m' = m ∧ m ≤ x.length := by
        obtain ⟨h1, h2⟩ := List.getElem?_eq_some_iff.mp hm
        rw [List.length_range] at h1
        rw [List.getElem_range] at h2
        exact ⟨h2.symm, by omega⟩
      obtain ⟨rfl, hml⟩ := hm
      have hx8 := hx7.ex e8
      have hl8 : SL K H8 l (Ints ll) := hx8.l (nin1 hlln) (exl e6 hlS)
      have hD8 : H8 a0 = some (.dK (DS rd)) := hx8 _ _ (nin1 (ne_of_none hD4 hln0)) (exh (e5.trans e6) hD4)
      have hst := fun o => stp_cases p0 (t.drop (t.length - i)) hml o
      refine q_asg ev_c fun H9 e9 => ?_
      refine q_for (s := []) (i_arrT (fun _ => rfl) (ev__law_letters_above (ag_D (g_Dold (ev_var rfl) (by walk_at "facth")) (ag_V (ev_var rfl) ag_nil)) (by walk_at "side") (by walk_at "side"))) (by simp) fun H10 e10 => ⟨fun j σ' H' => ∃ y3 y5, σ' = [some (.ref a0), some (.ref a1), some (VS x), some (.int (m' : Int)), some (.ref l), y3, some (.ref ln), some (.int (((aboveL r).take j).map (stp rd (t.drop (t.length - i)) (x.drop m'))).sum), y5, some (VS r)] ∧ Ex H10 H',
        ⟨_, _, rfl, Ex.refl _⟩, fun j σ' H' ⟨_, _, _, x⟩ => Ex.xb x, ?_, ?_⟩
      · rintro j ⟨o, lt⟩ σ' H11 H12 hj ⟨y3, y5, rfl, e11⟩ e12
        have hj2 : (aboveL r)[j]? = some o ∧ lt = mean rd o := by
          unfold lettersA at hj
          rw [List.getElem?_map] at hj
          cases h : (aboveL r)[j]? with
          | none => rw [h] at hj; cases hj
          | some o' =>
            rw [h] at hj
            have := Option.some.inj hj
            exact ⟨by rw [← (Prod.mk.inj this).1], by rw [← (Prod.mk.inj this).2, (Prod.mk.inj this).1]⟩
        obtain ⟨hj3, rfl⟩ := hj2
        have htk : (((aboveL r).take (j + 1)).map (stp rd (t.drop (t.length - i)) (x.drop m'))).sum = (((aboveL r).take j).map (stp rd (t.drop (t.length - i)) (x.drop m'))).sum + stp rd (t.drop (t.length - i)) (x.drop m') o := by
          rw [List.take_succ, hj3, List.map_append, List.sum_append]
          simp
        have hl12 : SL K H12 l (Ints ll) := exl ((e9.trans e10).trans (e11.trans e12)) hl8
        have ho := hst o
        refine s_if (EvT.is (et_test (ev_eqS (ev_var rfl) (ev_cS lit_nil))) rfl) (fun hb H13 e13 => ?_) (fun hb H13 e13 => ?_)
        · rw [hb, if_pos rfl] at ho
          refine s_aug rfl (ev_ixQ (0 : Int) (q_old (ev_var rfl) (by walk_at "fact")) (ev_var rfl) (by walk_at "side") (by walk_at "side")) fun H14 e14 => ⟨some (VS (mean rd o)), some (VS o), ?_, ((e11.trans e12).trans e13).trans e14⟩
          rw [htk, ← ho, ← hlat m' hml]
          rfl
        · rw [hb, if_neg (by decide)] at ho
          refine s_when (EvT.is (et_and (et_test (ev_lt (ev_var rfl) (ev_lenS (ev_var rfl) (by walk_at "side")))) (fun hb37 => (et_test (ev_eqS (ev_ixS (ev_var rfl) (ev_var rfl) (by walk_at "side") (by walk_at "side") (by walk_at "side")) (ev_var rfl))))) rfl) (fun hc H14 e14 => ?_) (fun hc H14 e14 => ?_)
          · have hc2 : (decide ((m' : Int) < (x.length : Int)) && decide ([x.getD m' 0] = mean rd o)) = true := hc
            rw [hc2, if_pos rfl] at ho
            rw [Bool.and_eq_true] at hc2
            have hc3 := of_decide_eq_true hc2.1
            refine s_aug rfl (ev_ixQ (0 : Int) (q_old (ev_var rfl) (by walk_at "fact")) (ev_add (ev_var rfl) ev_c) (by walk_at "side") (by walk_at "side")) fun H15 e15 => ⟨some (VS (mean rd o)), some (VS o), ?_, (((e11.trans e12).trans e13).trans e14).trans e15⟩
            rw [htk, ← ho, ← hlat (m' + 1) (by omega)]
            rfl
          · have hc2 : (decide ((m' : Int) < (x.length : Int)) && decide ([x.getD m' 0] = mean rd o)) = false := hc
            rw [hc2, if_neg (by decide)] at ho
            refine ⟨some (VS (mean rd o)), some (VS o), ?_, ((e11.trans e12).trans e13).trans e14⟩
            rw [htk, ← ho, Int.add_zero]
            rfl
      · rintro σ' H11 ⟨y3, y5, rfl, e11⟩
        have hq11 := e11 _ _ (e10 _ _ (e9 _ _ (e8 _ _ hq)))
        have hlen : (lettersA rd r).length = (aboveL r).length := by unfold lettersA; rw [List.length_map]
        refine s_app hq11 (ev_var rfl) (Ev.is (ev_var rfl) (congrArg V.int (show _ = W rd (r :: t.drop (t.length - i)) (x.drop m') from by rw [hlen, List.take_length]; rfl))) (by unfold Ints; simp only [List.length_map, List.length_range]; omega) fun H12 e12 => ⟨_, _, _, _, rfl, ((hx8.ex ((e9.trans e10).trans e11)).ex e12).upd (by simp), ?_⟩
        rw [upd_same, List.range_succ, List.map_append]
        unfold Ints
        rw [List.map_append]
        rfl
    · rintro σ' H7 ⟨y1, y3, y4, y5, rfl, hx7, hq⟩
      have eX : Ex H4 H7 := Ex.xb0 (e5.trans e6) hx7 (fun a ha => by rw [List.mem_singleton.mp ha]; exact hln0)
      refine ⟨ln, _, _, _, _, _, _, rfl, (hx.trans e4).trans eX, ?_⟩
      rw [hq, List.length_range, hdr]
      unfold lineL
      rfl
  · rintro σ' H3 ⟨l, y1, y2, y3, y4, y5, y6, rfl, hx, hl⟩
    have hl : H3 l = some (.lst (Ints (lineL rd (t.drop (t.length - t.reverse.length)) x))) := hl
    rw [List.length_reverse, Nat.sub_self, List.drop_zero] at hl
    have hls : SL K H3 l (Ints (lineL rd t x)) := slof hl
    have hl0 : (0 : Int) < ((lineL rd t x).length : Int) := by rw [lineL_len]; omega
    refine s_ret2 (Ev.is (ev_ixQ (0 : Int) (q_old (ev_var rfl) (by walk_at "fact")) ev_c (by walk_at "side") (by walk_at "side")) ?_) (RetV.ex k ((e1.trans e2).trans hx))
    exact congrArg V.int (lineL_at (rd := rd) (t := t) (x := x) (m := 0) (Nat.zero_le _))

def R_over (K : PySem.W.Frag) : List V → Hp → V → Prop := fun vs H z => ∃ (t o : List Row), AllP [isL K (Txts t), isL K (Txts o)] vs H ∧ ((t.length ≤ 40000) ∧ (∀ r ∈ t, r.length ≤ 40000) ∧ True) ∧ z = .bl (overB t o)
def sp_over (K : PySem.W.Frag) : Sp := spV  2 (R_over K)
theorem ev_over {K : PySem.W.Frag} {σ : L2.St} {H : Hp} {tr : TA} {E : XK} {t o : List Row} (h : EvAG tr σ H [isL K (Txts t), isL K (Txts o)]) (p0 : t.length ≤ 40000) (p1 : ∀ r ∈ t, r.length ≤ 40000) : Ev (tCallO (sp_over K) E tr) σ H (.bl (overB t o)) := ev_callG h rfl fun vs H1 e hp => ⟨t, o, hp, ⟨p0, p1, trivial⟩, rfl⟩

theorem ok_over (T : Txt K mg) : OkF P w K mg base CX0 "over" 2 (sp_over K) := by
  have O_goes_over : OkF P w K mg base CX0 "goes_over" 1 (sp_goes_over K) := ok_goes_over T
  refine OkF.of T.d_over sc_over (fun vs H Q E h => h.1) (fun f cdv A outer s H vs Q E hr h => ?_)
  obtain ⟨-, z, H0, e0, ⟨t, o, ⟨v0, r0, rfl, ⟨a0, rfl, q0⟩, ⟨v1, r1, rfl, ⟨a1, rfl, q1⟩, rfl⟩⟩, ⟨p0, p1, -⟩, rfl⟩, k⟩ := h
  have h0 := exl e0 q0
  clear q0
  have h1 := exl e0 q1
  clear q1
  clear e0 H0
  have hu := hu_of hr
  refine ⟨_, (pss_one (ps_ret (pe_and (pe_cmpR op_eq (pe_callB (kcb_lenQ (K := K)) (by rfl) T.z_len (by decide +kernel) (pa_cons (pv 0) pa_nil)) (pe_callB (kcb_lenQ (K := K)) (by rfl) T.z_len (by decide +kernel) (pa_cons (pv 1) pa_nil)) (nomark _)) (pe_one (pe_callB (kcr_all (K := K) rfl) (by rfl) T.z_all (by decide +kernel) (pa_cons (pe_lc (own := [("one", 2), ("new", 3)]) (g := gTup K 2 (gCons (gName 2) (gCons (gName 3) gNil))) rfl sc_over.nd (kpi_zip (K := K) (by rfl) T.z_zip (pa_cons (pv 0) (pa_cons (pv 1) pa_nil))) (blkOk_by (N := N_over) (sc := defScope s_over) (by decide +kernel)) (fun _ _ _ _ _ => (pg_tup rfl (pgs_cons (pg_name (i := 2) sc_over.nd rfl (.inl rfl)) (pgs_cons (pg_name (i := 3) sc_over.nd rfl (.inl rfl)) pgs_nil)))) (fun _ _ _ _ _ => pts_nil) (fun _ _ _ _ _ => (pe_callO O_goes_over hr (by rfl) pass0 (pa_cons (pv 2) (pa_cons (pv 3) pa_nil))))) pa_nil)))))), ?_⟩
  have hz : ∀ p ∈ t.zip o, p.1.length ≤ 40000 := fun p h => p1 _ (List.of_mem_zip h).1
  exact s_ret2 (Ev.is (ev_andV (ev_eqI (ev_lenQ (q_old (ev_var rfl) (by walk_at "fact"))) (ev_lenQ (q_old (ev_var rfl) (by walk_at "fact")))) (fun hb39 => (ev_allQ (q_new (el_lc1 (i_zip (qa_old (ev_var rfl) (by walk_at "fact") trivial) (qa_old (ev_var rfl) (by walk_at "fact") trivial)) (by walk_at "len") (fun _ => wipe_two _ (by decide) _ _) (fun x38 hx38 H138 e138 => (ev_goes_over (ag_V (ev_var rfl) (ag_V (ev_var rfl) ag_nil)) (by walk_at "side")))))))) rfl) k

def R_text_of (K : PySem.W.Frag) : List V → Hp → V → Prop := fun vs H z => ∃ (rd : Dic) (w : Nat) (t : List Row), AllP [isD (DS rd), isL K (Txts t)] vs H ∧ ((RdOk rd w) ∧ (t.length ≤ 40000) ∧ True) ∧ z = VS (textOf rd t)
def sp_text_of (K : PySem.W.Frag) : Sp := spV  2 (R_text_of K)
theorem ev_text_of {K : PySem.W.Frag} {σ : L2.St} {H : Hp} {tr : TA} {E : XK} {rd : Dic} {w : Nat} {t : List Row} (h : EvAG tr σ H [isD (DS rd), isL K (Txts t)]) (p0 : RdOk rd w) (p1 : t.length ≤ 40000) : Ev (tCallO (sp_text_of K) E tr) σ H (VS (textOf rd t)) := ev_callG h rfl fun vs H1 e hp => ⟨rd, w, t, hp, ⟨p0, p1, trivial⟩, rfl⟩

theorem ok_text_of (T : Txt K mg) : OkF P w K mg base CX0 "text_of" 2 (sp_text_of K) := by
  have O_meaning : OkF P w K mg base CX0 "meaning" 1 (sp_meaning K) := ok_meaning T
  refine OkF.of T.d_text_of sc_text_of (fun vs H Q E h => h.1) (fun f cdv A outer s H vs Q E hr h => ?_)
  obtain ⟨-, z, H0, e0, ⟨rd, w, t, ⟨v0, r0, rfl, ⟨a0, rfl, q0⟩, ⟨v1, r1, rfl, ⟨a1, rfl, q1⟩, rfl⟩⟩, ⟨p0, p1, -⟩, rfl⟩, k⟩ := h
  have h0 := exh e0 q0
  clear q0
  have h1 := exl e0 q1
  clear q1
  clear e0 H0
  have hu := hu_of hr
  refine ⟨_, (pss_one (ps_ret (kpe_joinQ (K := K) pe_str (pe_lc (own := [("row", 2)]) (g := gName 2) rfl sc_text_of.nd (kpi_list (K := K) (pv 1)) (blkOk_by (N := N_text_of) (sc := defScope s_text_of) (by decide +kernel)) (fun _ _ _ _ _ => (pg_name (i := 2) sc_text_of.nd rfl (.inl rfl))) (fun _ _ _ _ _ => pts_nil) (fun _ _ _ _ _ => (pe_callO O_meaning hr (by rfl) pass0 (pa_cons (pv 0) (pa_cons (pv 2) pa_nil)))))))), ?_⟩
  have hz : (t.map (mean rd)).flatten.length ≤ 100000 := by have := textOf_len p0 t; omega
  exact s_ret2 (Ev.is (ev_joinQ (ev_cS lit_nil) (q_new (el_lc1 (i_list (qa_old (ev_var rfl) (by walk_at "fact") trivial)) (by walk_at "len") (fun _ => wipe_one _ _ _) (fun x40 hx40 H140 e140 => (ev_meaning (ag_D (g_Dold (ev_var rfl) (by walk_at "facth")) (ag_V (ev_var rfl) ag_nil)))))) (by walk_at "len")) rfl) k

def R_number_of (K : PySem.W.Frag) : List V → Hp → V → Prop := fun vs H z => ∃ (rd : Dic) (w : Nat) (t : List Row) (x : Row) (o : List Row), AllP [isD (DS rd), isL K (Txts t), isV (VS x), isL K (Txts o)] vs H ∧ ((RdOk rd w) ∧ (TpOk t w) ∧ (TxOk x) ∧ (TpOk o w) ∧ (overB t o = true) ∧ (textOf rd o = x) ∧ True) ∧ z = .int (rank rd t x o)
def sp_number_of (K : PySem.W.Frag) : Sp := spV  4 (R_number_of K)
theorem ev_number_of {K : PySem.W.Frag} {σ : L2.St} {H : Hp} {tr : TA} {E : XK} {rd : Dic} {w : Nat} {t : List Row} {x : Row} {o : List Row} (h : EvAG tr σ H [isD (DS rd), isL K (Txts t), isV (VS x), isL K (Txts o)]) (p0 : RdOk rd w) (p1 : TpOk t w) (p2 : TxOk x) (p3 : TpOk o w) (p4 : overB t o = true) (p5 : textOf rd o = x) : Ev (tCallO (sp_number_of K) E tr) σ H (.int (rank rd t x o)) := ev_callG h rfl fun vs H1 e hp => ⟨rd, w, t, x, o, hp, ⟨p0, p1, p2, p3, p4, p5, trivial⟩, rfl⟩

theorem ok_number_of (T : Txt K mg) : OkF P w K mg base CX0 "number_of" 4 (sp_number_of K) := by
  have O_check_all : OkF P w K mg base CX0 "check_all" 3 (sp_check_all K) := ok_check_all T
  have O_check_tape : OkF P w K mg base CX0 "check_tape" 2 (sp_check_tape K) := ok_check_tape T
  have O_width_of : OkF P w K mg base CX0 "width_of" 2 (sp_width_of K) := ok_width_of T
  have O_ways_of : OkF P w K mg base CX0 "ways_of" 3 (sp_ways_of K) := ok_ways_of T
  have O_above : OkF P w K mg base CX0 "above" 2 (sp_above K) := ok_above T
  have O_over : OkF P w K mg base CX0 "over" 2 (sp_over K) := ok_over T
  have O_text_of : OkF P w K mg base CX0 "text_of" 2 (sp_text_of K) := ok_text_of T
  have O_meaning : OkF P w K mg base CX0 "meaning" 1 (sp_meaning K) := ok_meaning T
  refine OkF.of T.d_number_of sc_number_of (fun vs H Q E h => h.1) (fun f cdv A outer s H vs Q E hr h => ?_)
  obtain ⟨-, z, H0, e0, ⟨rd, w, t, x, o, ⟨v0, r0, rfl, ⟨a0, rfl, q0⟩, ⟨v1, r1, rfl, ⟨a1, rfl, q1⟩, ⟨v2, r2, rfl, rfl, ⟨v3, r3, rfl, ⟨a3, rfl, q3⟩, rfl⟩⟩⟩⟩, ⟨p0, p1, p2, p3, p4, p5, -⟩, rfl⟩, k⟩ := h
  have h0 := exh e0 q0
  clear q0
  have h1 := exl e0 q1
  clear q1
  have h3 := exl e0 q3
  clear q3
  clear e0 H0
  have hu := hu_of hr
  refine ⟨_, (pss_cons (ps_expr (pe_callO O_check_all hr (by rfl) pass0 (pa_cons (pv 0) (pa_cons (pv 1) (pa_cons (pv 2) pa_nil)))))
 (pss_cons (ps_expr (pe_callO O_check_tape hr (by rfl) pass0 (pa_cons (pe_callO O_width_of hr (by rfl) pass0 (pa_cons (pv 0) pa_nil)) (pa_cons (pv 3) pa_nil))))
 (pss_cons (ps_if (PW.pt (pw_or (pt_not (pt_val (pe_callO O_over hr (by rfl) pass0 (pa_cons (pv 1) (pa_cons (pv 3) pa_nil))))) (pw_or1 (pt_cmpR op_ne (pe_callO O_text_of hr (by rfl) pass0 (pa_cons (pv 0) (pa_cons (pv 3) pa_nil))) (pv 2) (nomark _)))))
  (pss_one ps_never)
  pss_nil)
 (pss_cons (ps_par3 (i := 10) (j := 6) (l := 5) rfl sc_number_of.nd rfl rfl rfl (by decide) (by decide) (by decide) rfl rfl rfl (pa_cons (pe_callO O_ways_of hr (by rfl) pass0 (pa_cons (pv 0) (pa_cons (pv 1) (pa_cons (pv 2) pa_nil)))) (pa_cons pe_int (pa_cons pe_int pa_nil))) (by rfl))
 (pss_cons (ps_for PassesOwn.never rfl (kpi_enum (K := K) (by rfl) T.z_enumerate (pa_cons (pv 1) pa_nil)) (pg_tup rfl (pgs_cons (pg_name (i := 4) sc_number_of.nd rfl (.inl rfl)) (pgs_cons (pg_name (i := 8) sc_number_of.nd rfl (.inl rfl)) pgs_nil)))
  (pss_cons (ps_for PassesOwn.never rfl (kpi_list (K := K) (pe_callO O_above hr (by rfl) pass0 (pa_cons (pv 8) pa_nil))) (pg_name (i := 7) sc_number_of.nd rfl (.inl rfl))
  (pss_cons (ps_set (i := 9) sc_number_of.nd rfl (.inl rfl) (pe_callB cb_lenS (by rfl) T.z_len (by decide +kernel) (pa_cons (pe_callO O_meaning hr (by rfl) pass0 (pa_cons (pv 0) (pa_cons (pv 7) pa_nil))) pa_nil)))
 (pss_cons (ps_if (pt_cmpR op_eq (pv 7) (pe_ix (kix_list (K := K)) (pv 3) (pv 4) (fun _ _ => rfl)) (nomark _))
  (pss_one ps_break)
  pss_nil)
 (pss_one (ps_if (PW.pt (pw_or (pt_cmpR op_eq (pv 9) pe_int (nomark _)) (pw_or1 (pt_cmpR op_eq (pe_slice sl_str (pv 2) (po_some (pv 6)) (po_some (pe_op op_add (pv 6) pe_int))) (pe_callO O_meaning hr (by rfl) pass0 (pa_cons (pv 0) (pa_cons (pv 7) pa_nil))) (nomark _)))))
  (pss_one (ps_aug (i := 5) sc_number_of.nd rfl (.inl rfl) (pe_ix (kix_list (K := K)) (pe_ix (kix_list (K := K)) (pv 10) (pe_op op_add (pv 4) pe_int) (fun _ _ => rfl)) (pe_op op_add (pv 6) (pv 9)) (fun _ _ => rfl)) ip_add))
  pss_nil)))))
 (pss_one (ps_aug (i := 6) sc_number_of.nd rfl (.inl rfl) (pv 9) ip_add))))
 (pss_one (ps_ret (pv 5)))))))), ?_⟩
  have hxl := p2.len
  have htl := p1.len
  have hw := p0.w4
  have hto := overB_len p4
  have hl : t.length ≤ 40000 := by omega
  have hol : o.length ≤ 40000 := by omega
  have hrr : ∀ r ∈ t, r.length ≤ 40000 := fun r h => by have := isRow_len (p1.row r h); omega
  refine q_drop (ev_check_all (ag_D (g_Dold (ev_var rfl) (by walk_at "facth")) (ag_L (q_old (ev_var rfl) (by walk_at "fact")) (ag_V (ev_var rfl) ag_nil))) (by walk_at "side") (by walk_at "side") (by walk_at "side")) fun H1 e1 => ?_
  refine q_drop (ev_check_tape (ag_V (ev_width_of (ag_D (g_Dold (ev_var rfl) (by walk_at "facth")) ag_nil) (by walk_at "side")) (ag_L (q_old (ev_var rfl) (by walk_at "fact")) ag_nil)) (by walk_at "side") (by walk_at "side")) fun H2 e2 => ?_
  refine q_skip (EvT.is (et_or (et_not (et_B (ev_over (ag_L (q_old (ev_var rfl) (by walk_at "fact")) (ag_L (q_old (ev_var rfl) (by walk_at "fact")) ag_nil)) (by walk_at "side") (by walk_at "side")))) (fun hb41 => (et_test (ev_neS (ev_text_of (ag_D (g_Dold (ev_var rfl) (by walk_at "facth")) (ag_L (q_old (ev_var rfl) (by walk_at "fact")) ag_nil)) (by walk_at "side") (by walk_at "side")) (ev_var rfl))))) (by rw [p4, p5]; simp)) fun H3 e3 => ?_
  refine q_par3 (ag_NA (fun _ => mkL) anti_nL (ev_ways_of (ag_D (g_Dold (ev_var rfl) (by walk_at "facth")) (ag_L (q_old (ev_var rfl) (by walk_at "fact")) (ag_V (ev_var rfl) ag_nil))) (by walk_at "side") (by walk_at "side") (by walk_at "side")) (ag_V ev_c (ag_V ev_c ag_nil))) fun v1 v2 v3 H4 e4 g1 g2 g3 => ?_
  obtain ⟨tb, vs, rfl, htb0, htb, hvs⟩ := g1
  obtain rfl := g2
  obtain rfl := g3
  have hA : AG K H4 tb (kL K Ints tru) (tblL rd t x) := ⟨vs, slof htb, allP_imp (fun y u ⟨a, h1, h2, _⟩ => ⟨a, h1, h2, trivial⟩) hvs⟩
  refine q_for (s := []) (i_enum (qa_old (ev_var rfl) (by walk_at "fact") (by walk_at "adm"))) (by simp) fun H5 e5 => ⟨fun i σ' H' => ∃ y1 y2 y3 y4 f m, σ' = [some (.ref a0), some (.ref a1), some (VS x), some (.ref a3), y1, some (.int f), some (.int m), y2, y3, y4, some (.ref tb)] ∧
      Ex H5 H' ∧ rank rd t x o = f + rank rd (t.drop i) (x.drop m.toNat) (o.drop i) ∧ 0 ≤ m ∧ m.toNat ≤ x.length ∧ textOf rd (o.drop i) = x.drop m.toNat,
    ⟨none, none, none, none, 0, 0, rfl, Ex.refl _, by simp, Int.le_refl _, Nat.zero_le _, p5⟩, fun i σ' H' ⟨_, _, _, _, _, _, _, x, _⟩ => Ex.xb x, ?_, ?_⟩
  · rintro i ⟨r, i'⟩ σ' H6 H7 hi ⟨y1, y2, y3, y4, f, m, rfl, hx, hU, hm0, hm1, htx⟩ e7
    obtain ⟨rfl, hi⟩ := zipIdx_at hi
    have hil := (List.getElem?_eq_some_iff.mp hi).1
    have hr := p1.row r (List.mem_of_getElem? hi)
    have hr4 : r.length ≤ 4 := by have := isRow_len hr; omega
    have hdr : t.drop i' = r :: t.drop (i' + 1) := by
      rw [List.drop_eq_getElem_cons hil]
      obtain ⟨_, e⟩ := List.getElem?_eq_some_iff.mp hi
      rw [e]
    obtain ⟨q, hq⟩ : ∃ q, o[i']? = some q := ⟨_, List.getElem?_eq_getElem (show i' < o.length by omega)⟩
    have hoil : i' < o.length := by omega
    have hdo : o.drop i' = q :: o.drop (i' + 1) := by
      rw [List.drop_eq_getElem_cons hoil]
      obtain ⟨_, e⟩ := List.getElem?_eq_some_iff.mp hq
      rw [e]
    have hqa : q ∈ aboveL r := mem_aboveL hw hr (p3.row q (List.mem_of_getElem? hq)) (overB_at p4 hi hq)
    have hgq : o.getD (i' : Int).toNat [] = q := by
      show o.getD i' [] = q
      rw [List.getD_eq_getElem?_getD, hq]
      rfl
    rw [hdr, hdo] at hU
    rw [hdo] at htx
    have htx : mean rd q ++ textOf rd (o.drop (i' + 1)) = x.drop m.toNat := by rw [← htx]; rfl
    have hql : (mean rd q).length ≤ x.length - m.toNat := by
      have := congrArg List.length htx
      rw [List.length_append, List.length_drop] at this
      omega
    have hD7 : H7 a0 = some (.dK (DS rd)) := exh ((((e1.trans e2).trans e3).trans (e4.trans e5)).trans (hx.trans e7)) h0
    have ho7 : SL K H7 a3 (Txts o) := exl ((((e1.trans e2).trans e3).trans (e4.trans e5)).trans (hx.trans e7)) h3
    have hA7 := hA.ex mkL ((e5.trans hx).trans e7)
    refine q_forJ (s := []) (fun σ' H' => Ex H7 H' ∧ σ' = [some (.ref a0), some (.ref a1), some (VS x), some (.ref a3), some (.int (i' : Nat)), some (.int (f + bef (stp rd (t.drop (i' + 1)) (x.drop m.toNat)) (aboveL r) q)), some (.int m), some (VS q), some (VS r), some (.int ((mean rd q).length : Int)), some (.ref tb)]) (i_list (qa_new (ev_above (ag_V (ev_var rfl) ag_nil) (by walk_at "side")))) (by simp) (fun H8 e8 fin => ?_) ?_
    · refine ⟨fun j σ' H' => ∃ y2 y4 l, Ex H8 H' ∧ σ' = [some (.ref a0), some (.ref a1), some (VS x), some (.ref a3), some (.int (i' : Nat)), some (.int l), some (.int m), y2, some (VS r), y4, some (.ref tb)] ∧
          f + bef (stp rd (t.drop (i' + 1)) (x.drop m.toNat)) (aboveL r) q = l + bef (stp rd (t.drop (i' + 1)) (x.drop m.toNat)) ((aboveL r).drop j) q ∧ q ∈ (aboveL r).drop j,
        ⟨y2, y4, f, Ex.refl _, rfl, rfl, hqa⟩, fun j σ' H' ⟨_, _, _, x, _⟩ => Ex.xb x, ?_, ?_⟩
      · rintro j o' σ' H9 H10 hj ⟨y2, y4, l, e9, rfl, hbf, hqd⟩ e10
        have hjl := (List.getElem?_eq_some_iff.mp hj).1
        have hdj : (aboveL r).drop j = o' :: (aboveL r).drop (j + 1) := by
          rw [List.drop_eq_getElem_cons hjl]
          obtain ⟨_, e⟩ := List.getElem?_eq_some_iff.mp hj
          rw [e]
        rw [hdj] at hbf hqd
        have e710 := (e8.trans e9).trans e10
        have hD10 := exh e710 hD7
        have ho10 := exl e710 ho7
        have hA10 := hA7.ex mkL e710
        have hml := mean_len p0 o'
        have hoi : (i' : Int) < (o.length : Int) := by omega
        refine q_asg (ev_lenS (ev_meaning (ag_D (g_Dold (ev_var rfl) (by walk_at "facth")) (ag_V (ev_var rfl) ag_nil))) (by walk_at "side")) fun H11 e11 => ?_
        refine q_when (et_test (ev_eqS (ev_var rfl) (ev_ixQ ([] : Row) (q_old (ev_var rfl) (by walk_at "fact")) (ev_var rfl) (by walk_at "side") (by walk_at "side")))) (fun hc H12 e12 => ?_) (fun hc H12 e12 => ?_)
        · rw [hgq] at hc
          have hc := of_decide_eq_true hc
          subst hc
          refine fin _ _ ⟨(e710.trans e11).trans e12, ?_⟩
          have : bef (stp rd (t.drop (i' + 1)) (x.drop m.toNat)) (o' :: (aboveL r).drop (j + 1)) o' = 0 := by unfold bef; rw [if_pos rfl]
          rw [hbf, this, Int.add_zero]
          rfl
        · rw [hgq] at hc
          have hc := of_decide_eq_false hc
          have hqd2 : q ∈ (aboveL r).drop (j + 1) := by
            rcases List.mem_cons.mp hqd with e | e
            · exact absurd e.symm hc
            · exact e
          rw [bef_cons_ne hc] at hbf
          refine s_when (EvT.is (et_or (et_test (ev_eqI (ev_var rfl) ev_c)) (fun hb42 => (et_test (ev_eqS (ev_slS (ev_var rfl) (eo_some (ev_var rfl)) (eo_some (ev_add (ev_var rfl) ev_c)) (by walk_at "side")) (ev_meaning (ag_D (g_Dold (ev_var rfl) (by walk_at "facth")) (ag_V (ev_var rfl) ag_nil))))))) (fits_eq p0 hm0 o')) (fun hb H13 e13 => ?_) (fun hb H13 e13 => ?_)
          · have hfl := fits_len hb
            rw [List.length_drop] at hfl
            have hti : (i' : Int) + 1 < ((tblL rd t x).length : Int) := by rw [tblL_len]; omega
            have hrl : ((tblL rd t x).getD ((i' : Int) + 1).toNat []).length = x.length + 1 := by rw [tbl_row hil, lineL_len]
            have hat := tbl_at (rd := rd) (t := t) (x := x) (k := (mean rd o').length) hil hm0 (by omega)
            rw [← stp_T hb] at hat
            refine s_aug rfl (ev_ixQ (0 : Int) (q_GL (eg_ixA ([] : List Int) mkL (g_Aold mkL (ev_var rfl) (by walk_at "facta")) (ev_add (ev_var rfl) ev_c) (by walk_at "side") (by walk_at "side"))) (ev_add (ev_var rfl) (ev_var rfl)) (by walk_at "side") (by walk_at "side")) fun H14 e14 => ⟨_, _, _, ((((e9.trans e10).trans e11).trans e12).trans e13).trans e14, rfl, ?_, hqd2⟩
            rw [hbf, hat]
            omega
          · have hz := stp_F (t := t.drop (i' + 1)) hb
            refine ⟨_, _, l, (((e9.trans e10).trans e11).trans e12).trans e13, rfl, ?_, hqd2⟩
            rw [hbf, hz]
            omega
      · rintro σ' H9 ⟨y2, y4, l, e9, rfl, hbf, hqd⟩
        rw [List.drop_length] at hqd
        cases hqd
    · rintro σ' H8 ⟨e8, rfl⟩
      have e3 : (m + ((mean rd q).length : Int)).toNat = m.toNat + (mean rd q).length := by omega
      refine s_aug rfl (ev_var rfl) fun H9 e9 => ⟨_, _, _, _, _, m + ((mean rd q).length : Int), rfl, ((hx.trans e7).trans e8).trans e9, ?_, by omega, by omega, ?_⟩
      · rw [hU, e3, drop2 x]
        show f + (bef _ _ _ + rank _ _ _ _) = _
        rw [← Int.add_assoc]
      · rw [e3, drop2 x, ← htx, List.drop_left]
  · rintro σ' H6 ⟨y1, y2, y3, y4, f, m, rfl, hx, hU, hm0, hm1, htx⟩
    have hU : rank rd t x o = f + rank rd (t.drop t.zipIdx.length) (x.drop m.toNat) (o.drop t.zipIdx.length) := hU
    rw [List.length_zipIdx, List.drop_length] at hU
    refine s_ret2 (Ev.is (ev_var rfl) ?_) (RetV.ex k ((((e1.trans e2).trans e3).trans (e4.trans e5)).trans hx))
    rw [hU]
    unfold rank
    rw [Int.add_zero]

def R__law_whole (K : PySem.W.Frag) : List V → Hp → V → Prop := fun vs H z => ∃ (n : Int), AllP [isV (.int n)] vs H ∧ (True) ∧ z = .bl true
def sp__law_whole (K : PySem.W.Frag) : Sp := spV  1 (R__law_whole K)
theorem ev__law_whole {K : PySem.W.Frag} {σ : L2.St} {H : Hp} {tr : TA} {E : XK} {n : Int} (h : EvAG tr σ H [isV (.int n)])  : Ev (tCallO (sp__law_whole K) E tr) σ H (.bl true) := ev_callG h rfl fun vs H1 e hp => ⟨n, hp, trivial, rfl⟩

theorem ok__law_whole (T : Txt K mg) : OkF P w K mg base CX0 "_law_whole" 1 (sp__law_whole K) := by
  refine OkF.of T.d__law_whole sc__law_whole (fun vs H Q E h => h.1) (fun f cdv A outer s H vs Q E hr h => ?_)
  obtain ⟨-, z, H0, e0, ⟨n, ⟨v0, r0, rfl, rfl, rfl⟩, -, rfl⟩, k⟩ := h
  clear e0 H0
  have hu := hu_of hr
  refine ⟨_, (pss_one (ps_ret (pe_and (pe_callB (kcall_isi (K := K)) (by rfl) T.z_isinstance (by decide +kernel) (pa_cons (pv 0) (pa_cons (pe_bltn (v := .ty "int") (by rfl) T.z_int (by decide +kernel) rfl) pa_nil))) (pe_one (pe_not (pe_callB (kcall_isi (K := K)) (by rfl) T.z_isinstance (by decide +kernel) (pa_cons (pv 0) (pa_cons (pe_bltn (v := .ty "bool") (by rfl) T.z_bool (by decide +kernel) rfl) pa_nil)))))))), ?_⟩
  exact s_ret2 (Ev.is (ev_andV (ev_isiI (b := true) (ev_var rfl) ev_c (by decide +kernel)) (fun hb43 => (ev_notV (ev_isiI (b := false) (ev_var rfl) ev_c (by decide +kernel))))) rfl) k

def R__law_can (K : PySem.W.Frag) : List V → Hp → V → Prop := fun vs H z => ∃ (t o : List Row) (w : Nat), AllP [isL K (Txts t), isL K (Txts o)] vs H ∧ ((TpOk t w) ∧ (TpOk o w) ∧ (w ≤ 4) ∧ True) ∧ z = .bl (overB t o)
def sp__law_can (K : PySem.W.Frag) : Sp := spV  2 (R__law_can K)
theorem ev__law_can {K : PySem.W.Frag} {σ : L2.St} {H : Hp} {tr : TA} {E : XK} {t o : List Row} {w : Nat} (h : EvAG tr σ H [isL K (Txts t), isL K (Txts o)]) (p0 : TpOk t w) (p1 : TpOk o w) (p2 : w ≤ 4) : Ev (tCallO (sp__law_can K) E tr) σ H (.bl (overB t o)) := ev_callG h rfl fun vs H1 e hp => ⟨t, o, w, hp, ⟨p0, p1, p2, trivial⟩, rfl⟩

theorem ok__law_can (T : Txt K mg) : OkF P w K mg base CX0 "_law_can" 2 (sp__law_can K) := by
  have O__law_over : OkF P w K mg base CX0 "_law_over" 1 (sp__law_over K) := ok__law_over T
  refine OkF.of T.d__law_can sc__law_can (fun vs H Q E h => h.1) (fun f cdv A outer s H vs Q E hr h => ?_)
  obtain ⟨-, z, H0, e0, ⟨t, o, w, ⟨v0, r0, rfl, ⟨a0, rfl, q0⟩, ⟨v1, r1, rfl, ⟨a1, rfl, q1⟩, rfl⟩⟩, ⟨p0, p1, p2, -⟩, rfl⟩, k⟩ := h
  have h0 := exl e0 q0
  clear q0
  have h1 := exl e0 q1
  clear q1
  clear e0 H0
  have hu := hu_of hr
  refine ⟨_, (pss_one (ps_ret (pe_and (pe_cmpR op_eq (pe_callB (kcb_lenQ (K := K)) (by rfl) T.z_len (by decide +kernel) (pa_cons (pv 0) pa_nil)) (pe_callB (kcb_lenQ (K := K)) (by rfl) T.z_len (by decide +kernel) (pa_cons (pv 1) pa_nil)) (nomark _)) (pe_one (pe_callB (kcr_all (K := K) rfl) (by rfl) T.z_all (by decide +kernel) (pa_cons (pe_lc (own := [("_law_row", 2), ("_law_new", 3)]) (g := gTup K 2 (gCons (gName 2) (gCons (gName 3) gNil))) rfl sc__law_can.nd (kpi_zip (K := K) (by rfl) T.z_zip (pa_cons (pv 0) (pa_cons (pv 1) pa_nil))) (blkOk_by (N := N__law_can) (sc := defScope s__law_can) (by decide +kernel)) (fun _ _ _ _ _ => (pg_tup rfl (pgs_cons (pg_name (i := 2) sc__law_can.nd rfl (.inl rfl)) (pgs_cons (pg_name (i := 3) sc__law_can.nd rfl (.inl rfl)) pgs_nil)))) (fun _ _ _ _ _ => pts_nil) (fun _ _ _ _ _ => (pe_callO O__law_over hr (by rfl) pass0 (pa_cons (pv 2) (pa_cons (pv 3) pa_nil))))) pa_nil)))))), ?_⟩
  have hl : t.length ≤ 30 := p0.len
  have hz1 : ∀ p ∈ t.zip o, isRow p.1 (w : Int) = true := fun p h => p0.row _ (List.of_mem_zip h).1
  have hz2 : ∀ p ∈ t.zip o, isRow p.2 (w : Int) = true := fun p h => p1.row _ (List.of_mem_zip h).2
  exact s_ret2 (Ev.is (ev_andV (ev_eqI (ev_lenQ (q_old (ev_var rfl) (by walk_at "fact"))) (ev_lenQ (q_old (ev_var rfl) (by walk_at "fact")))) (fun hb45 => (ev_allQ (q_new (el_lc1 (i_zip (qa_old (ev_var rfl) (by walk_at "fact") trivial) (qa_old (ev_var rfl) (by walk_at "fact") trivial)) (by walk_at "len") (fun _ => wipe_two _ (by decide) _ _) (fun x44 hx44 H144 e144 => (ev__law_over (ag_V (ev_var rfl) (ag_V (ev_var rfl) ag_nil)) (by walk_at "side") (by walk_at "side") (by walk_at "side")))))))) rfl) k

def R__law_ahead (K : PySem.W.Frag) : List V → Hp → V → Prop := fun vs H z => ∃ (rd : Dic) (w : Nat) (t : List Row) (x : Row) (u : List Row), AllP [isD (DS rd), isL K (Txts t), isV (VS x), isL K (Txts u)] vs H ∧ ((RdOk rd w) ∧ (TpOk t w) ∧ (TxOk x) ∧ (TpOk u w) ∧ (overB t u = true) ∧ (textOf rd u = x) ∧ True) ∧ z = .int (rank rd t x u)
def sp__law_ahead (K : PySem.W.Frag) : Sp := spV  4 (R__law_ahead K)
theorem ev__law_ahead {K : PySem.W.Frag} {σ : L2.St} {H : Hp} {tr : TA} {E : XK} {rd : Dic} {w : Nat} {t : List Row} {x : Row} {u : List Row} (h : EvAG tr σ H [isD (DS rd), isL K (Txts t), isV (VS x), isL K (Txts u)]) (p0 : RdOk rd w) (p1 : TpOk t w) (p2 : TxOk x) (p3 : TpOk u w) (p4 : overB t u = true) (p5 : textOf rd u = x) : Ev (tCallO (sp__law_ahead K) E tr) σ H (.int (rank rd t x u)) := ev_callG h rfl fun vs H1 e hp => ⟨rd, w, t, x, u, hp, ⟨p0, p1, p2, p3, p4, p5, trivial⟩, rfl⟩

theorem ok__law_ahead (T : Txt K mg) : OkF P w K mg base CX0 "_law_ahead" 4 (sp__law_ahead K) := by
  have O__law_letters_above : OkF P w K mg base CX0 "_law_letters_above" 2 (sp__law_letters_above K) := ok__law_letters_above T
  have O__law_reads : OkF P w K mg base CX0 "_law_reads" 2 (sp__law_reads K) := ok__law_reads T
  have O__law_many : OkF P w K mg base CX0 "_law_many" 3 (sp__law_many K) := ok__law_many T
  refine OkF.of T.d__law_ahead sc__law_ahead (fun vs H Q E h => h.1) (fun f cdv A outer s H vs Q E hr h => ?_)
  obtain ⟨-, z, H0, e0, ⟨rd, w, t, x, u, ⟨v0, r0, rfl, ⟨a0, rfl, q0⟩, ⟨v1, r1, rfl, ⟨a1, rfl, q1⟩, ⟨v2, r2, rfl, rfl, ⟨v3, r3, rfl, ⟨a3, rfl, q3⟩, rfl⟩⟩⟩⟩, ⟨p0, p1, p2, p3, p4, p5, -⟩, rfl⟩, k⟩ := h
  have h0 := exh e0 q0
  clear q0
  have h1 := exl e0 q1
  clear q1
  have h3 := exl e0 q3
  clear q3
  clear e0 H0
  have hu := hu_of hr
  refine ⟨_, (pss_cons (ps_set (i := 6) sc__law_ahead.nd rfl (.inl rfl) pe_int)
 (pss_cons (ps_for PassesOwn.never rfl (kpi_enum (K := K) (by rfl) T.z_enumerate (pa_cons (pv 1) pa_nil)) (pg_tup rfl (pgs_cons (pg_name (i := 4) sc__law_ahead.nd rfl (.inl rfl)) (pgs_cons (pg_name (i := 9) sc__law_ahead.nd rfl (.inl rfl)) pgs_nil)))
  (pss_cons (ps_set (i := 8) sc__law_ahead.nd rfl (.inl rfl) (pe_callB cb_lenS (by rfl) T.z_len (by decide +kernel) (pa_cons (pe_callO O__law_reads hr (by rfl) pass0 (pa_cons (pv 0) (pa_cons (pe_slice (ksl_list (K := K)) (pv 3) po_none (po_some (pv 4))) pa_nil))) pa_nil)))
 (pss_one (ps_for PassesOwn.never rfl (kpi_list (K := K) (pe_callO O__law_letters_above hr (by rfl) pass0 (pa_cons (pv 0) (pa_cons (pv 9) pa_nil)))) (pg_tup rfl (pgs_cons (pg_name (i := 7) sc__law_ahead.nd rfl (.inl rfl)) (pgs_cons (pg_name (i := 5) sc__law_ahead.nd rfl (.inl rfl)) pgs_nil)))
  (pss_one (ps_if (PW.pt (pw_and (pt_cmpR op_lt_str (pv 7) (pe_ix (kix_list (K := K)) (pv 3) (pv 4) (fun _ _ => rfl)) (nomark _)) (pw_and1 (pt_cmpR op_eq (pe_slice sl_str (pv 2) (po_some (pv 8)) (po_some (pe_op op_add (pv 8) (pe_callB cb_lenS (by rfl) T.z_len (by decide +kernel) (pa_cons (pv 5) pa_nil))))) (pv 5) (nomark _)))))
  (pss_one (ps_aug (i := 6) sc__law_ahead.nd rfl (.inl rfl) (pe_callO O__law_many hr (by rfl) pass0 (pa_cons (pv 0) (pa_cons (pe_slice (ksl_list (K := K)) (pv 1) (po_some (pe_op op_add (pv 4) pe_int)) po_none) (pa_cons (pe_slice sl_str (pv 2) (po_some (pe_op op_add (pv 8) (pe_callB cb_lenS (by rfl) T.z_len (by decide +kernel) (pa_cons (pv 5) pa_nil)))) po_none) pa_nil)))) ip_add))
  pss_nil))))))
 (pss_one (ps_ret (pv 6))))), ?_⟩
  have hxl := p2.len
  have htl := p1.len
  have hul := p3.len
  have hw := p0.w4
  have hto := overB_len p4
  refine q_asg ev_c fun H1 e1 => ?_
  refine q_for (s := []) (i_enum (qa_old (ev_var rfl) (by walk_at "fact") (by walk_at "adm"))) (by simp) fun H2 e2 => ⟨fun i σ' H' => ∃ y1 y2 y3 y4 y5 f, σ' = [some (.ref a0), some (.ref a1), some (VS x), some (.ref a3), y1, y2, some (.int f), y3, y4, y5] ∧
      Ex H2 H' ∧ rank rd t x u = f + rank rd (t.drop i) (textOf rd (u.drop i)) (u.drop i),
    ⟨none, none, none, none, none, 0, rfl, Ex.refl _, by simp [p5]⟩, fun i σ' H' ⟨_, _, _, _, _, _, _, x, _⟩ => Ex.xb x, ?_, ?_⟩
  · rintro i ⟨r, i'⟩ σ' H3 H4 hi ⟨y1, y2, y3, y4, y5, f, rfl, hx, hU⟩ e4
    obtain ⟨rfl, hi⟩ := zipIdx_at hi
    have hil := (List.getElem?_eq_some_iff.mp hi).1
    have hr := p1.row r (List.mem_of_getElem? hi)
    have hr4 : r.length ≤ 4 := by have := isRow_len hr; omega
    have hdr : t.drop i' = r :: t.drop (i' + 1) := by
      rw [List.drop_eq_getElem_cons hil]
      obtain ⟨_, e⟩ := List.getElem?_eq_some_iff.mp hi
      rw [e]
    obtain ⟨q, hq⟩ : ∃ q, u[i']? = some q := ⟨_, List.getElem?_eq_getElem (show i' < u.length by omega)⟩
    have hoil : i' < u.length := by omega
    have hdo : u.drop i' = q :: u.drop (i' + 1) := by
      rw [List.drop_eq_getElem_cons hoil]
      obtain ⟨_, e⟩ := List.getElem?_eq_some_iff.mp hq
      rw [e]
    have hqa : q ∈ aboveL r := mem_aboveL hw hr (p3.row q (List.mem_of_getElem? hq)) (overB_at p4 hi hq)
    have hgq : u.getD (i' : Int).toNat [] = q := by
      show u.getD i' [] = q
      rw [List.getD_eq_getElem?_getD, hq]
      rfl
    have hsp := textOf_split rd u i'
    rw [p5] at hsp
    have hct : cutG u none (some (i' : Int)) = u.take i' := by rw [cutG_to _ (by omega)]; rfl
    have hcl : (cutG u none (some (i' : Int))).length ≤ 30 := by rw [hct, List.length_take]; omega
    have hRl : (textOf rd (cutG u none (some (i' : Int)))).length ≤ 30 := Nat.le_trans (textOf_len p0 _) hcl
    have hRl2 : (textOf rd (cutG u none (some (i' : Int)))).length ≤ 100000 := by omega
    have hD4 : H4 a0 = some (.dK (DS rd)) := exh ((e1.trans e2).trans (hx.trans e4)) h0
    have ht4 : SL K H4 a1 (Txts t) := exl ((e1.trans e2).trans (hx.trans e4)) h1
    have hu4 : SL K H4 a3 (Txts u) := exl ((e1.trans e2).trans (hx.trans e4)) h3
    refine q_asg (Ev.is (ev_lenS (ev__law_reads (ag_D (g_Dold (ev_var rfl) (by walk_at "facth")) (ag_L (q_new (el_slQ (q_old (ev_var rfl) (by walk_at "fact")) eo_none (eo_some (ev_var rfl)))) ag_nil)) (by walk_at "side") (by walk_at "side")) (by walk_at "side")) (by rw [hct])) fun H5 e5 => ?_
    rw [hdr, hsp] at hU
    have hm1 : (textOf rd (u.take i')).length ≤ x.length := by
      rw [← p5]
      conv => rhs; rw [← List.take_append_drop i' u, textOf_app, List.length_append]
      omega
    have hhd : mean rd q ++ textOf rd (u.drop (i' + 1)) = x.drop (textOf rd (u.take i')).length := by rw [← hsp, hdo]; rfl
    generalize (textOf rd (u.take i')).length = m at *
    refine s_for (s := []) (i_arrT (fun _ => rfl) (ev__law_letters_above (ag_D (g_Dold (ev_var rfl) (by walk_at "facth")) (ag_V (ev_var rfl) ag_nil)) (by walk_at "side") (by walk_at "side"))) (by simp) fun H6 e6 => ⟨fun j σ' H' => ∃ y2 y3, σ' = [some (.ref a0), some (.ref a1), some (VS x), some (.ref a3), some (.int (i' : Nat)), y2, some (.int (f + (((aboveL r).take j).map fun o => if decide (o < q) then stp rd (t.drop (i' + 1)) (x.drop m) o else 0).sum)), y3, some (.int (m : Int)), some (VS r)] ∧ Ex H6 H',
      ⟨y2, y3, by rw [show f + (((aboveL r).take 0).map fun o => if decide (o < q) then stp rd (t.drop (i' + 1)) (x.drop m) o else 0).sum = f from Int.add_zero f]; rfl, Ex.refl _⟩, fun j σ' H' ⟨_, _, _, x⟩ => Ex.xb x, ?_, ?_⟩
    · rintro j ⟨o, lt⟩ σ' H7 H8 hj ⟨y2, y3, rfl, e7⟩ e8
      have hj2 : (aboveL r)[j]? = some o ∧ lt = mean rd o := by
        unfold lettersA at hj
        rw [List.getElem?_map] at hj
        cases h : (aboveL r)[j]? with
        | none => rw [h] at hj; cases hj
        | some o' =>
          rw [h] at hj
          have := Option.some.inj hj
          exact ⟨by rw [← (Prod.mk.inj this).1], by rw [← (Prod.mk.inj this).2, (Prod.mk.inj this).1]⟩
      obtain ⟨hj3, rfl⟩ := hj2
      have htk : (((aboveL r).take (j + 1)).map fun o => if decide (o < q) then stp rd (t.drop (i' + 1)) (x.drop m) o else 0).sum = (((aboveL r).take j).map fun o => if decide (o < q) then stp rd (t.drop (i' + 1)) (x.drop m) o else 0).sum + (if decide (o < q) then stp rd (t.drop (i' + 1)) (x.drop m) o else 0) := by
        rw [List.take_succ, hj3, List.map_append, List.sum_append]
        simp
      have e48 := (e5.trans e6).trans (e7.trans e8)
      have hD8 := exh e48 hD4
      have ht8 := exl e48 ht4
      have hu8 := exl e48 hu4
      have hml := mean_len p0 o
      have hoi : (i' : Int) < (u.length : Int) := by omega
      refine s_when (EvT.is (et_and (et_test (ev_ltS (ev_var rfl) (ev_ixQ ([] : Row) (q_old (ev_var rfl) (by walk_at "fact")) (ev_var rfl) (by walk_at "side") (by walk_at "side")))) (fun hb46 => (et_test (ev_eqS (ev_slS (ev_var rfl) (eo_some (ev_var rfl)) (eo_some (ev_add (ev_var rfl) (ev_lenS (ev_var rfl) (by walk_at "side")))) (by walk_at "side")) (ev_var rfl))))) (by rw [hgq, fits_eq2])) (fun hb H9 e9 => ?_) (fun hb H9 e9 => ?_)
      · have hb : (decide (o < q) && fits rd (x.drop m) o) = true := hb
        rw [Bool.and_eq_true] at hb
        have hcx : cutG x (some ((m : Int) + ((mean rd o).length : Int))) none = x.drop (m + (mean rd o).length) := by
          rw [cutG_from _ (by omega)]
          congr 1
        have hct2 : cutG t (some ((i' : Int) + 1)) none = t.drop (i' + 1) := by
          rw [cutG_from _ (by omega)]
          congr 1
        have htp : TpOk (cutG t (some ((i' : Int) + 1)) none) w := by rw [hct2]; exact p1.drop _
        have hxc : (cutG x (some ((m : Int) + ((mean rd o).length : Int))) none).length ≤ 30 := by rw [hcx, List.length_drop]; omega
        refine s_aug rfl (ev__law_many (ag_D (g_Dold (ev_var rfl) (by walk_at "facth")) (ag_L (q_new (el_slQ (q_old (ev_var rfl) (by walk_at "fact")) (eo_some (ev_add (ev_var rfl) ev_c)) eo_none)) (ag_V (ev_slS (ev_var rfl) (eo_some (ev_add (ev_var rfl) (ev_lenS (ev_var rfl) (by walk_at "side")))) eo_none (by walk_at "side")) ag_nil))) (by walk_at "side") (by walk_at "side") (by walk_at "side")) fun H10 e10 => ⟨some (VS (mean rd o)), some (VS o), ?_, ((e7.trans e8).trans e9).trans e10⟩
        rw [htk, hct2, hcx, drop2 x, ← stp_T hb.2, hb.1, if_pos rfl, ← Int.add_assoc]
        rfl
      · have hb : (decide (o < q) && fits rd (x.drop m) o) = false := hb
        have hz : (if decide (o < q) then stp rd (t.drop (i' + 1)) (x.drop m) o else 0) = 0 := by
          cases hlt : decide (o < q) with
          | false => rfl
          | true =>
            rw [hlt, Bool.true_and] at hb
            rw [if_pos rfl]
            exact stp_F hb
        refine ⟨some (VS (mean rd o)), some (VS o), ?_, (e7.trans e8).trans e9⟩
        rw [htk, hz, Int.add_zero]
        rfl
    · rintro σ' H7 ⟨y2, y3, rfl, e7⟩
      have hlen : (lettersA rd r).length = (aboveL r).length := by unfold lettersA; rw [List.length_map]
      refine ⟨_, _, _, _, _, _, rfl, (hx.trans e4).trans ((e5.trans e6).trans e7), ?_⟩
      rw [hU, hdo, hlen, List.take_length, sum_lt (aboveL_lt hr4) hqa]
      show f + (bef _ _ _ + rank _ _ _ _) = _
      rw [← Int.add_assoc, ← hhd, List.drop_left]
  · rintro σ' H3 ⟨y1, y2, y3, y4, y5, f, rfl, hx, hU⟩
    have hU : rank rd t x u = f + rank rd (t.drop t.zipIdx.length) (textOf rd (u.drop t.zipIdx.length)) (u.drop t.zipIdx.length) := hU
    rw [List.length_zipIdx, List.drop_length] at hU
    refine s_ret2 (Ev.is (ev_var rfl) ?_) (RetV.ex k ((e1.trans e2).trans hx))
    rw [hU]
    unfold rank
    rw [Int.add_zero]

def R__law_ways_right (K : PySem.W.Frag) : List V → Hp → V → Prop := fun vs H z => ∃ (rd : Dic) (w : Nat) (t : List Row) (x : Row) (ns : List Int), AllP [isD (DS rd), isL K (Txts t), isV (VS x), isL K (Ints ns)] vs H ∧ ((RdOk rd w) ∧ (TpOk t w) ∧ (TxOk x) ∧ (ns.length ≤ 30) ∧ True) ∧ z = .bl true
def sp__law_ways_right (K : PySem.W.Frag) : Sp := spV  4 (R__law_ways_right K)
theorem ev__law_ways_right {K : PySem.W.Frag} {σ : L2.St} {H : Hp} {tr : TA} {E : XK} {rd : Dic} {w : Nat} {t : List Row} {x : Row} {ns : List Int} (h : EvAG tr σ H [isD (DS rd), isL K (Txts t), isV (VS x), isL K (Ints ns)]) (p0 : RdOk rd w) (p1 : TpOk t w) (p2 : TxOk x) (p3 : ns.length ≤ 30) : Ev (tCallO (sp__law_ways_right K) E tr) σ H (.bl true) := ev_callG h rfl fun vs H1 e hp => ⟨rd, w, t, x, ns, hp, ⟨p0, p1, p2, p3, trivial⟩, rfl⟩

theorem ok__law_ways_right (T : Txt K mg) : OkF P w K mg base CX0 "_law_ways_right" 5 (sp__law_ways_right K) := by
  have O_ways : OkF P w K mg base CX0 "ways" 4 (sp_ways K) := ok_ways T
  have O__law_many : OkF P w K mg base CX0 "_law_many" 3 (sp__law_many K) := ok__law_many T
  have O_way_by : OkF P w K mg base CX0 "way_by" 4 (sp_way_by K) := ok_way_by T
  have O_number_of : OkF P w K mg base CX0 "number_of" 4 (sp_number_of K) := ok_number_of T
  have O__law_whole : OkF P w K mg base CX0 "_law_whole" 1 (sp__law_whole K) := ok__law_whole T
  have O__law_can : OkF P w K mg base CX0 "_law_can" 2 (sp__law_can K) := ok__law_can T
  have O__law_reads : OkF P w K mg base CX0 "_law_reads" 2 (sp__law_reads K) := ok__law_reads T
  have O__law_ahead : OkF P w K mg base CX0 "_law_ahead" 4 (sp__law_ahead K) := ok__law_ahead T
  refine OkF.of T.d__law_ways_right sc__law_ways_right (fun vs H Q E h => h.1) (fun f cdv A outer s H vs Q E hr h => ?_)
  obtain ⟨-, z, H0, e0, ⟨rd, w, t, x, ns, ⟨v0, r0, rfl, ⟨a0, rfl, q0⟩, ⟨v1, r1, rfl, ⟨a1, rfl, q1⟩, ⟨v2, r2, rfl, rfl, ⟨v3, r3, rfl, ⟨a3, rfl, q3⟩, rfl⟩⟩⟩⟩, ⟨p0, p1, p2, p3, -⟩, rfl⟩, k⟩ := h
  have h0 := exh e0 q0
  clear q0
  have h1 := exl e0 q1
  clear q1
  have h3 := exl e0 q3
  clear q3
  clear e0 H0
  have hu := hu_of hr
  refine ⟨_, (pss_cons (ps_asg (pe_tup (pa_cons (pe_callTy (kct_list (K := K)) (by rfl) T.z_list (by decide +kernel) (pa_cons (pv 1) pa_nil)) (pa_cons (pe_callTy ct_dict (by rfl) T.z_dict (by decide +kernel) (pa_cons (pv 0) pa_nil)) (pa_cons (pe_callO O__law_many hr (by rfl) pass0 (pa_cons (pv 0) (pa_cons (pv 1) (pa_cons (pv 2) pa_nil)))) pa_nil)))) (pg_tup rfl (pgs_cons (pg_name (i := 7) sc__law_ways_right.nd rfl (.inl rfl)) (pgs_cons (pg_name (i := 6) sc__law_ways_right.nd rfl (.inl rfl)) (pgs_cons (pg_name (i := 4) sc__law_ways_right.nd rfl (.inr rfl)) pgs_nil)))))
 (pss_cons (ps_set (i := 8) sc__law_ways_right.nd rfl (.inl rfl) (pe_callO O_ways hr (by rfl) pass0 (pa_cons (pv 6) (pa_cons (pv 7) (pa_cons (pv 2) pa_nil)))))
 (pss_cons (ps_if (PW.pt (pw_or (pt_not (pt_val (pe_callO O__law_whole hr (by rfl) pass0 (pa_cons (pv 8) pa_nil)))) (pw_or (pt_cmpR op_ne (pv 8) (pv 4) (nomark _)) (pw_or (pt_cmpR (kop_neD (K := K) hr.units) (pv 7) (pv 1) (nomark _)) (pw_or1 (pt_cmpR (op_ne_dict hr.units0) (pv 6) (pv 0) (nomark _)))))))
  (pss_one (ps_ret pe_bl))
  pss_nil)
 (pss_cons (ps_for PassesOwn.never rfl (kpi_list (K := K) (pe_ifExp (pt_cmpR op_gt (pv 4) pe_int (nomark _)) (pe_op op_cat (pe_lc (own := [("_law_number", 9)]) (g := gName 9) rfl sc__law_ways_right.nd (kpi_list (K := K) (pv 3)) (blkOk_by (N := N__law_ways_right) (sc := defScope s__law_ways_right) (by decide +kernel)) (fun _ _ _ _ _ => (pg_name (i := 9) sc__law_ways_right.nd rfl (.inl rfl))) (fun _ _ _ _ _ => pts_nil) (fun _ _ _ _ _ => (pe_op op_mod (pv 9) (pv 4)))) (pe_lst (pa_cons pe_int (pa_cons (pe_op op_sub (pv 4) pe_int) pa_nil)))) (pe_lst pa_nil))) (pg_name (i := 9) sc__law_ways_right.nd rfl (.inl rfl))
  (pss_cons (ps_set (i := 5) sc__law_ways_right.nd rfl (.inl rfl) (pe_callO O_way_by hr (by rfl) pass0 (pa_cons (pv 6) (pa_cons (pv 7) (pa_cons (pv 2) (pa_cons (pv 9) pa_nil))))))
 (pss_cons (ps_if (PW.pt (pw_or (pt_not (pt_val (pe_callB (kcall_isi (K := K)) (by rfl) T.z_isinstance (by decide +kernel) (pa_cons (pv 5) (pa_cons (pe_bltn (v := .ty "list") (by rfl) T.z_list (by decide +kernel) rfl) pa_nil))))) (pw_or (pt_not (pt_val (pe_callO O__law_can hr (by rfl) pass0 (pa_cons (pv 1) (pa_cons (pv 5) pa_nil))))) (pw_or1 (pt_cmpR op_ne (pe_callO O__law_reads hr (by rfl) pass0 (pa_cons (pv 0) (pa_cons (pv 5) pa_nil))) (pv 2) (nomark _))))))
  (pss_one (ps_ret pe_bl))
  pss_nil)
 (pss_cons (ps_set (i := 10) sc__law_ways_right.nd rfl (.inl rfl) (pe_callO O_number_of hr (by rfl) pass0 (pa_cons (pv 6) (pa_cons (pv 7) (pa_cons (pv 2) (pa_cons (pe_callTy (kct_list (K := K)) (by rfl) T.z_list (by decide +kernel) (pa_cons (pv 5) pa_nil)) pa_nil))))))
 (pss_cons (ps_if (PW.pt (pw_or (pt_not (pt_val (pe_callO O__law_whole hr (by rfl) pass0 (pa_cons (pv 10) pa_nil)))) (pw_or (pt_cmpR op_ne (pv 10) (pv 9) (nomark _)) (pw_or1 (pt_cmpR op_ne (pe_callO O__law_ahead hr (by rfl) pass0 (pa_cons (pv 0) (pa_cons (pv 1) (pa_cons (pv 2) (pa_cons (pv 5) pa_nil))))) (pv 9) (nomark _))))))
  (pss_one (ps_ret pe_bl))
  pss_nil)
 (pss_cons (ps_if (PW.pt (pw_and (pt_cmpR op_lt (pe_op op_add (pv 9) pe_int) (pv 4) (nomark _)) (pw_and1 (pt_cmpR (kop_leD (K := K) hr.units) (pe_callO O_way_by hr (by rfl) pass0 (pa_cons (pv 6) (pa_cons (pv 7) (pa_cons (pv 2) (pa_cons (pe_op op_add (pv 9) pe_int) pa_nil))))) (pv 5) (nomark _)))))
  (pss_one (ps_ret pe_bl))
  pss_nil)
 (pss_cons (ps_expr (pe_bm PySem.F.plainAttrs_list PySem.F.slot_list_append PySem.F.type_list_append mt_append (pv 5) (pa_cons pe_str pa_nil)))
 (pss_one (ps_if (pt_cmpR op_ne (pe_callB (kcb_lenQ (K := K)) (by rfl) T.z_len (by decide +kernel) (pa_cons (pe_callO O_way_by hr (by rfl) pass0 (pa_cons (pv 6) (pa_cons (pv 7) (pa_cons (pv 2) (pa_cons (pv 9) pa_nil))))) pa_nil)) (pe_callB (kcb_lenQ (K := K)) (by rfl) T.z_len (by decide +kernel) (pa_cons (pv 1) pa_nil)) (nomark _))
  (pss_one (ps_ret pe_bl))
  pss_nil)))))))))
 (pss_one (ps_ret (pe_and (pe_cmpR (kop_eqD (K := K) hr.units) (pv 7) (pv 1) (nomark _)) (pe_one (pe_cmpR (op_eq_dict hr.units0) (pv 6) (pv 0) (nomark _)))))))))), ?_⟩
  have hw := p0.w4
  have hxl := p2.len
  have htl := p1.len
  have hsm := p1.small
  have heq := dEq_self p0.nd
  refine q_tup3 (ag_NL (el_listQ (q_old (ev_var rfl) (by walk_at "fact"))) (ag_ND (ed_dict (g_Dold (ev_var rfl) (by walk_at "facth"))) (ag_V (ev__law_many (ag_D (g_Dold (ev_var rfl) (by walk_at "facth")) (ag_L (q_old (ev_var rfl) (by walk_at "fact")) (ag_V (ev_var rfl) ag_nil))) (by walk_at "side") (by walk_at "side") (by walk_at "side")) ag_nil))) mon_NL mon_ND (mon_V _) fun v1 v2 v3 H1 e1 g1 g2 g3 => ?_
  obtain ⟨hd, rfl, hhd0, hhd⟩ := g1
  obtain ⟨gv, rfl, hgv0, hgv⟩ := g2
  obtain rfl := g3
  refine q_asg (ev_ways (ag_D (g_Dold (ev_var rfl) (by walk_at "facth")) (ag_L (q_old (ev_var rfl) (by walk_at "fact")) (ag_V (ev_var rfl) ag_nil))) (by walk_at "side") (by walk_at "side") (by walk_at "side")) fun H2 e2 => ?_
  refine q_skip (EvT.is (et_or (et_not (et_B (ev__law_whole (ag_V (ev_var rfl) ag_nil)))) (fun hb49 => (et_or (et_test (ev_neI (ev_var rfl) (ev_var rfl))) (fun hb48 => (et_or (et_test (ev_neLS (q_old (ev_var rfl) (by walk_at "fact")) (q_old (ev_var rfl) (by walk_at "fact")) (by walk_at "side") (by walk_at "side"))) (fun hb47 => (et_test (ev_neD (g_Dold (ev_var rfl) (by walk_at "facth")) (g_Dold (ev_var rfl) (by walk_at "facth")))))))))) (by simp [heq])) fun H3 e3 => ?_
  have hnums : (if decide (0 < W rd t x) = true then (ns.map fun n => V.int (n % W rd t x)) ++ List.map V.int [0, W rd t x - 1] else []) = Ints (nums ns (W rd t x)) := by
    unfold nums
    split
    · unfold Ints
      rw [List.map_append, List.map_map]
      rfl
    · rfl
  have hsz : (ns.map fun n => V.int (n % W rd t x)).length + (List.map V.int [0, W rd t x - 1]).length ≤ 100000 := by
    rw [List.length_map]
    simp
    omega
  have hh3 : SL K H3 hd (Txts t) := slof (e3 _ _ (e2 _ _ hhd))
  have hg3 : H3 gv = some (.dK (DS rd)) := e3 _ _ (e2 _ _ hgv)
  have eb := (e1.trans e2).trans e3
  refine q_for (s := []) (i_list (qa_new (EvL.is (w := (Ints (nums ns (W rd t x)))) (el_ifL (et_test (ev_gt (ev_var rfl) ev_c)) (fun hb51 => (el_cat2 (h_new (el_lc1 (i_list (qa_old (ev_var rfl) (by walk_at "fact") trivial)) (by walk_at "len") (fun _ => wipe_one _ _ _) (fun x50 hx50 H150 e150 => (ev_mod (ev_var rfl) (ev_var rfl) (by walk_at "side"))))) (h_new (el_lst (emI_cons ev_c (emI_cons (ev_sub (ev_var rfl) ev_c) emI_nil)) (by simp))) (by walk_at "side"))) (fun hb51 => el_nil)) (by walk_at "side")))) (by simp) fun H4 e4 => ⟨fun i σ' H' => ∃ y1 y2 y3, σ' = [some (.ref a0), some (.ref a1), some (VS x), some (.ref a3), some (.int (W rd t x)), y1, some (.ref gv), some (.ref hd), some (.int (W rd t x)), y2, y3] ∧ Ex H4 H',
    ⟨none, none, none, rfl, Ex.refl _⟩, fun i σ' H' ⟨_, _, _, _, x⟩ => Ex.xb x, ?_, ?_⟩
  · rintro i n σ' H5 H6 hi ⟨y1, y2, y3, rfl, hx⟩ e6
    obtain ⟨hn0, hn1⟩ := nums_mem n (List.mem_of_getElem? hi)
    have e36 := e4.trans (hx.trans e6)
    have hh6 := exl e36 hh3
    have hg6 := exh e36 hg3
    have hD6 := exh (eb.trans e36) h0
    have ht6 := exl (eb.trans e36) h1
    refine q_asgL (ev_way_by (ag_D (g_Dold (ev_var rfl) (by walk_at "facth")) (ag_L (q_old (ev_var rfl) (by walk_at "fact")) (ag_V (ev_var rfl) (ag_V (ev_var rfl) ag_nil)))) (by walk_at "side") (by walk_at "side") (by walk_at "side") (by walk_at "side") (by walk_at "side")) fun f H7 hf0 e7 hf => ?_
    have uo := U_ok (W_all p1 hw) hn0 hn1
    obtain ⟨hut, huo⟩ := uo.tp p1
    have hul := uo.len
    have hur : rank rd t x (U rd t x n) = n := uo.rk
    have hux : textOf rd (U rd t x n) = x := uo.tx
    have hlt : n + 1 < W rd t x → ltT (U rd t x n) (U rd t x (n + 1)) = true := fun h => U_lt (W_all p1 hw) hn0 (by omega) h
    have hul30 : (U rd t x n).length ≤ 30 := by omega
    have hfS : SL K H7 f (Txts (U rd t x n)) := slof hf
    refine q_skip (EvT.is (et_or (et_not (et_B (ev_isiL (b := true) (q_old (ev_var rfl) (by walk_at "fact")) ev_c (by decide +kernel)))) (fun hb53 => (et_or (et_not (et_B (ev__law_can (ag_L (q_old (ev_var rfl) (by walk_at "fact")) (ag_L (q_old (ev_var rfl) (by walk_at "fact")) ag_nil)) (by walk_at "side") (by walk_at "side") (by walk_at "side")))) (fun hb52 => (et_test (ev_neS (ev__law_reads (ag_D (g_Dold (ev_var rfl) (by walk_at "facth")) (ag_L (q_old (ev_var rfl) (by walk_at "fact")) ag_nil)) (by walk_at "side") (by walk_at "side")) (ev_var rfl))))))) (by rw [huo, hux]; simp)) fun H8 e8 => ?_
    refine q_asg (Ev.is (ev_number_of (ag_D (g_Dold (ev_var rfl) (by walk_at "facth")) (ag_L (q_old (ev_var rfl) (by walk_at "fact")) (ag_V (ev_var rfl) (ag_L (q_new (el_listQ (q_old (ev_var rfl) (by walk_at "fact")))) ag_nil)))) (by walk_at "side") (by walk_at "side") (by walk_at "side") (by walk_at "side") (by walk_at "side") (by walk_at "side")) (by rw [hur])) fun H9 e9 => ?_
    refine q_skip (EvT.is (et_or (et_not (et_B (ev__law_whole (ag_V (ev_var rfl) ag_nil)))) (fun hb55 => (et_or (et_test (ev_neI (ev_var rfl) (ev_var rfl))) (fun hb54 => (et_test (ev_neI (ev__law_ahead (ag_D (g_Dold (ev_var rfl) (by walk_at "facth")) (ag_L (q_old (ev_var rfl) (by walk_at "fact")) (ag_V (ev_var rfl) (ag_L (q_old (ev_var rfl) (by walk_at "fact")) ag_nil)))) (by walk_at "side") (by walk_at "side") (by walk_at "side") (by walk_at "side") (by walk_at "side") (by walk_at "side")) (ev_var rfl))))))) (by rw [hur]; simp)) fun H10 e10 => ?_
    refine q_skip (EvT.is (et_and (et_test (ev_lt (ev_add (ev_var rfl) ev_c) (ev_var rfl))) (fun hb56 => (et_test (ev_leLS (q_new (ev_way_by (ag_D (g_Dold (ev_var rfl) (by walk_at "facth")) (ag_L (q_old (ev_var rfl) (by walk_at "fact")) (ag_V (ev_var rfl) (ag_V (ev_add (ev_var rfl) ev_c) ag_nil)))) (by walk_at "side") (by walk_at "side") (by walk_at "side") (by walk_at "side") (by walk_at "side"))) (q_old (ev_var rfl) (by walk_at "fact")))))) (by
      show (decide (n + 1 < W rd t x) && !ltT (U rd t x n) (U rd t x (n + 1))) = false
      by_cases h : n + 1 < W rd t x
      · rw [hlt h]; simp
      · rw [decide_eq_false h]; rfl)) fun H11 e11 => ?_
    have hf11 : H11 f = some (.lst (Txts (U rd t x n))) := e11 _ _ (e10 _ _ (e9 _ _ (e8 _ _ hf)))
    refine q_app hf11 (ev_var rfl) (ev_cS lit_dot) (by unfold Txts; rw [List.length_map]; omega) fun H12 e12 => ?_
    have eX : Ex H6 (upd H12 f (.lst (Txts (U rd t x n) ++ [VS [46]]))) := Ex.xb0 (Ex.refl _) (Xb.upd (s := [f]) (Ex.xb ((((e7.trans e8).trans e9).trans e10).trans (e11.trans e12))) (by simp)) (fun a ha => by rw [List.mem_singleton.mp ha]; exact hf0)
    have hh12 := exl eX hh6
    have hg12 := exh eX hg6
    have ht12 := exl eX ht6
    refine s_skip (EvT.is (et_test (ev_neI (ev_lenQ (q_new (ev_way_by (ag_D (g_Dold (ev_var rfl) (by walk_at "facth")) (ag_L (q_old (ev_var rfl) (by walk_at "fact")) (ag_V (ev_var rfl) (ag_V (ev_var rfl) ag_nil)))) (by walk_at "side") (by walk_at "side") (by walk_at "side") (by walk_at "side") (by walk_at "side")))) (ev_lenQ (q_old (ev_var rfl) (by walk_at "fact"))))) (by rw [hul]; simp)) fun H13 e13 => ⟨_, _, _, rfl, ((hx.trans e6).trans eX).trans e13⟩
  · rintro σ' H5 ⟨y1, y2, y3, rfl, hx⟩
    have hh5 := exl (e4.trans hx) hh3
    have hg5 := exh (e4.trans hx) hg3
    have hD5 := exh (eb.trans (e4.trans hx)) h0
    have ht5 := exl (eb.trans (e4.trans hx)) h1
    exact s_ret2 (Ev.is (ev_andV (ev_eqLS (q_old (ev_var rfl) (by walk_at "fact")) (q_old (ev_var rfl) (by walk_at "fact")) (by walk_at "side") (by walk_at "side")) (fun hb57 => (ev_eqD (g_Dold (ev_var rfl) (by walk_at "facth")) (g_Dold (ev_var rfl) (by walk_at "facth"))))) (by simp [heq])) (RetV.ex k (eb.trans (e4.trans hx)))

def R_law (K : PySem.W.Frag) : List V → Hp → V → Prop := fun vs H z => ∃ (ns : List Int), AllP [isQ K (Ints ns)] vs H ∧ (True) ∧ z = .bl true
def sp_law (K : PySem.W.Frag) : Sp := spV  1 (R_law K)
theorem ev_law {K : PySem.W.Frag} {σ : L2.St} {H : Hp} {tr : TA} {E : XK} {ns : List Int} (h : EvAG tr σ H [isQ K (Ints ns)])  : Ev (tCallO (sp_law K) E tr) σ H (.bl true) := ev_callG h rfl fun vs H1 e hp => ⟨ns, hp, trivial, rfl⟩

theorem ok_law (T : Txt K mg) {fL : Addr} {fdL : FuncData} (F : Fun K "law" "law" s_law fL fdL) : FnOk P w K mg base CX0 6 fL fdL ["_law_script"] (sp_law K) := by
  have O__law_pool : OkF P w K mg base CX0 "_law_pool" 4 (sp__law_pool K) := ok__law_pool T
  have O__law_reader : OkF P w K mg base CX0 "_law_reader" 4 (sp__law_reader K) := ok__law_reader T
  have O__law_tape : OkF P w K mg base CX0 "_law_tape" 4 (sp__law_tape K) := ok__law_tape T
  have O__law_text : OkF P w K mg base CX0 "_law_text" 4 (sp__law_text K) := ok__law_text T
  have O__law_every : OkF P w K mg base CX0 "_law_every" 3 (sp__law_every K) := ok__law_every T
  have O_way_by : OkF P w K mg base CX0 "way_by" 4 (sp_way_by K) := ok_way_by T
  have O__law_width : OkF P w K mg base CX0 "_law_width" 1 (sp__law_width K) := ok__law_width T
  have O__law_digits : OkF P w K mg base CX0 "_law_digits" 3 (sp__law_digits K) := ok__law_digits T
  have O__law_reads : OkF P w K mg base CX0 "_law_reads" 2 (sp__law_reads K) := ok__law_reads T
  have O_ways : OkF P w K mg base CX0 "ways" 4 (sp_ways K) := ok_ways T
  have O__law_ways_right : OkF P w K mg base CX0 "_law_ways_right" 5 (sp__law_ways_right K) := ok__law_ways_right T
  refine F.ok sc_law (fun vs H Q E h => h.1) (fun cdv A outer s H vs Q E hr h => ?_)
  obtain ⟨-, z, H0, e0, ⟨ns, ⟨v0, r0, rfl, ⟨a0, rfl, q0⟩, rfl⟩, -, rfl⟩, k⟩ := h
  have h0 := Evl.ex_l e0 q0
  clear q0
  clear e0 H0
  have hu := hu_of hr
  refine ⟨_, (pss_cons (ps_set (i := 0) sc_law.nd rfl (.inl rfl) (pe_slice (ksl_list (K := K)) (pv 0) po_none (po_some pe_int)))
 (pss_cons (ps_set (i := 5) sc_law.nd rfl (.inl rfl) (pe_callO O__law_pool hr (by rfl) pass0 (pa_cons (pv 0) (pa_cons pe_int pa_nil))))
 (pss_cons (ps_for PassesOwn.never rfl (pi_range2 rfl T.z_range (pa_cons pe_int (pa_cons (pe_callB (cb_max2 rfl) (by rfl) T.z_max (by decide +kernel) (pa_cons pe_int (pa_cons (pe_callB (cb_min2 rfl) (by rfl) T.z_min (by decide +kernel) (pa_cons pe_int (pa_cons (pe_callB (kcb_lenQ (K := K)) (by rfl) T.z_len (by decide +kernel) (pa_cons (pv 0) pa_nil)) pa_nil))) pa_nil))) pa_nil))) (pg_name (i := 1) sc_law.nd rfl (.inl rfl))
  (pss_cons (ps_set (i := 6) sc_law.nd rfl (.inr rfl) (pe_callO O__law_reader hr (by rfl) pass0 (pa_cons (pv 0) (pa_cons (pv 1) (pa_cons (pv 5) (pa_cons pe_int pa_nil))))))
 (pss_cons (ps_par (i := 10) (j := 2) rfl sc_law.nd rfl rfl (by decide) rfl rfl (pa_cons (pe_callO O__law_width hr (by rfl) pass0 (pa_cons (pv 6) pa_nil)) (pa_cons (pe_callO O__law_digits hr (by rfl) pass0 (pa_cons (pv 0) (pa_cons (pe_op op_add (pv 1) pe_int) (pa_cons pe_int (pa_cons (pe_op op_add (pe_op op_pow pe_int pe_int) pe_int) pa_nil))))) pa_nil)) (by rfl))
 (pss_cons (ps_set (i := 8) sc_law.nd rfl (.inl rfl) (pe_callO O__law_tape hr (by rfl) pass0 (pa_cons (pv 0) (pa_cons (pe_op op_add (pv 1) pe_int) (pa_cons (pv 10) (pa_cons (pe_op op_mod (pe_ix (kix_list (K := K)) (pv 2) pe_int (fun _ _ => rfl)) pe_int) pa_nil))))))
 (pss_cons (ps_set (i := 9) sc_law.nd rfl (.inr rfl) (pe_callO O__law_text hr (by rfl) pass0 (pa_cons (pv 0) (pa_cons (pe_op op_add (pv 1) pe_int) (pa_cons (pv 5) (pa_cons (pe_op op_mod (pe_ix (kix_list (K := K)) (pv 2) pe_int (fun _ _ => rfl)) (pe_op op_add (pe_callB (kcb_lenQ (K := K)) (by rfl) T.z_len (by decide +kernel) (pa_cons (pv 8) pa_nil)) pe_int)) pa_nil))))))
 (pss_cons (ps_for PassesOwn.never rfl (kpi_tup (K := K) (pe_tup (pa_cons (pv 9) (pa_cons (pe_callO O__law_reads hr (by rfl) pass0 (pa_cons (pv 6) (pa_cons (pv 8) pa_nil))) (pa_cons (pe_slice sl_str (pv 9) (po_some pe_int) po_none) (pa_cons (pe_op op_mulS (pe_ix (kix_list (K := K)) (pv 5) (pe_op op_mod (pe_ix (kix_list (K := K)) (pv 2) pe_int (fun _ _ => rfl)) pe_int) (fun _ _ => rfl)) (pe_op op_mod (pe_ix (kix_list (K := K)) (pv 2) pe_int (fun _ _ => rfl)) pe_int)) (pa_cons pe_str pa_nil))))))) (pg_name (i := 7) sc_law.nd rfl (.inl rfl))
  (pss_one (ps_if (pt_not (pt_val (pe_callO O__law_ways_right hr (by rfl) pass0 (pa_cons (pv 6) (pa_cons (pv 8) (pa_cons (pv 7) (pa_cons (pe_slice (ksl_list (K := K)) (pv 2) (po_some pe_int) po_none) pa_nil)))))))
  (pss_one (ps_ret pe_bl))
  pss_nil)))
 (pss_cons (ps_set (i := 4) sc_law.nd rfl (.inr rfl) (pe_ifExp (pt_cmpR op_gt (pv 10) pe_int (nomark _)) (pe_slice (ksl_list (K := K)) (pv 8) po_none (po_some pe_int)) (pe_slice (ksl_list (K := K)) (pv 8) po_none (po_some pe_int))))
 (pss_cons (ps_set (i := 3) sc_law.nd rfl (.inl rfl) (pe_callO O__law_every hr (by rfl) pass0 (pa_cons (pv 6) (pa_cons (pv 4) (pa_cons (pe_slice sl_str (pv 9) po_none (po_some pe_int)) pa_nil)))))
 (pss_cons (ps_if (pt_cmpR (kop_neD (K := K) hr.units) (pe_lc (own := [("_law_at", 11)]) (g := gName 11) rfl sc_law.nd (pi_range1 rfl T.z_range (pa_cons (pe_callB (kcb_lenQ (K := K)) (by rfl) T.z_len (by decide +kernel) (pa_cons (pv 3) pa_nil)) pa_nil)) (blkOk_by (N := N_law) (sc := defScope s_law) (by decide +kernel)) (fun _ _ _ _ _ => (pg_name (i := 11) sc_law.nd rfl (.inl rfl))) (fun _ _ _ _ _ => pts_nil) (fun _ _ _ _ _ => (pe_callO O_way_by hr (by rfl) pass0 (pa_cons (pe_callTy ct_dict (by rfl) T.z_dict (by decide +kernel) (pa_cons (pv 6) pa_nil)) (pa_cons (pe_callTy (kct_list (K := K)) (by rfl) T.z_list (by decide +kernel) (pa_cons (pv 4) pa_nil)) (pa_cons (pe_slice sl_str (pv 9) po_none (po_some pe_int)) (pa_cons (pv 11) pa_nil))))))) (pv 3) (nomark _))
  (pss_one (ps_ret pe_bl))
  pss_nil)
 (pss_one (ps_if (pt_cmpR op_ne (pe_callO O_ways hr (by rfl) pass0 (pa_cons (pe_callTy ct_dict (by rfl) T.z_dict (by decide +kernel) (pa_cons (pv 6) pa_nil)) (pa_cons (pe_callTy (kct_list (K := K)) (by rfl) T.z_list (by decide +kernel) (pa_cons (pv 4) pa_nil)) (pa_cons (pe_slice sl_str (pv 9) po_none (po_some pe_int)) pa_nil)))) (pe_callB (kcb_lenQ (K := K)) (by rfl) T.z_len (by decide +kernel) (pa_cons (pv 3) pa_nil)) (nomark _))
  (pss_one (ps_ret pe_bl))
  pss_nil)))))))))))
 (pss_cons (ps_if (PW.pt (pw_or (pt_cmpR op_ne (pe_callO O_ways hr (by rfl) pass0 (pa_cons (pe_disp (pps_cons pe_str pe_str pps_nil) (by rfl) (by rfl) (fun z => by cases z) (by decide)) (pa_cons (pe_lst pa_nil) (pa_cons pe_str pa_nil)))) pe_int (nomark _)) (pw_or1 (pt_cmpR op_ne (pe_callO O_ways hr (by rfl) pass0 (pa_cons (pe_disp (pps_cons pe_str pe_str pps_nil) (by rfl) (by rfl) (fun z => by cases z) (by decide)) (pa_cons (pe_lst pa_nil) (pa_cons pe_str pa_nil)))) pe_int (nomark _)))))
  (pss_one (ps_ret pe_bl))
  pss_nil)
 (pss_one (ps_ret (pe_cmpR (kop_eqD (K := K) hr.units) (pe_callO O_way_by hr (by rfl) pass0 (pa_cons (pe_disp (pps_cons pe_str pe_str pps_nil) (by rfl) (by rfl) (fun z => by cases z) (by decide)) (pa_cons (pe_lst (pa_cons pe_str pa_nil)) (pa_cons pe_str (pa_cons pe_int pa_nil))))) (pe_lst (pa_cons pe_str pa_nil)) (nomark _)))))))), ?_⟩
  refine q_asgL (EvL.is (Evl.el_sl (ev_var rfl) eo_none (eo_some ev_c) h0) (cutV_map V.int ns none (some 63))) fun a1 H1 ha0 e1 ha => ?_
  generalize cutG ns none (some 63) = ms at ha
  have ha : SL K H1 a1 (Ints ms) := slof ha
  refine q_asgL (ev__law_pool (ag_L (q_old (ev_var rfl) (by walk_at "fact")) (ag_V ev_c ag_nil)) (by walk_at "side")) fun a2 H2 hb0 e2 hb => ?_
  have hb : SL K H2 a2 (Txts (pool ms 0)) := slof hb
  have hpl := pool_len ms 0
  have hpz := pool_let ms 0
  generalize pool ms 0 = pl at hb hpl hpz
  refine q_for (s := []) (i_rng2 (ea_cons ev_c (ea_cons (ev_mx2 ev_c (ev_mn2 ev_c (ev_lenQ (q_old (ev_var rfl) (by walk_at "fact"))))) ea_nil)) (by walk_at "rng") (by walk_at "rng")) (by simp) fun H3 e3 => ⟨fun i σ' H' => Ex H3 H' ∧ ∃ y1 y2 y3 y4 y5 y6 y7 y8 y9 y10, σ' = [some (.ref a1), y1, y2, y3, y4, some (.ref a2), y5, y6, y7, y8, y9, y10],
    ⟨Ex.refl _, none, none, none, none, none, none, none, none, none, none, rfl⟩, fun i σ' H' p => Ex.xb p.1, ?_, ?_⟩
  · rintro i n σ' H4 H5 hi ⟨hX, y1, y2, y3, y4, y5, y6, y7, y8, y9, y10, rfl⟩ e5
    have hn0 : (1 : Int) ≤ 1 + (n : Int) := by omega
    generalize (1 + (n : Int)) = n at hn0 ⊢
    have hx5 : Ex H2 H5 := (e3.trans hX).trans e5
    have ha5 : SL K H5 a1 (Ints ms) := exl hx5 (exl e2 ha)
    have hb5 : SL K H5 a2 (Txts pl) := exl hx5 hb
    refine q_asgD (ev__law_reader (ag_L (q_old (ev_var rfl) (by walk_at "fact")) (ag_V (ev_var rfl) (ag_L (q_old (ev_var rfl) (by walk_at "fact")) (ag_V ev_c ag_nil)))) (by walk_at "side") (by walk_at "side") (by walk_at "side") (by walk_at "side")) fun d H6 hd0 e6 hd => ?_
    have okr : RdOk (reader ms n pl 1) (rdW (digits ms n 17 1000) 1).toNat := rdr_ok (by decide) (by decide) hpz
    have hw := rdW_range (ds := digits ms n 17 1000) (least := 1) (by decide) (by decide)
    obtain ⟨w, hwe, hw1, hw4⟩ : ∃ w : Nat, (rdW (digits ms n 17 1000) 1).toNat = w ∧ 1 ≤ w ∧ w ≤ 4 := ⟨_, rfl, by omega, by omega⟩
    rw [hwe] at okr
    generalize reader ms n pl 1 = rd at hd okr
    have hten1 : (0 : Int) < (10 : Int) ^ (9 : Int).toNat + 7 := by decide
    have hten2 : (10 : Int) ^ (9 : Int).toNat + 7 < 1073741824 := by decide
    refine q_par (ag_V (ev__law_width (ag_D (g_Dold (ev_var rfl) (by walk_at "facth")) ag_nil) (by walk_at "side")) (ag_NL (ev__law_digits (ag_L (q_old (ev_var rfl) (by walk_at "fact")) (ag_V (ev_add (ev_var rfl) ev_c) (ag_V ev_c (ag_V (ev_add (ev_pow ev_c ev_c (by walk_at "cpow")) ev_c) ag_nil)))) (by walk_at "side") (by walk_at "side") (by walk_at "side") (by walk_at "side") (by walk_at "side")) ag_nil)) fun v1 v2 H7 e7 g1 g2 => ?_
    obtain rfl := g1
    obtain ⟨c, rfl, hc0, hc⟩ := g2
    have hc : SL K H7 c (Ints (digits ms (n + 1) 6 ((10 : Int) ^ (9 : Int).toNat + 7))) := slof hc
    have hcl : (digits ms (n + 1) 6 ((10 : Int) ^ (9 : Int).toNat + 7)).length = 6 := digits_len _ _ _ _
    generalize digits ms (n + 1) 6 ((10 : Int) ^ (9 : Int).toNat + 7) = ds at hc hcl
    have hm0 := Int.emod_nonneg (ds.getD (0 : Int).toNat 0) (show (8 : Int) ≠ 0 by decide)
    have hm1 := Int.emod_lt_of_pos (ds.getD (0 : Int).toNat 0) (show (0 : Int) < 8 by decide)
    refine q_asgL (ev__law_tape (ag_L (q_old (ev_var rfl) (by walk_at "fact")) (ag_V (ev_add (ev_var rfl) ev_c) (ag_V (ev_var rfl) (ag_V (ev_mod (ev_ixQ (0 : Int) (q_old (ev_var rfl) (by walk_at "fact")) ev_c (by walk_at "side") (by walk_at "side")) ev_c (by walk_at "side")) ag_nil)))) (by walk_at "side") (by walk_at "side") (by walk_at "side") (by walk_at "side") (by walk_at "side")) fun t H8 ht0 e8 ht => ?_
    have okt : TpOk (tapeL ms (n + 2) (w : Int) (ds.getD (0 : Int).toNat 0 % 8)) w := tapeL_ok _ _ _ (by omega)
    have htl : (tapeL ms (n + 2) (w : Int) (ds.getD (0 : Int).toNat 0 % 8)).length ≤ 8 := by rw [tapeL_len]; omega
    generalize tapeL ms (n + 2) (w : Int) (ds.getD (0 : Int).toNat 0 % 8) = tt at ht okt htl
    have ht : SL K H8 t (Txts tt) := slof ht
    have hk0 := Int.emod_nonneg (ds.getD (1 : Int).toNat 0) (show (tt.length : Int) + 1 ≠ 0 by omega)
    have hk1 := Int.emod_lt_of_pos (ds.getD (1 : Int).toNat 0) (show (0 : Int) < (tt.length : Int) + 1 by omega)
    have hpos1 : (0 : Int) < (tt.length : Int) + 1 := by omega
    refine q_asg (ev__law_text (ag_L (q_old (ev_var rfl) (by walk_at "fact")) (ag_V (ev_add (ev_var rfl) ev_c) (ag_L (q_old (ev_var rfl) (by walk_at "fact")) (ag_V (ev_mod (ev_ixQ (0 : Int) (q_old (ev_var rfl) (by walk_at "fact")) ev_c (by walk_at "side") (by walk_at "side")) (ev_add (ev_lenQ (q_old (ev_var rfl) (by walk_at "fact"))) ev_c) (by walk_at "side")) ag_nil)))) (by walk_at "side") (by walk_at "side") (by walk_at "side") (by walk_at "side") (by walk_at "side")) fun H9 e9 => ?_
    have okx : TxOk (lawTx ms (n + 3) pl (ds.getD (1 : Int).toNat 0 % ((tt.length : Int) + 1))) := lawTx_ok ms (n + 3) hpz (by omega)
    generalize lawTx ms (n + 3) pl (ds.getD (1 : Int).toNat 0 % ((tt.length : Int) + 1)) = tx at okx ⊢
    have hxl := okx.len
    have hr0 := Int.emod_nonneg (ds.getD (2 : Int).toNat 0) (show (3 : Int) ≠ 0 by decide)
    have hr1 := Int.emod_lt_of_pos (ds.getD (2 : Int).toNat 0) (show (0 : Int) < 3 by decide)
    have hs0 := Int.emod_nonneg (ds.getD (3 : Int).toNat 0) (show (3 : Int) ≠ 0 by decide)
    have hs1 := Int.emod_lt_of_pos (ds.getD (3 : Int).toNat 0) (show (0 : Int) < 3 by decide)
    have hpl1 : (pl.getD (ds.getD (2 : Int).toNat 0 % 3).toNat []).length ≤ 40 := by
      obtain ⟨cc, ec, _⟩ := isLet_one (hpz (ds.getD (2 : Int).toNat 0 % 3).toNat (by omega))
      rw [ec]
      exact (show 1 ≤ 40 by decide)
    have htl30 : tt.length ≤ 30 := by omega
    have hall : ∀ v ∈ [VS tx, VS (textOf rd tt), VS (cutG tx (some 1) none), VS (List.replicate (ds.getD (3 : Int).toNat 0 % 3).toNat (pl.getD (ds.getD (2 : Int).toNat 0 % 3).toNat [])).flatten, VS []], ∃ z, v = VS z ∧ TxOk z := by
      intro v hv
      simp only [List.mem_cons, List.not_mem_nil, or_false] at hv
      rcases hv with rfl | rfl | rfl | rfl | rfl
      · exact ⟨_, rfl, okx⟩
      · exact ⟨_, rfl, textOf_ok okr htl30⟩
      · exact ⟨_, rfl, by rw [cutG_from _ (by decide)]; exact okx.drop _⟩
      · exact ⟨_, rfl, letTx hpz (by omega) (by omega)⟩
      · exact ⟨_, rfl, TxOk.nil⟩
    have hd9 : H9 d = some (.dK (DS rd)) := exh ((e7.trans e8).trans e9) hd
    have ht9 : SL K H9 t (Txts tt) := exl e9 ht
    have hc9 : SL K H9 c (Ints ds) := exl (e8.trans e9) hc
    have hpl9 : SL K H9 a2 (Txts pl) := exl (((e6.trans e7).trans e8).trans e9) hb5
    refine q_for (s := []) (i_tupV (qt_new (eu_tup (ea_cons (ev_var rfl) (ea_cons (ev__law_reads (ag_D (g_Dold (ev_var rfl) (by walk_at "facth")) (ag_L (q_old (ev_var rfl) (by walk_at "fact")) ag_nil)) (by walk_at "side") (by walk_at "side")) (ea_cons (ev_slS (ev_var rfl) (eo_some ev_c) eo_none (by walk_at "side")) (ea_cons (ev_mulS (ev_ixQ ([] : Row) (q_old (ev_var rfl) (by walk_at "fact")) (ev_mod (ev_ixQ (0 : Int) (q_old (ev_var rfl) (by walk_at "fact")) ev_c (by walk_at "side") (by walk_at "side")) ev_c (by walk_at "side")) (by walk_at "side") (by walk_at "side")) (ev_mod (ev_ixQ (0 : Int) (q_old (ev_var rfl) (by walk_at "fact")) ev_c (by walk_at "side") (by walk_at "side")) ev_c (by walk_at "side")) (by walk_at "side") (by walk_at "side") (by walk_at "side")) (ea_cons (ev_cS lit_nil) ea_nil))))) (by simp)))) (by simp) fun H10 e10 => ⟨fun i σ' H' => Ex H10 H' ∧ ∃ y1 y2 y3 y4, σ' = [some (.ref a1), some (.int n), some (.ref c), y1, y2, some (.ref a2), some (.ref d), y3, some (.ref t), some (VS tx), some (.int (w : Int)), y4],
      ⟨Ex.refl _, _, _, _, _, rfl⟩, fun i σ' H' p => Ex.xb p.1, ?_, ?_⟩
    · rintro i v σ' H11 H12 hi ⟨e11, y1, y2, y3, y4, rfl⟩ e12
      obtain ⟨z, rfl, okz⟩ := hall v (List.mem_of_getElem? hi)
      have e912 := e10.trans (e11.trans e12)
      have hd12 := exh e912 hd9
      have ht12 := exl e912 ht9
      have hc12 := exl e912 hc9
      have hcut : (cutG ds (some 4) none).length ≤ 30 := by rw [cutG_from _ (by decide), List.length_drop]; omega
      exact s_skip (EvT.is (et_not (et_B (ev__law_ways_right (ag_D (g_Dold (ev_var rfl) (by walk_at "facth")) (ag_L (q_old (ev_var rfl) (by walk_at "fact")) (ag_V (ev_var rfl) (ag_L (q_new (el_slQ (q_old (ev_var rfl) (by walk_at "fact")) (eo_some ev_c) eo_none)) ag_nil)))) (by walk_at "side") (by walk_at "side") (by walk_at "side") (by walk_at "side")))) rfl) fun H13 e13 => ⟨(e11.trans e12).trans e13, _, _, _, _, rfl⟩
    · rintro σ' H11 ⟨e11, y1, y2, y3, y4, rfl⟩
      have e911 := e10.trans e11
      have hd11 := exh e911 hd9
      have ht11 := exl e911 ht9
      have hfew : (if decide ((2 : Int) < (w : Int)) = true then List.map VS (cutG tt none (some 2)) else List.map VS (cutG tt none (some 4))) = Txts (if decide ((2 : Int) < (w : Int)) then cutG tt none (some 2) else cutG tt none (some 4)) := by
        split <;> rfl
      have okf : TpOk (if decide ((2 : Int) < (w : Int)) then cutG tt none (some 2) else cutG tt none (some 4)) w := by
        split
        · rw [cutG_to _ (by decide)]; exact okt.take _
        · rw [cutG_to _ (by decide)]; exact okt.take _
      have hfl : (if decide ((2 : Int) < (w : Int)) then cutG tt none (some 2) else cutG tt none (some 4)).length ≤ (if decide ((2 : Int) < (w : Int)) then 2 else 4) := by
        split
        · rw [cutG_to _ (by decide), List.length_take]; exact Nat.min_le_left _ _
        · rw [cutG_to _ (by decide), List.length_take]; exact Nat.min_le_left _ _
      refine q_asgL (EvL.is (w := (Txts (if decide ((2 : Int) < (w : Int)) then cutG tt none (some 2) else cutG tt none (some 4)))) (el_ifL (et_test (ev_gt (ev_var rfl) ev_c)) (fun hb58 => (el_slQ (q_old (ev_var rfl) (by walk_at "fact")) eo_none (eo_some ev_c))) (fun hb58 => (el_slQ (q_old (ev_var rfl) (by walk_at "fact")) eo_none (eo_some ev_c)))) (by walk_at "side")) fun fw H12 hfw0 e12 hfw => ?_
      generalize (if decide ((2 : Int) < (w : Int)) then cutG tt none (some 2) else cutG tt none (some 4)) = few at hfw okf hfl
      have hfw : SL K H12 fw (Txts few) := slof hfw
      have okx2 : TxOk (cutG tx none (some 2)) := by rw [cutG_to _ (by decide)]; exact okx.take _
      have hxl2 := okx2.len
      have hev1 := few_len (rd := rd) (x := cutG tx none (some 2)) okf hw4 hfl
      have hev2 := few_mem (rd := rd) (x := cutG tx none (some 2)) (t := few) (by split at hfl <;> omega)
      refine q_asgA (N := nL K Txts) (ev__law_every (ag_D (g_Dold (ev_var rfl) (by walk_at "facth")) (ag_L (q_old (ev_var rfl) (by walk_at "fact")) (ag_V (ev_slS (ev_var rfl) eo_none (eo_some ev_c) (by walk_at "side")) ag_nil))) (by walk_at "side") (by walk_at "side") (by walk_at "side") (by walk_at "side") (by walk_at "side")) fun ev vs H13 hev0 e13 hev hevs => ?_
      have hE := every_E rd few (cutG tx none (some 2))
      have hevA : AG K H13 ev (kL K Txts tru) (every rd few (cutG tx none (some 2))) := ⟨vs, slof hev, allP_imp (fun y u ⟨a, h1, h2, _⟩ => ⟨a, h1, h2, trivial⟩) hevs⟩
      rw [hE] at hevA
      have hrg := E_range rd few (cutG tx none (some 2))
      have hEl := E_len rd few (cutG tx none (some 2))
      have hsmE := mem_E_small (rd := rd) (x := cutG tx none (some 2)) okf hw4
      have hfew30 := okf.len
      have hEb : (Ho.E rd few (cutG tx none (some 2))).length ≤ 1000 := by
        rw [← hE]
        unfold every
        have h1 := hev1 few.length
        rw [List.take_length] at h1
        exact Nat.le_trans (List.length_filter_le _ _) h1
      have hrng : ∀ n ∈ List.range (((Ho.E rd few (cutG tx none (some 2))).length : Int)).toNat, ((n : Nat) : Int) < W rd few (cutG tx none (some 2)) := fun n hn => by
        rw [List.mem_range] at hn
        omega
      have hrl : (List.range (((Ho.E rd few (cutG tx none (some 2))).length : Int)).toNat).length ≤ 40000 := by rw [List.length_range]; omega
      have hrg2 : ((List.range (((Ho.E rd few (cutG tx none (some 2))).length : Int)).toNat).map fun (n : Nat) => U rd few (cutG tx none (some 2)) (n : Int)) = Ho.E rd few (cutG tx none (some 2)) := by
        have : (((Ho.E rd few (cutG tx none (some 2))).length : Int)).toNat = (Ho.E rd few (cutG tx none (some 2))).length := by omega
        rw [this]
        exact hrg
      have hsmR : ∀ r ∈ ((List.range (((Ho.E rd few (cutG tx none (some 2))).length : Int)).toNat).map fun (n : Nat) => U rd few (cutG tx none (some 2)) (n : Int)), SmT r := by rw [hrg2]; exact hsmE
      have hd13 := exh (e12.trans e13) hd11
      have hfw13 := exl e13 hfw
      refine q_skip (EvT.is (et_test (ev_neLLS (g_AL (en_lcL1 (fun (n : Nat) => U rd few (cutG tx none (some 2)) (n : Int)) (i_rng1 (ea_cons (ev_lenA (g_Aold mkL (ev_var rfl) (by walk_at "facta"))) ea_nil) (by walk_at "rng")) (by walk_at "len") (fun _ => wipe_one _ _ _) (fun x59 hx59 H159 e159 => (ev_way_by (ag_D (g_D (ed_dict (g_Dold (ev_var rfl) (by walk_at "facth")))) (ag_L (q_new (el_listQ (q_old (ev_var rfl) (by walk_at "fact")))) (ag_V (ev_slS (ev_var rfl) eo_none (eo_some ev_c) (by walk_at "side")) (ag_V (ev_var rfl) ag_nil)))) (by walk_at "side") (by walk_at "side") (by walk_at "side") (by walk_at "side") (by walk_at "side"))))) (g_Aold mkL (ev_var rfl) (by walk_at "facta")) (by walk_at "side") (by walk_at "side"))) (by rw [hrg2]; simp)) fun H14 e14 => ?_
      exact s_skip (EvT.is (et_test (ev_neI (ev_ways (ag_D (g_D (ed_dict (g_Dold (ev_var rfl) (by walk_at "facth")))) (ag_L (q_new (el_listQ (q_old (ev_var rfl) (by walk_at "fact")))) (ag_V (ev_slS (ev_var rfl) eo_none (eo_some ev_c) (by walk_at "side")) ag_nil))) (by walk_at "side") (by walk_at "side") (by walk_at "side")) (ev_lenA (g_Aold mkL (ev_var rfl) (by walk_at "facta"))))) (by simp [hEl])) fun H15 e15 => ⟨((hX.trans e5).trans ((((e6.trans e7).trans e8).trans e9).trans e911)).trans (((e12.trans e13).trans e14).trans e15), _, _, _, _, _, _, _, _, _, _, rfl⟩
  · rintro σ' H4 ⟨hX, y1, y2, y3, y4, y5, y6, y7, y8, y9, y10, rfl⟩
    have hz1 := last_rd
    have hz0 := last_t0
    have hzd := last_td
    have hzq := last_q
    have hzn := TxOk.nil
    have hW : (0 : Int) < W [([46], [113])] [[46]] [] := by decide +kernel
    have hsm1 : SmT (U [([46], [113])] [[46]] [] 0) := ((U_ok (W_all last_td (by decide)) (by decide) hW).tp last_td).1.small
    have hsm2 : SmT [[111]] := fun r hr c hc => by
      rw [List.mem_singleton.mp hr] at hc
      rw [List.mem_singleton.mp hc]
      decide
    refine q_skip (EvT.is (et_or (et_test (ev_neI (ev_ways (ag_D (g_D (ed_disp (ep_cons (ev_cS lit_dot) (ev_cS (l := [113]) (by decide +kernel)) ep_nil) (by simp))) (ag_L (q_new el_nilM) (ag_V (ev_cS lit_nil) ag_nil))) (by walk_at "side") (by walk_at "side") (by walk_at "side")) ev_c)) (fun hb60 => (et_test (ev_neI (ev_ways (ag_D (g_D (ed_disp (ep_cons (ev_cS lit_dot) (ev_cS (l := [113]) (by decide +kernel)) ep_nil) (by simp))) (ag_L (q_new el_nilM) (ag_V (ev_cS (l := [113]) (by decide +kernel)) ag_nil))) (by walk_at "side") (by walk_at "side") (by walk_at "side")) ev_c)))) (by decide +kernel)) fun H5 e5 => ?_
    exact s_ret2 (Ev.is (ev_eqLS (q_new (ev_way_by (ag_D (g_D (ed_disp (ep_cons (ev_cS lit_dot) (ev_cS (l := [113]) (by decide +kernel)) ep_nil) (by simp))) (ag_L (q_new (el_lst (emS_cons (ev_cS lit_dot) emS_nil) (by simp))) (ag_V (ev_cS lit_nil) (ag_V ev_c ag_nil)))) (by walk_at "side") (by walk_at "side") (by walk_at "side") (by walk_at "side") (by walk_at "side"))) (q_new (el_lst (emS_cons (ev_cS lit_o) emS_nil) (by simp))) (by walk_at "side") (by walk_at "side")) (by decide +kernel)) (RetV.ex k ((((e1.trans e2).trans e3).trans hX).trans e5))
theorem defAt_mk {K : PySem.W.Frag} {h : Heap} {mg : Str → Option Value} {x : Str} {st : Stmt} {f : Addr} {oc kV dc pm cd ct : Value} {od an : Option Addr} {sl : Array (Option Value)} {ps : List Str} (X : K.In h) (G : h.Ns mainGlobals mg)
    (a : PySem.W.nsIn K mainGlobals x = some (some (.ref f))) (l : K.lookup f = some ⟨oc, od, .func (PySem.W.fnOf x x (defArgs st) (defBody st) (defScope st) .none kV dc pm an cd ct), sl⟩) (c : PySem.W.codeIn K cd x = true) (k : PySem.W.keepIn K (.ref f) = true)
    (b : Fun K x x st f (PySem.W.fnOf x x (defArgs st) (defBody st) (defScope st) .none kV dc pm an cd ct) → Binds K (PySem.W.fnOf x x (defArgs st) (defBody st) (defScope st) .none kV dc pm an cd ct) ps []) : DefAt K mg x x st ps :=
  ⟨f, _, PySem.W.mg_of X G a, fun_mk l c k, b (fun_mk l c k)⟩
theorem all_mk {l : PySem.W.OpenLaw} {w : World} {K : PySem.W.Frag} {h : Heap} {mg : Str → Option Value} {fa f0 f1 f2 f3 f4 f5 f6 f7 f8 f9 f10 f11 f12 f13 f14 f15 f16 f17 f18 f19 f20 f21 f22 f23 f24 f25 f26 f27 f28 f29 f30 f31 f32 f33 f34 f35 f36 : Addr} (X : K.In h) (G : h.Ns mainGlobals mg) (hfa : mg "law" = some (.ref fa))
    {od0 an0 od1 an1 od2 an2 od3 an3 od4 an4 od5 an5 od6 an6 od7 an7 od8 an8 od9 an9 od10 an10 od11 an11 od12 an12 od13 an13 od14 an14 od15 an15 od16 an16 od17 an17 od18 an18 od19 an19 od20 an20 od21 an21 od22 an22 od23 an23 od24 an24 od25 an25 od26 an26 od27 an27 od28 an28 od29 an29 od30 an30 od31 an31 od32 an32 od33 an33 od34 an34 od35 an35 od36 an36 : Option Addr} {sl0 sl1 sl2 sl3 sl4 sl5 sl6 sl7 sl8 sl9 sl10 sl11 sl12 sl13 sl14 sl15 sl16 sl17 sl18 sl19 sl20 sl21 sl22 sl23 sl24 sl25 sl26 sl27 sl28 sl29 sl30 sl31 sl32 sl33 sl34 sl35 sl36 : Array (Option Value)} {oc0 kV0 dc0 pm0 cd0 ct0 oc1 kV1 dc1 pm1 cd1 ct1 oc2 kV2 dc2 pm2 cd2 ct2 oc3 kV3 dc3 pm3 cd3 ct3 oc4 kV4 dc4 pm4 cd4 ct4 oc5 kV5 dc5 pm5 cd5 ct5 oc6 kV6 dc6 pm6 cd6 ct6 oc7 kV7 dc7 pm7 cd7 ct7 oc8 kV8 dc8 pm8 cd8 ct8 oc9 kV9 dc9 pm9 cd9 ct9 oc10 kV10 dc10 pm10 cd10 ct10 oc11 kV11 dc11 pm11 cd11 ct11 oc12 kV12 dc12 pm12 cd12 ct12 oc13 kV13 dc13 pm13 cd13 ct13 oc14 kV14 dc14 pm14 cd14 ct14 oc15 kV15 dc15 pm15 cd15 ct15 oc16 kV16 dc16 pm16 cd16 ct16 oc17 kV17 dc17 pm17 cd17 ct17 oc18 kV18 dc18 pm18 cd18 ct18 oc19 kV19 dc19 pm19 cd19 ct19 oc20 kV20 dc20 pm20 cd20 ct20 oc21 kV21 dc21 pm21 cd21 ct21 oc22 kV22 dc22 pm22 cd22 ct22 oc23 kV23 dc23 pm23 cd23 ct23 oc24 kV24 dc24 pm24 cd24 ct24 oc25 kV25 dc25 pm25 cd25 ct25 oc26 kV26 dc26 pm26 cd26 ct26 oc27 kV27 dc27 pm27 cd27 ct27 oc28 kV28 dc28 pm28 cd28 ct28 oc29 kV29 dc29 pm29 cd29 ct29 oc30 kV30 dc30 pm30 cd30 ct30 oc31 kV31 dc31 pm31 cd31 ct31 oc32 kV32 dc32 pm32 cd32 ct32 oc33 kV33 dc33 pm33 cd33 ct33 oc34 kV34 dc34 pm34 cd34 ct34 oc35 kV35 dc35 pm35 cd35 ct35 oc36 kV36 dc36 pm36 cd36 ct36 : Value}
    (a0 : PySem.W.nsIn K mainGlobals "_law_draw" = some (some (.ref f0))) (l0 : K.lookup f0 = some ⟨oc0, od0, .func (PySem.W.fnOf "_law_draw" "_law_draw" (defArgs s__law_draw) (defBody s__law_draw) (defScope s__law_draw) .none kV0 dc0 pm0 an0 cd0 ct0), sl0⟩) (c0 : PySem.W.codeIn K cd0 "_law_draw" = true) (k0 : PySem.W.keepIn K (.ref f0) = true)
    (a1 : PySem.W.nsIn K mainGlobals "_law_cell_at" = some (some (.ref f1))) (l1 : K.lookup f1 = some ⟨oc1, od1, .func (PySem.W.fnOf "_law_cell_at" "_law_cell_at" (defArgs s__law_cell_at) (defBody s__law_cell_at) (defScope s__law_cell_at) .none kV1 dc1 pm1 an1 cd1 ct1), sl1⟩) (c1 : PySem.W.codeIn K cd1 "_law_cell_at" = true) (k1 : PySem.W.keepIn K (.ref f1) = true)
    (a2 : PySem.W.nsIn K mainGlobals "_law_digits" = some (some (.ref f2))) (l2 : K.lookup f2 = some ⟨oc2, od2, .func (PySem.W.fnOf "_law_digits" "_law_digits" (defArgs s__law_digits) (defBody s__law_digits) (defScope s__law_digits) .none kV2 dc2 pm2 an2 cd2 ct2), sl2⟩) (c2 : PySem.W.codeIn K cd2 "_law_digits" = true) (k2 : PySem.W.keepIn K (.ref f2) = true)
    (a3 : PySem.W.nsIn K mainGlobals "_law_pool" = some (some (.ref f3))) (l3 : K.lookup f3 = some ⟨oc3, od3, .func (PySem.W.fnOf "_law_pool" "_law_pool" (defArgs s__law_pool) (defBody s__law_pool) (defScope s__law_pool) .none kV3 dc3 pm3 an3 cd3 ct3), sl3⟩) (c3 : PySem.W.codeIn K cd3 "_law_pool" = true) (k3 : PySem.W.keepIn K (.ref f3) = true)
    (a4 : PySem.W.nsIn K mainGlobals "_law_rows" = some (some (.ref f4))) (l4 : K.lookup f4 = some ⟨oc4, od4, .func (PySem.W.fnOf "_law_rows" "_law_rows" (defArgs s__law_rows) (defBody s__law_rows) (defScope s__law_rows) .none kV4 dc4 pm4 an4 cd4 ct4), sl4⟩) (c4 : PySem.W.codeIn K cd4 "_law_rows" = true) (k4 : PySem.W.keepIn K (.ref f4) = true)
    (a5 : PySem.W.nsIn K mainGlobals "_law_reader" = some (some (.ref f5))) (l5 : K.lookup f5 = some ⟨oc5, od5, .func (PySem.W.fnOf "_law_reader" "_law_reader" (defArgs s__law_reader) (defBody s__law_reader) (defScope s__law_reader) .none kV5 dc5 pm5 an5 cd5 ct5), sl5⟩) (c5 : PySem.W.codeIn K cd5 "_law_reader" = true) (k5 : PySem.W.keepIn K (.ref f5) = true)
    (a6 : PySem.W.nsIn K mainGlobals "_law_tape" = some (some (.ref f6))) (l6 : K.lookup f6 = some ⟨oc6, od6, .func (PySem.W.fnOf "_law_tape" "_law_tape" (defArgs s__law_tape) (defBody s__law_tape) (defScope s__law_tape) .none kV6 dc6 pm6 an6 cd6 ct6), sl6⟩) (c6 : PySem.W.codeIn K cd6 "_law_tape" = true) (k6 : PySem.W.keepIn K (.ref f6) = true)
    (a7 : PySem.W.nsIn K mainGlobals "_law_text" = some (some (.ref f7))) (l7 : K.lookup f7 = some ⟨oc7, od7, .func (PySem.W.fnOf "_law_text" "_law_text" (defArgs s__law_text) (defBody s__law_text) (defScope s__law_text) .none kV7 dc7 pm7 an7 cd7 ct7), sl7⟩) (c7 : PySem.W.codeIn K cd7 "_law_text" = true) (k7 : PySem.W.keepIn K (.ref f7) = true)
    (a8 : PySem.W.nsIn K mainGlobals "_law_means" = some (some (.ref f8))) (l8 : K.lookup f8 = some ⟨oc8, od8, .func (PySem.W.fnOf "_law_means" "_law_means" (defArgs s__law_means) (defBody s__law_means) (defScope s__law_means) .none kV8 dc8 pm8 an8 cd8 ct8), sl8⟩) (c8 : PySem.W.codeIn K cd8 "_law_means" = true) (k8 : PySem.W.keepIn K (.ref f8) = true)
    (a9 : PySem.W.nsIn K mainGlobals "_law_over" = some (some (.ref f9))) (l9 : K.lookup f9 = some ⟨oc9, od9, .func (PySem.W.fnOf "_law_over" "_law_over" (defArgs s__law_over) (defBody s__law_over) (defScope s__law_over) .none kV9 dc9 pm9 an9 cd9 ct9), sl9⟩) (c9 : PySem.W.codeIn K cd9 "_law_over" = true) (k9 : PySem.W.keepIn K (.ref f9) = true)
    (a10 : PySem.W.nsIn K mainGlobals "_law_letters_above" = some (some (.ref f10))) (l10 : K.lookup f10 = some ⟨oc10, od10, .func (PySem.W.fnOf "_law_letters_above" "_law_letters_above" (defArgs s__law_letters_above) (defBody s__law_letters_above) (defScope s__law_letters_above) .none kV10 dc10 pm10 an10 cd10 ct10), sl10⟩) (c10 : PySem.W.codeIn K cd10 "_law_letters_above" = true) (k10 : PySem.W.keepIn K (.ref f10) = true)
    (a11 : PySem.W.nsIn K mainGlobals "_law_reads" = some (some (.ref f11))) (l11 : K.lookup f11 = some ⟨oc11, od11, .func (PySem.W.fnOf "_law_reads" "_law_reads" (defArgs s__law_reads) (defBody s__law_reads) (defScope s__law_reads) .none kV11 dc11 pm11 an11 cd11 ct11), sl11⟩) (c11 : PySem.W.codeIn K cd11 "_law_reads" = true) (k11 : PySem.W.keepIn K (.ref f11) = true)
    (a12 : PySem.W.nsIn K mainGlobals "_law_every" = some (some (.ref f12))) (l12 : K.lookup f12 = some ⟨oc12, od12, .func (PySem.W.fnOf "_law_every" "_law_every" (defArgs s__law_every) (defBody s__law_every) (defScope s__law_every) .none kV12 dc12 pm12 an12 cd12 ct12), sl12⟩) (c12 : PySem.W.codeIn K cd12 "_law_every" = true) (k12 : PySem.W.keepIn K (.ref f12) = true)
    (a13 : PySem.W.nsIn K mainGlobals "is_row" = some (some (.ref f13))) (l13 : K.lookup f13 = some ⟨oc13, od13, .func (PySem.W.fnOf "is_row" "is_row" (defArgs s_is_row) (defBody s_is_row) (defScope s_is_row) .none kV13 dc13 pm13 an13 cd13 ct13), sl13⟩) (c13 : PySem.W.codeIn K cd13 "is_row" = true) (k13 : PySem.W.keepIn K (.ref f13) = true)
    (a14 : PySem.W.nsIn K mainGlobals "check_tape" = some (some (.ref f14))) (l14 : K.lookup f14 = some ⟨oc14, od14, .func (PySem.W.fnOf "check_tape" "check_tape" (defArgs s_check_tape) (defBody s_check_tape) (defScope s_check_tape) .none kV14 dc14 pm14 an14 cd14 ct14), sl14⟩) (c14 : PySem.W.codeIn K cd14 "check_tape" = true) (k14 : PySem.W.keepIn K (.ref f14) = true)
    (a15 : PySem.W.nsIn K mainGlobals "check_text" = some (some (.ref f15))) (l15 : K.lookup f15 = some ⟨oc15, od15, .func (PySem.W.fnOf "check_text" "check_text" (defArgs s_check_text) (defBody s_check_text) (defScope s_check_text) .none kV15 dc15 pm15 an15 cd15 ct15), sl15⟩) (c15 : PySem.W.codeIn K cd15 "check_text" = true) (k15 : PySem.W.keepIn K (.ref f15) = true)
    (a16 : PySem.W.nsIn K mainGlobals "is_letter" = some (some (.ref f16))) (l16 : K.lookup f16 = some ⟨oc16, od16, .func (PySem.W.fnOf "is_letter" "is_letter" (defArgs s_is_letter) (defBody s_is_letter) (defScope s_is_letter) .none kV16 dc16 pm16 an16 cd16 ct16), sl16⟩) (c16 : PySem.W.codeIn K cd16 "is_letter" = true) (k16 : PySem.W.keepIn K (.ref f16) = true)
    (a17 : PySem.W.nsIn K mainGlobals "width_of" = some (some (.ref f17))) (l17 : K.lookup f17 = some ⟨oc17, od17, .func (PySem.W.fnOf "width_of" "width_of" (defArgs s_width_of) (defBody s_width_of) (defScope s_width_of) .none kV17 dc17 pm17 an17 cd17 ct17), sl17⟩) (c17 : PySem.W.codeIn K cd17 "width_of" = true) (k17 : PySem.W.keepIn K (.ref f17) = true)
    (a18 : PySem.W.nsIn K mainGlobals "check_all" = some (some (.ref f18))) (l18 : K.lookup f18 = some ⟨oc18, od18, .func (PySem.W.fnOf "check_all" "check_all" (defArgs s_check_all) (defBody s_check_all) (defScope s_check_all) .none kV18 dc18 pm18 an18 cd18 ct18), sl18⟩) (c18 : PySem.W.codeIn K cd18 "check_all" = true) (k18 : PySem.W.keepIn K (.ref f18) = true)
    (a19 : PySem.W.nsIn K mainGlobals "meaning" = some (some (.ref f19))) (l19 : K.lookup f19 = some ⟨oc19, od19, .func (PySem.W.fnOf "meaning" "meaning" (defArgs s_meaning) (defBody s_meaning) (defScope s_meaning) .none kV19 dc19 pm19 an19 cd19 ct19), sl19⟩) (c19 : PySem.W.codeIn K cd19 "meaning" = true) (k19 : PySem.W.keepIn K (.ref f19) = true)
    (a20 : PySem.W.nsIn K mainGlobals "rows_of" = some (some (.ref f20))) (l20 : K.lookup f20 = some ⟨oc20, od20, .func (PySem.W.fnOf "rows_of" "rows_of" (defArgs s_rows_of) (defBody s_rows_of) (defScope s_rows_of) .none kV20 dc20 pm20 an20 cd20 ct20), sl20⟩) (c20 : PySem.W.codeIn K cd20 "rows_of" = true) (k20 : PySem.W.keepIn K (.ref f20) = true)
    (a21 : PySem.W.nsIn K mainGlobals "goes_over" = some (some (.ref f21))) (l21 : K.lookup f21 = some ⟨oc21, od21, .func (PySem.W.fnOf "goes_over" "goes_over" (defArgs s_goes_over) (defBody s_goes_over) (defScope s_goes_over) .none kV21 dc21 pm21 an21 cd21 ct21), sl21⟩) (c21 : PySem.W.codeIn K cd21 "goes_over" = true) (k21 : PySem.W.keepIn K (.ref f21) = true)
    (a22 : PySem.W.nsIn K mainGlobals "above" = some (some (.ref f22))) (l22 : K.lookup f22 = some ⟨oc22, od22, .func (PySem.W.fnOf "above" "above" (defArgs s_above) (defBody s_above) (defScope s_above) .none kV22 dc22 pm22 an22 cd22 ct22), sl22⟩) (c22 : PySem.W.codeIn K cd22 "above" = true) (k22 : PySem.W.keepIn K (.ref f22) = true)
    (a23 : PySem.W.nsIn K mainGlobals "ways_of" = some (some (.ref f23))) (l23 : K.lookup f23 = some ⟨oc23, od23, .func (PySem.W.fnOf "ways_of" "ways_of" (defArgs s_ways_of) (defBody s_ways_of) (defScope s_ways_of) .none kV23 dc23 pm23 an23 cd23 ct23), sl23⟩) (c23 : PySem.W.codeIn K cd23 "ways_of" = true) (k23 : PySem.W.keepIn K (.ref f23) = true)
    (a24 : PySem.W.nsIn K mainGlobals "is_whole" = some (some (.ref f24))) (l24 : K.lookup f24 = some ⟨oc24, od24, .func (PySem.W.fnOf "is_whole" "is_whole" (defArgs s_is_whole) (defBody s_is_whole) (defScope s_is_whole) .none kV24 dc24 pm24 an24 cd24 ct24), sl24⟩) (c24 : PySem.W.codeIn K cd24 "is_whole" = true) (k24 : PySem.W.keepIn K (.ref f24) = true)
    (a25 : PySem.W.nsIn K mainGlobals "way_by" = some (some (.ref f25))) (l25 : K.lookup f25 = some ⟨oc25, od25, .func (PySem.W.fnOf "way_by" "way_by" (defArgs s_way_by) (defBody s_way_by) (defScope s_way_by) .none kV25 dc25 pm25 an25 cd25 ct25), sl25⟩) (c25 : PySem.W.codeIn K cd25 "way_by" = true) (k25 : PySem.W.keepIn K (.ref f25) = true)
    (a26 : PySem.W.nsIn K mainGlobals "_law_width" = some (some (.ref f26))) (l26 : K.lookup f26 = some ⟨oc26, od26, .func (PySem.W.fnOf "_law_width" "_law_width" (defArgs s__law_width) (defBody s__law_width) (defScope s__law_width) .none kV26 dc26 pm26 an26 cd26 ct26), sl26⟩) (c26 : PySem.W.codeIn K cd26 "_law_width" = true) (k26 : PySem.W.keepIn K (.ref f26) = true)
    (a27 : PySem.W.nsIn K mainGlobals "ways" = some (some (.ref f27))) (l27 : K.lookup f27 = some ⟨oc27, od27, .func (PySem.W.fnOf "ways" "ways" (defArgs s_ways) (defBody s_ways) (defScope s_ways) .none kV27 dc27 pm27 an27 cd27 ct27), sl27⟩) (c27 : PySem.W.codeIn K cd27 "ways" = true) (k27 : PySem.W.keepIn K (.ref f27) = true)
    (a28 : PySem.W.nsIn K mainGlobals "_law_many" = some (some (.ref f28))) (l28 : K.lookup f28 = some ⟨oc28, od28, .func (PySem.W.fnOf "_law_many" "_law_many" (defArgs s__law_many) (defBody s__law_many) (defScope s__law_many) .none kV28 dc28 pm28 an28 cd28 ct28), sl28⟩) (c28 : PySem.W.codeIn K cd28 "_law_many" = true) (k28 : PySem.W.keepIn K (.ref f28) = true)
    (a29 : PySem.W.nsIn K mainGlobals "over" = some (some (.ref f29))) (l29 : K.lookup f29 = some ⟨oc29, od29, .func (PySem.W.fnOf "over" "over" (defArgs s_over) (defBody s_over) (defScope s_over) .none kV29 dc29 pm29 an29 cd29 ct29), sl29⟩) (c29 : PySem.W.codeIn K cd29 "over" = true) (k29 : PySem.W.keepIn K (.ref f29) = true)
    (a30 : PySem.W.nsIn K mainGlobals "text_of" = some (some (.ref f30))) (l30 : K.lookup f30 = some ⟨oc30, od30, .func (PySem.W.fnOf "text_of" "text_of" (defArgs s_text_of) (defBody s_text_of) (defScope s_text_of) .none kV30 dc30 pm30 an30 cd30 ct30), sl30⟩) (c30 : PySem.W.codeIn K cd30 "text_of" = true) (k30 : PySem.W.keepIn K (.ref f30) = true)
    (a31 : PySem.W.nsIn K mainGlobals "number_of" = some (some (.ref f31))) (l31 : K.lookup f31 = some ⟨oc31, od31, .func (PySem.W.fnOf "number_of" "number_of" (defArgs s_number_of) (defBody s_number_of) (defScope s_number_of) .none kV31 dc31 pm31 an31 cd31 ct31), sl31⟩) (c31 : PySem.W.codeIn K cd31 "number_of" = true) (k31 : PySem.W.keepIn K (.ref f31) = true)
    (a32 : PySem.W.nsIn K mainGlobals "_law_whole" = some (some (.ref f32))) (l32 : K.lookup f32 = some ⟨oc32, od32, .func (PySem.W.fnOf "_law_whole" "_law_whole" (defArgs s__law_whole) (defBody s__law_whole) (defScope s__law_whole) .none kV32 dc32 pm32 an32 cd32 ct32), sl32⟩) (c32 : PySem.W.codeIn K cd32 "_law_whole" = true) (k32 : PySem.W.keepIn K (.ref f32) = true)
    (a33 : PySem.W.nsIn K mainGlobals "_law_can" = some (some (.ref f33))) (l33 : K.lookup f33 = some ⟨oc33, od33, .func (PySem.W.fnOf "_law_can" "_law_can" (defArgs s__law_can) (defBody s__law_can) (defScope s__law_can) .none kV33 dc33 pm33 an33 cd33 ct33), sl33⟩) (c33 : PySem.W.codeIn K cd33 "_law_can" = true) (k33 : PySem.W.keepIn K (.ref f33) = true)
    (a34 : PySem.W.nsIn K mainGlobals "_law_ahead" = some (some (.ref f34))) (l34 : K.lookup f34 = some ⟨oc34, od34, .func (PySem.W.fnOf "_law_ahead" "_law_ahead" (defArgs s__law_ahead) (defBody s__law_ahead) (defScope s__law_ahead) .none kV34 dc34 pm34 an34 cd34 ct34), sl34⟩) (c34 : PySem.W.codeIn K cd34 "_law_ahead" = true) (k34 : PySem.W.keepIn K (.ref f34) = true)
    (a35 : PySem.W.nsIn K mainGlobals "_law_ways_right" = some (some (.ref f35))) (l35 : K.lookup f35 = some ⟨oc35, od35, .func (PySem.W.fnOf "_law_ways_right" "_law_ways_right" (defArgs s__law_ways_right) (defBody s__law_ways_right) (defScope s__law_ways_right) .none kV35 dc35 pm35 an35 cd35 ct35), sl35⟩) (c35 : PySem.W.codeIn K cd35 "_law_ways_right" = true) (k35 : PySem.W.keepIn K (.ref f35) = true)
    (a36 : PySem.W.nsIn K mainGlobals "law" = some (some (.ref f36))) (l36 : K.lookup f36 = some ⟨oc36, od36, .func (PySem.W.fnOf "law" "law" (defArgs s_law) (defBody s_law) (defScope s_law) .none kV36 dc36 pm36 an36 cd36 ct36), sl36⟩) (c36 : PySem.W.codeIn K cd36 "law" = true) (k36 : PySem.W.keepIn K (.ref f36) = true)
    (z0 : PySem.W.nsIn K mainGlobals "abs" = some none)
    (z1 : PySem.W.nsIn K mainGlobals "all" = some none)
    (z2 : PySem.W.nsIn K mainGlobals "any" = some none)
    (z3 : PySem.W.nsIn K mainGlobals "bool" = some none)
    (z4 : PySem.W.nsIn K mainGlobals "dict" = some none)
    (z5 : PySem.W.nsIn K mainGlobals "enumerate" = some none)
    (z6 : PySem.W.nsIn K mainGlobals "int" = some none)
    (z7 : PySem.W.nsIn K mainGlobals "isinstance" = some none)
    (z8 : PySem.W.nsIn K mainGlobals "len" = some none)
    (z9 : PySem.W.nsIn K mainGlobals "list" = some none)
    (z10 : PySem.W.nsIn K mainGlobals "max" = some none)
    (z11 : PySem.W.nsIn K mainGlobals "min" = some none)
    (z12 : PySem.W.nsIn K mainGlobals "range" = some none)
    (z13 : PySem.W.nsIn K mainGlobals "sorted" = some none)
    (z14 : PySem.W.nsIn K mainGlobals "str" = some none)
    (z15 : PySem.W.nsIn K mainGlobals "sum" = some none)
    (z16 : PySem.W.nsIn K mainGlobals "zip" = some none)
    {t0 : _} (n0 : PySem.W.nsIn K mainGlobals "HOLE" = some (some (.str (S [111]) t0)))
    {t1 : _} (n1 : PySem.W.nsIn K mainGlobals "BLANK" = some (some (.str (S [46]) t1)))
    {t2 : _} (n2 : PySem.W.nsIn K mainGlobals "MOST" = some (some (.int 30 t2)))
    {t3 : _} (n3 : PySem.W.nsIn K mainGlobals "LETTERS" = some (some (.str (S [97, 98, 99, 100, 101, 102, 103, 104, 105, 106, 107, 108, 109, 110, 111, 112, 113, 114, 115, 116, 117, 118, 119, 120, 121, 122]) t3)))
    {t4 : _} (n4 : PySem.W.nsIn K mainGlobals "WIDEST" = some (some (.int 4 t4))) :
    ∃ fd : FuncData, (∀ (s : Shared) (v : Value), BindsTo s fd ⟨[v], []⟩ [("_law_script", v)]) ∧ ∀ base : Heap, K.In base → base.Ns mainGlobals mg → FnOk l.prog w K mg base CX0 6 fa fd ["_law_script"] (sp_law K) := by
  have e := hfa.symm.trans (PySem.W.mg_of X G a36)
  cases e
  have T : Txt K mg := {
    z_abs := PySem.W.mg_none_of X G z0
    z_all := PySem.W.mg_none_of X G z1
    z_any := PySem.W.mg_none_of X G z2
    z_bool := PySem.W.mg_none_of X G z3
    z_dict := PySem.W.mg_none_of X G z4
    z_enumerate := PySem.W.mg_none_of X G z5
    z_int := PySem.W.mg_none_of X G z6
    z_isinstance := PySem.W.mg_none_of X G z7
    z_len := PySem.W.mg_none_of X G z8
    z_list := PySem.W.mg_none_of X G z9
    z_max := PySem.W.mg_none_of X G z10
    z_min := PySem.W.mg_none_of X G z11
    z_range := PySem.W.mg_none_of X G z12
    z_sorted := PySem.W.mg_none_of X G z13
    z_str := PySem.W.mg_none_of X G z14
    z_sum := PySem.W.mg_none_of X G z15
    z_zip := PySem.W.mg_none_of X G z16
    c_HOLE := ⟨_, PySem.W.mg_of X G n0⟩
    c_BLANK := ⟨_, PySem.W.mg_of X G n1⟩
    c_MOST := ⟨_, PySem.W.mg_of X G n2⟩
    c_LETTERS := ⟨_, PySem.W.mg_of X G n3⟩
    c_WIDEST := ⟨_, PySem.W.mg_of X G n4⟩
    d__law_draw := defAt_mk X G a0 l0 c0 k0 fun F => F.binds fun _ _ _ _ _ _ us hl => match us, hl with | [_, _, _], _ => rfl
    d__law_cell_at := defAt_mk X G a1 l1 c1 k1 fun F => F.binds fun _ _ _ _ _ _ us hl => match us, hl with | [_, _], _ => rfl
    d__law_digits := defAt_mk X G a2 l2 c2 k2 fun F => F.binds fun _ _ _ _ _ _ us hl => match us, hl with | [_, _, _, _], _ => rfl
    d__law_pool := defAt_mk X G a3 l3 c3 k3 fun F => F.binds fun _ _ _ _ _ _ us hl => match us, hl with | [_, _], _ => rfl
    d__law_rows := defAt_mk X G a4 l4 c4 k4 fun F => F.binds fun _ _ _ _ _ _ us hl => match us, hl with | [_], _ => rfl
    d__law_reader := defAt_mk X G a5 l5 c5 k5 fun F => F.binds fun _ _ _ _ _ _ us hl => match us, hl with | [_, _, _, _], _ => rfl
    d__law_tape := defAt_mk X G a6 l6 c6 k6 fun F => F.binds fun _ _ _ _ _ _ us hl => match us, hl with | [_, _, _, _], _ => rfl
    d__law_text := defAt_mk X G a7 l7 c7 k7 fun F => F.binds fun _ _ _ _ _ _ us hl => match us, hl with | [_, _, _, _], _ => rfl
    d__law_means := defAt_mk X G a8 l8 c8 k8 fun F => F.binds fun _ _ _ _ _ _ us hl => match us, hl with | [_, _], _ => rfl
    d__law_over := defAt_mk X G a9 l9 c9 k9 fun F => F.binds fun _ _ _ _ _ _ us hl => match us, hl with | [_, _], _ => rfl
    d__law_letters_above := defAt_mk X G a10 l10 c10 k10 fun F => F.binds fun _ _ _ _ _ _ us hl => match us, hl with | [_, _], _ => rfl
    d__law_reads := defAt_mk X G a11 l11 c11 k11 fun F => F.binds fun _ _ _ _ _ _ us hl => match us, hl with | [_, _], _ => rfl
    d__law_every := defAt_mk X G a12 l12 c12 k12 fun F => F.binds fun _ _ _ _ _ _ us hl => match us, hl with | [_, _, _], _ => rfl
    d_is_row := defAt_mk X G a13 l13 c13 k13 fun F => F.binds fun _ _ _ _ _ _ us hl => match us, hl with | [_, _], _ => rfl
    d_check_tape := defAt_mk X G a14 l14 c14 k14 fun F => F.binds fun _ _ _ _ _ _ us hl => match us, hl with | [_, _], _ => rfl
    d_check_text := defAt_mk X G a15 l15 c15 k15 fun F => F.binds fun _ _ _ _ _ _ us hl => match us, hl with | [_], _ => rfl
    d_is_letter := defAt_mk X G a16 l16 c16 k16 fun F => F.binds fun _ _ _ _ _ _ us hl => match us, hl with | [_], _ => rfl
    d_width_of := defAt_mk X G a17 l17 c17 k17 fun F => F.binds fun _ _ _ _ _ _ us hl => match us, hl with | [_], _ => rfl
    d_check_all := defAt_mk X G a18 l18 c18 k18 fun F => F.binds fun _ _ _ _ _ _ us hl => match us, hl with | [_, _, _], _ => rfl
    d_meaning := defAt_mk X G a19 l19 c19 k19 fun F => F.binds fun _ _ _ _ _ _ us hl => match us, hl with | [_, _], _ => rfl
    d_rows_of := defAt_mk X G a20 l20 c20 k20 fun F => F.binds fun _ _ _ _ _ _ us hl => match us, hl with | [_], _ => rfl
    d_goes_over := defAt_mk X G a21 l21 c21 k21 fun F => F.binds fun _ _ _ _ _ _ us hl => match us, hl with | [_, _], _ => rfl
    d_above := defAt_mk X G a22 l22 c22 k22 fun F => F.binds fun _ _ _ _ _ _ us hl => match us, hl with | [_], _ => rfl
    d_ways_of := defAt_mk X G a23 l23 c23 k23 fun F => F.binds fun _ _ _ _ _ _ us hl => match us, hl with | [_, _, _], _ => rfl
    d_is_whole := defAt_mk X G a24 l24 c24 k24 fun F => F.binds fun _ _ _ _ _ _ us hl => match us, hl with | [_], _ => rfl
    d_way_by := defAt_mk X G a25 l25 c25 k25 fun F => F.binds fun _ _ _ _ _ _ us hl => match us, hl with | [_, _, _, _], _ => rfl
    d__law_width := defAt_mk X G a26 l26 c26 k26 fun F => F.binds fun _ _ _ _ _ _ us hl => match us, hl with | [_], _ => rfl
    d_ways := defAt_mk X G a27 l27 c27 k27 fun F => F.binds fun _ _ _ _ _ _ us hl => match us, hl with | [_, _, _], _ => rfl
    d__law_many := defAt_mk X G a28 l28 c28 k28 fun F => F.binds fun _ _ _ _ _ _ us hl => match us, hl with | [_, _, _], _ => rfl
    d_over := defAt_mk X G a29 l29 c29 k29 fun F => F.binds fun _ _ _ _ _ _ us hl => match us, hl with | [_, _], _ => rfl
    d_text_of := defAt_mk X G a30 l30 c30 k30 fun F => F.binds fun _ _ _ _ _ _ us hl => match us, hl with | [_, _], _ => rfl
    d_number_of := defAt_mk X G a31 l31 c31 k31 fun F => F.binds fun _ _ _ _ _ _ us hl => match us, hl with | [_, _, _, _], _ => rfl
    d__law_whole := defAt_mk X G a32 l32 c32 k32 fun F => F.binds fun _ _ _ _ _ _ us hl => match us, hl with | [_], _ => rfl
    d__law_can := defAt_mk X G a33 l33 c33 k33 fun F => F.binds fun _ _ _ _ _ _ us hl => match us, hl with | [_, _], _ => rfl
    d__law_ahead := defAt_mk X G a34 l34 c34 k34 fun F => F.binds fun _ _ _ _ _ _ us hl => match us, hl with | [_, _, _, _], _ => rfl
    d__law_ways_right := defAt_mk X G a35 l35 c35 k35 fun F => F.binds fun _ _ _ _ _ _ us hl => match us, hl with | [_, _, _, _], _ => rfl
  }
  exact ⟨_, fun s v => .of_eq rfl, fun base _ _ => ok_law T (fun_mk (st := s_law) l36 c36 k36)⟩
end Ho
open PySem PySem.W PyProof.Rows in
set_option maxHeartbeats 0 in
theorem PySem.Challenge.cw_holetape_k04_whole_ways_holds : PySem.Challenge.rw_holetape_k04_whole_ways.Holds := by
  w_on; o_law; k_head; (case hw => w_witness2)
  k_fill
  refine L2.walk_of (l := PySem.Challenge.rw_holetape_k04_whole_ways) (n := 63) (k := 6) (x := "_law_script") (CX := fun _ => L2.CX0) (sp := fun w => Ho.sp_law _) rfl (by decide) rfl ⟨rfl, by decide, by decide⟩ (fun w h Y => PySem.W.kIn_of Y) ?F (fun _ H a ns hl _ hS => ⟨rfl, .bl true, H, Evl.Ex.refl _, ⟨ns, ⟨_, _, rfl, ⟨a, rfl, hS⟩, rfl⟩, trivial, rfl⟩, fun H2 e => rfl⟩) (fun _ _ _ _ _ h => h)
  case F =>
    intro w mg fa h KX G hmg
    refine' Ho.all_mk KX G hmg ?a0 ?l0 ?c0 ?k0 ?a1 ?l1 ?c1 ?k1 ?a2 ?l2 ?c2 ?k2 ?a3 ?l3 ?c3 ?k3 ?a4 ?l4 ?c4 ?k4 ?a5 ?l5 ?c5 ?k5 ?a6 ?l6 ?c6 ?k6 ?a7 ?l7 ?c7 ?k7 ?a8 ?l8 ?c8 ?k8 ?a9 ?l9 ?c9 ?k9 ?a10 ?l10 ?c10 ?k10 ?a11 ?l11 ?c11 ?k11 ?a12 ?l12 ?c12 ?k12 ?a13 ?l13 ?c13 ?k13 ?a14 ?l14 ?c14 ?k14 ?a15 ?l15 ?c15 ?k15 ?a16 ?l16 ?c16 ?k16 ?a17 ?l17 ?c17 ?k17 ?a18 ?l18 ?c18 ?k18 ?a19 ?l19 ?c19 ?k19 ?a20 ?l20 ?c20 ?k20 ?a21 ?l21 ?c21 ?k21 ?a22 ?l22 ?c22 ?k22 ?a23 ?l23 ?c23 ?k23 ?a24 ?l24 ?c24 ?k24 ?a25 ?l25 ?c25 ?k25 ?a26 ?l26 ?c26 ?k26 ?a27 ?l27 ?c27 ?k27 ?a28 ?l28 ?c28 ?k28 ?a29 ?l29 ?c29 ?k29 ?a30 ?l30 ?c30 ?k30 ?a31 ?l31 ?c31 ?k31 ?a32 ?l32 ?c32 ?k32 ?a33 ?l33 ?c33 ?k33 ?a34 ?l34 ?c34 ?k34 ?a35 ?l35 ?c35 ?k35 ?a36 ?l36 ?c36 ?k36 ?z0 ?z1 ?z2 ?z3 ?z4 ?z5 ?z6 ?z7 ?z8 ?z9 ?z10 ?z11 ?z12 ?z13 ?z14 ?z15 ?z16 ?n0 ?n1 ?n2 ?n3 ?n4
    (case a0 => k_is); (case l0 => k_is); (case c0 => k_is); (case k0 => k_is); (case a1 => k_is); (case l1 => k_is); (case c1 => k_is); (case k1 => k_is); (case a2 => k_is); (case l2 => k_is); (case c2 => k_is); (case k2 => k_is); (case a3 => k_is); (case l3 => k_is); (case c3 => k_is); (case k3 => k_is); (case a4 => k_is); (case l4 => k_is); (case c4 => k_is); (case k4 => k_is); (case a5 => k_is); (case l5 => k_is); (case c5 => k_is); (case k5 => k_is); (case a6 => k_is); (case l6 => k_is); (case c6 => k_is); (case k6 => k_is); (case a7 => k_is); (case l7 => k_is); (case c7 => k_is); (case k7 => k_is); (case a8 => k_is); (case l8 => k_is); (case c8 => k_is); (case k8 => k_is); (case a9 => k_is); (case l9 => k_is); (case c9 => k_is); (case k9 => k_is); (case a10 => k_is); (case l10 => k_is); (case c10 => k_is); (case k10 => k_is); (case a11 => k_is); (case l11 => k_is); (case c11 => k_is); (case k11 => k_is); (case a12 => k_is); (case l12 => k_is); (case c12 => k_is); (case k12 => k_is); (case a13 => k_is); (case l13 => k_is); (case c13 => k_is); (case k13 => k_is); (case a14 => k_is); (case l14 => k_is); (case c14 => k_is); (case k14 => k_is); (case a15 => k_is); (case l15 => k_is); (case c15 => k_is); (case k15 => k_is); (case a16 => k_is); (case l16 => k_is); (case c16 => k_is); (case k16 => k_is); (case a17 => k_is); (case l17 => k_is); (case c17 => k_is); (case k17 => k_is); (case a18 => k_is); (case l18 => k_is); (case c18 => k_is); (case k18 => k_is); (case a19 => k_is); (case l19 => k_is); (case c19 => k_is); (case k19 => k_is); (case a20 => k_is); (case l20 => k_is); (case c20 => k_is); (case k20 => k_is); (case a21 => k_is); (case l21 => k_is); (case c21 => k_is); (case k21 => k_is); (case a22 => k_is); (case l22 => k_is); (case c22 => k_is); (case k22 => k_is); (case a23 => k_is); (case l23 => k_is); (case c23 => k_is); (case k23 => k_is); (case a24 => k_is); (case l24 => k_is); (case c24 => k_is); (case k24 => k_is); (case a25 => k_is); (case l25 => k_is); (case c25 => k_is); (case k25 => k_is); (case a26 => k_is); (case l26 => k_is); (case c26 => k_is); (case k26 => k_is); (case a27 => k_is); (case l27 => k_is); (case c27 => k_is); (case k27 => k_is); (case a28 => k_is); (case l28 => k_is); (case c28 => k_is); (case k28 => k_is); (case a29 => k_is); (case l29 => k_is); (case c29 => k_is); (case k29 => k_is); (case a30 => k_is); (case l30 => k_is); (case c30 => k_is); (case k30 => k_is); (case a31 => k_is); (case l31 => k_is); (case c31 => k_is); (case k31 => k_is); (case a32 => k_is); (case l32 => k_is); (case c32 => k_is); (case k32 => k_is); (case a33 => k_is); (case l33 => k_is); (case c33 => k_is); (case k33 => k_is); (case a34 => k_is); (case l34 => k_is); (case c34 => k_is); (case k34 => k_is); (case a35 => k_is); (case l35 => k_is); (case c35 => k_is); (case k35 => k_is); (case a36 => k_is); (case l36 => k_is); (case c36 => k_is); (case k36 => k_is); (case z0 => k_is); (case z1 => k_is); (case z2 => k_is); (case z3 => k_is); (case z4 => k_is); (case z5 => k_is); (case z6 => k_is); (case z7 => k_is); (case z8 => k_is); (case z9 => k_is); (case z10 => k_is); (case z11 => k_is); (case z12 => k_is); (case z13 => k_is); (case z14 => k_is); (case z15 => k_is); (case z16 => k_is); (case n0 => k_is); (case n1 => k_is); (case n2 => k_is); (case n3 => k_is); (case n4 => k_is)
