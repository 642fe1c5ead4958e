import PyProof.Rows.All
import Wide.All
import OpenK.AllK
import Wide.FinOn
import HandS.ForMost
import HandS.Evl
import HandS.Walk
import HandS.IsInst
import HandS.Wide
import HandS.Conv
import HandS.Style
import HandS.DictComp
import KE.GoesEnum
import KE.GoesMore
import HandS.TupLe
import PySem.Challenge.RW_holetape_k01_reading
set_option Elab.async false
set_option linter.all false
set_option maxRecDepth 100000
set_option maxHeartbeats 4000000
set_option autoImplicit false
/-! Ho, part A: texts by their codes; a def with its promise by its name; what evaluates to what, further -/
namespace Ho
open PySem PySem.Spec PyProof.Rows L2 Evl

/-! ### texts -/
def S (l : List Nat) : Str := ⟨l.toArray⟩
abbrev VS (l : List Nat) : V := .str (S l)
theorem S_len (l : List Nat) : (S l).length = l.length := by
  show l.toArray.size = l.length
  simp
theorem S_cps (l : List Nat) : (S l).cps.toList = l := by
  show l.toArray.toList = l
  simp
theorem S_inj {a b : List Nat} (h : S a = S b) : a = b := by
  have := congrArg (fun z : Str => z.cps.toList) h
  simpa [S] using this
theorem S_of (x : Str) : S x.cps.toList = x := by
  cases x with
  | mk c => simp [S]
theorem S_add (a b : List Nat) : S a ++ S b = S (a ++ b) := by
  show (⟨_⟩ : Str) = ⟨_⟩
  simp [S]
theorem VS_inj {a b : List Nat} (h : VS a = VS b) : a = b := S_inj (V.str.inj h)
theorem VS_ne {a b : List Nat} (h : a ≠ b) : VS a ≠ VS b := fun e => h (VS_inj e)
theorem dec_VS (a b : List Nat) : decide (VS a = VS b) = decide (a = b) := by
  by_cases h : a = b
  · subst h; simp
  · rw [decide_eq_false h, decide_eq_false (VS_ne h)]
theorem dec_VI (a b : Int) : decide (V.int a = V.int b) = decide (a = b) := by
  by_cases h : a = b
  · subst h; simp
  · rw [decide_eq_false h, decide_eq_false fun e => h (V.int.inj e)]
theorem dec_VB (a b : Bool) : decide (V.bl a = V.bl b) = decide (a = b) := by
  cases a <;> cases b <;> rfl
abbrev Txts (t : List (List Nat)) : List V := t.map VS
abbrev Ints (t : List Int) : List V := t.map V.int
abbrev Bls (t : List Bool) : List V := t.map V.bl

/-! ### the module's constants -/
section
variable {X : Cx}
theorem pe_gs {x : Str} {l : List Nat} {pos : Pos} (hg : Gl X x) (hm : ∃ t, X.mg x = some (.str (S l) t)) (hd : (x == ("__debug__" : Str)) = false := by decide) : PE X (.Name x pos) (tC (VS l)) := by
  obtain ⟨t, hm⟩ := hm
  exact pe_glob hg hm ⟨t, rfl⟩ hd
theorem pe_gi {x : Str} {i : Int} {pos : Pos} (hg : Gl X x) (hm : ∃ t, X.mg x = some (.int i t)) (hd : (x == ("__debug__" : Str)) = false := by decide) : PE X (.Name x pos) (tC (.int i)) := by
  obtain ⟨t, hm⟩ := hm
  exact pe_glob hg hm ⟨t, rfl⟩ hd
end

/-! ### a def of the module, with its promise -/
structure DefAt (K : PySem.W.Frag) (mg : Str → Option Value) (x qual : Str) (st : Stmt) (ps : List Str) : Prop where
  ex : ∃ f fd, mg x = some (.ref f) ∧ Fun K x qual st f fd ∧ Binds K fd ps []
structure OkF (P : Program) (w : World) (K : PySem.W.Frag) (mg : Str → Option Value) (base : Heap) (CX : CXT) (x : Str) (k : Nat) (sp : Sp) : Prop where
  ex : ∃ f fd ps, mg x = some (.ref f) ∧ PySem.W.keepIn K (.ref f) = true ∧ Binds K fd ps [] ∧ FnOk P w K mg base CX k f fd ps sp
section
variable {P : Program} {w : World} {K : PySem.W.Frag} {mg : Str → Option Value} {base : Heap}
theorem OkF.of {x qual : Str} {st : Stmt} {ps N : List Str} {k : Nat} {sp : Sp} (D : DefAt K mg x qual st ps) (Sc : FnScope N ps (defScope st)) (len : ∀ vs H Q E, sp vs H Q E → vs.length = ps.length)
    (hbody : ∀ (f : Addr) (cdv : Value) (A : Around) (outer : List Env) (s : Shared) (H : Hp) (vs : List V) (Q : VK) (E : XK), Room k (A.deeper (envOfC qual (defScope st) s.heap.objs.size f cdv)) → sp vs H Q E →
      ∃ t, PSs (cxOf CX0 P w K mg base N qual (defScope st) f cdv A outer s H E).nox (defBody st) t ∧ t { nx := fun _ H' => Q .non H', rt := Q } (start N vs) H) : OkF P w K mg base CX0 x (k + 1) sp := by
  obtain ⟨f, fd, hm, F, b⟩ := D.ex
  exact ⟨f, fd, ps, hm, F.kp, b, F.ok Sc len (hbody f)⟩
end
def tCallO (sp : Sp) (E : XK) (t : TA) : TE := fun σ H Q => t σ H fun vs H1 => sp vs H1 Q E
theorem tCallO_eq (sp : Sp) (E : XK) (t : TA) : tCall sp [] E t = tCallO sp E t := by
  funext σ H Q
  unfold tCall tCallO
  simp only [List.append_nil]
section
variable {X : Cx} {CX : CXT} {k j : Nat} {sp : Sp} {E : XK} {x : Str} {p pos : Pos} {e : Expr} {es : List Expr} {t : TA}
theorem pe_callO (O : OkF X.prog X.w X.K X.mg X.base CX x k sp) (hr : Room j X.A) (hg : Gl X x) (hx : Passes CX X E) (ha : PA X (e :: es) t) (hk : k ≤ j := by decide)
    (hdb : (x == ("__debug__" : Str)) = false := by decide) (he : starEach (e :: es) X.env = (false, eval e X.env) :: starEach es X.env := by rfl) (hpl : (backTo pos (starEach es X.env)).any (·.1) = false := by rfl) :
    PE X (.Call (.Name x p) (e :: es) [] pos) (tCallO sp E t) := by
  obtain ⟨f, fd, ps, hm, hkp, hb, F⟩ := O.ex
  rw [← tCallO_eq]
  exact pe_call F (hr.mono hk) hg hm hkp hb .nil hx ha hdb he hpl
theorem pe_callO0 (O : OkF X.prog X.w X.K X.mg X.base CX x k sp) (hr : Room j X.A) (hg : Gl X x) (hx : Passes CX X E) (hk : k ≤ j := by decide)
    (hdb : (x == ("__debug__" : Str)) = false := by decide) : PE X (.Call (.Name x p) [] [] pos) (tCallO sp E tNil) := by
  obtain ⟨f, fd, ps, hm, hkp, hb, F⟩ := O.ex
  rw [← tCallO_eq]
  exact pe_call0 F (hr.mono hk) hg hm hkp hb .nil hx hdb
end

/-! ### lists and tuples that the heap tracks -/
def SL (K : PySem.W.Frag) (H : Hp) (a : Addr) (xs : List V) : Prop := Rd H a (.lst xs)
def ST (K : PySem.W.Frag) (H : Hp) (a : Addr) (xs : List V) : Prop := Rd H a (.tup xs)
theorem SL.q {K : PySem.W.Frag} {H : Hp} {a : Addr} {xs : List V} (h : SL K H a xs) : SqL K H a xs := .inl h
theorem ST.q {K : PySem.W.Frag} {H : Hp} {a : Addr} {xs : List V} (h : ST K H a xs) : SqT K H a xs := .inl h
theorem exl {K : PySem.W.Frag} {H H' : Hp} {a : Addr} {xs : List V} (e : Ex H H') (h : SL K H a xs) : SL K H' a xs := ex_rd e h
theorem ext {K : PySem.W.Frag} {H H' : Hp} {a : Addr} {xs : List V} (e : Ex H H') (h : ST K H a xs) : ST K H' a xs := ex_rd e h
theorem slof {K : PySem.W.Frag} {H : Hp} {a : Addr} {xs : List V} (h : H a = some (.lst xs)) : SL K H a xs := .inl h
theorem stof {K : PySem.W.Frag} {H : Hp} {a : Addr} {xs : List V} (h : H a = some (.tup xs)) : ST K H a xs := .inl h
theorem rd_ne {H : Hp} {a : Addr} {u : HO} (h : Rd H a u) : H a ≠ none := by
  rcases h with h | ⟨o, h⟩ <;> rw [h] <;> simp
theorem SL.ne {K : PySem.W.Frag} {H : Hp} {a d : Addr} {xs : List V} (h : SL K H a xs) (n : H d = none) : a ≠ d := fun e => rd_ne h (e ▸ n)
theorem ST.ne {K : PySem.W.Frag} {H : Hp} {a d : Addr} {xs : List V} (h : ST K H a xs) (n : H d = none) : a ≠ d := fun e => rd_ne h (e ▸ n)
theorem H_ne {H : Hp} {a d : Addr} {o : HO} (h : H a = some o) (n : H d = none) : a ≠ d := ne_of_none h n

/-! ### what evaluates to what, further -/
/-- to a list of these, new or not -/
def EvQ (K : PySem.W.Frag) (te : TE) (σ : L2.St) (H : Hp) (xs : List V) : Prop := ∀ H1, Ex H H1 → ∀ Q : VK, (∀ a H2, Ex H1 H2 → SL K H2 a xs → Q (.ref a) H2) → te σ H1 Q
/-- to something of which P holds -/
def EvG (te : TE) (σ : L2.St) (H : Hp) (P : V → Hp → Prop) : Prop := ∀ H1, Ex H H1 → ∀ Q : VK, (∀ v H2, Ex H1 H2 → P v H2 → Q v H2) → te σ H1 Q
/-- to a new dict -/
def EvD (te : TE) (σ : L2.St) (H : Hp) (kvs : List (Key × V)) : Prop := ∀ H1, Ex H H1 → ∀ Q : VK, (∀ p H2, H1 p = none → Ex H1 H2 → H2 p = some (.dK kvs) → Q (.ref p) H2) → te σ H1 Q
def Mon (P : V → Hp → Prop) : Prop := ∀ v H H', Ex H H' → P v H → P v H'
def isV (v : V) : V → Hp → Prop := fun u _ => u = v
def isL (K : PySem.W.Frag) (xs : List V) : V → Hp → Prop := fun u H => ∃ a, u = .ref a ∧ SL K H a xs
def isQ (K : PySem.W.Frag) (xs : List V) : V → Hp → Prop := fun u H => ∃ a, u = .ref a ∧ SqL K H a xs
def isD (kvs : List (Key × V)) : V → Hp → Prop := fun u H => ∃ a, u = .ref a ∧ H a = some (.dK kvs)
def isT (K : PySem.W.Frag) (xs : List V) : V → Hp → Prop := fun u H => ∃ a, u = .ref a ∧ ST K H a xs
def AllP : List (V → Hp → Prop) → List V → Hp → Prop
  | [], vs, _ => vs = []
  | P :: Ps, vs, H => ∃ v r, vs = v :: r ∧ P v H ∧ AllP Ps r H
theorem AllP.length : ∀ {Ps : List (V → Hp → Prop)} {vs : List V} {H : Hp}, AllP Ps vs H → vs.length = Ps.length
  | [], vs, H, h => by rw [show vs = [] from h]; rfl
  | P :: Ps, vs, H, h => by
    obtain ⟨v, r, rfl, _, t⟩ := h
    rw [List.length_cons, List.length_cons, AllP.length t]
def EvAG (ta : TA) (σ : L2.St) (H : Hp) (Ps : List (V → Hp → Prop)) : Prop := ∀ H1, Ex H H1 → ∀ Q : List V → Hp → Prop, (∀ vs H2, Ex H1 H2 → AllP Ps vs H2 → Q vs H2) → ta σ H1 Q
theorem mon_V (v : V) : Mon (isV v) := fun _ _ _ _ h => h
theorem mon_L (K : PySem.W.Frag) (xs : List V) : Mon (isL K xs) := fun _ _ _ e ⟨a, h1, h2⟩ => ⟨a, h1, exl e h2⟩
theorem mon_T (K : PySem.W.Frag) (xs : List V) : Mon (isT K xs) := fun _ _ _ e ⟨a, h1, h2⟩ => ⟨a, h1, ext e h2⟩
theorem mon_D (kvs : List (Key × V)) : Mon (isD kvs) := fun _ _ _ e ⟨a, h1, h2⟩ => ⟨a, h1, e a _ h2⟩

section
variable {K : PySem.W.Frag} {σ : L2.St} {H H' : Hp} {ta tb te tx tl : TE} {t u : TT} {x y z v : V} {r : R2} {xs ys : List V} {P : V → Hp → Prop} {Ps : List (V → Hp → Prop)} {tr : TA}
theorem EvQ.mono (e : Ex H H') (h : EvQ K te σ H xs) : EvQ K te σ H' xs := fun H1 a Q q => h H1 (e.trans a) Q q
theorem EvG.mono (e : Ex H H') (h : EvG te σ H P) : EvG te σ H' P := fun H1 a Q q => h H1 (e.trans a) Q q
theorem EvAG.mono {ta : TA} (e : Ex H H') (h : EvAG ta σ H Ps) : EvAG ta σ H' Ps := fun H1 a Q q => h H1 (e.trans a) Q q
theorem q_new (h : EvL te σ H xs) : EvQ K te σ H xs := fun H1 e Q q => h H1 e Q fun p H2 _ e2 h2 => q p H2 e2 (slof h2)
theorem q_old {a : Addr} (h : Ev te σ H (.ref a)) (hs : SL K H a xs) : EvQ K te σ H xs := fun H1 e Q q => h H1 e Q fun H2 e2 => q a H2 e2 (exl (e.trans e2) hs)
theorem g_V (h : Ev te σ H v) : EvG te σ H (isV v) := fun H1 e Q q => h H1 e Q fun H2 e2 => q v H2 e2 rfl
theorem g_L (h : EvQ K te σ H xs) : EvG te σ H (isL K xs) := fun H1 e Q q => h H1 e Q fun a H2 e2 h2 => q _ H2 e2 ⟨a, rfl, h2⟩
theorem g_T (h : EvU te σ H xs) : EvG te σ H (isT K xs) := fun H1 e Q q => h H1 e Q fun a H2 _ e2 h2 => q _ H2 e2 ⟨a, rfl, stof h2⟩
theorem g_Told {a : Addr} (h : Ev te σ H (.ref a)) (hs : ST K H a xs) : EvG te σ H (isT K xs) := fun H1 e Q q => h H1 e Q fun H2 e2 => q _ H2 e2 ⟨a, rfl, ext (e.trans e2) hs⟩
theorem g_D {kvs : List (Key × V)} (h : EvD te σ H kvs) : EvG te σ H (isD kvs) := fun H1 e Q q => h H1 e Q fun a H2 _ e2 h2 => q _ H2 e2 ⟨a, rfl, h2⟩
theorem g_Dold {a : Addr} {kvs : List (Key × V)} (h : Ev te σ H (.ref a)) (hs : H a = some (.dK kvs)) : EvG te σ H (isD kvs) := fun H1 e Q q => h H1 e Q fun H2 e2 => q _ H2 e2 ⟨a, rfl, e2 _ _ (e _ _ hs)⟩
theorem ag_nil : EvAG tNil σ H [] := fun H1 _ Q q => q [] H1 (Ex.refl H1) rfl
theorem ag_cons (h : EvG te σ H P) (m : Mon P) (hr : EvAG tr σ H Ps) : EvAG (tCons te tr) σ H (P :: Ps) := fun H1 e Q q =>
  h H1 e _ fun v H2 e2 hp => hr H2 (e.trans e2) _ fun vs H3 e3 hq => q _ H3 (e2.trans e3) ⟨v, vs, rfl, m v _ _ e3 hp, hq⟩
theorem ag_V (h : Ev te σ H v) (hr : EvAG tr σ H Ps) : EvAG (tCons te tr) σ H (isV v :: Ps) := ag_cons (g_V h) (mon_V v) hr
theorem ag_L (h : EvQ K te σ H xs) (hr : EvAG tr σ H Ps) : EvAG (tCons te tr) σ H (isL K xs :: Ps) := ag_cons (g_L h) (mon_L K xs) hr
theorem ag_D {kvs : List (Key × V)} (h : EvG te σ H (isD kvs)) (hr : EvAG tr σ H Ps) : EvAG (tCons te tr) σ H (isD kvs :: Ps) := ag_cons h (mon_D kvs) hr
theorem ag_T (h : EvG te σ H (isT K xs)) (hr : EvAG tr σ H Ps) : EvAG (tCons te tr) σ H (isT K xs :: Ps) := ag_cons h (mon_T K xs) hr

/-! promises: a value; a new list; a new dict; anything -/
def spV (n : Nat) (R : List V → Hp → V → Prop) : Sp := fun vs H Q _ => vs.length = n ∧ ∃ z H0, Ex H0 H ∧ R vs H0 z ∧ RetV z H Q
def spL (n : Nat) (R : List V → Hp → List V → Prop) : Sp := fun vs H Q _ => vs.length = n ∧ ∃ xs H0, Ex H0 H ∧ R vs H0 xs ∧ RetL xs H Q
def spD (n : Nat) (R : List V → Hp → List (Key × V) → Prop) : Sp := fun vs H Q _ => vs.length = n ∧ ∃ kvs H0, Ex H0 H ∧ R vs H0 kvs ∧ ∀ p H2, H p = none → Ex H H2 → H2 p = some (.dK kvs) → Q (.ref p) H2
def spG (n : Nat) (R : List V → Hp → (Hp → V → Hp → Prop) → Prop) : Sp := fun vs H Q _ => vs.length = n ∧ ∃ G H0, Ex H0 H ∧ R vs H0 G ∧ ∀ v H2, Ex H H2 → G H v H2 → Q v H2
theorem ev_callG {n : Nat} {R : List V → Hp → V → Prop} {E : XK} (h : EvAG tr σ H Ps) (hn : Ps.length = n) (hr : ∀ vs H1, Ex H H1 → AllP Ps vs H1 → R vs H1 z) : Ev (tCallO (spV n R) E tr) σ H z := fun H1 e Q q =>
  h H1 e _ fun vs H2 e2 hp => ⟨hp.length.trans hn, z, H2, Ex.refl H2, hr vs H2 (e.trans e2) hp, fun H3 e3 => q H3 (e2.trans e3)⟩
theorem el_callG {n : Nat} {R : List V → Hp → List V → Prop} {E : XK} (h : EvAG tr σ H Ps) (hn : Ps.length = n) (hr : ∀ vs H1, Ex H H1 → AllP Ps vs H1 → R vs H1 xs) : EvL (tCallO (spL n R) E tr) σ H xs := fun H1 e Q q =>
  h H1 e _ fun vs H2 e2 hp => ⟨hp.length.trans hn, xs, H2, Ex.refl H2, hr vs H2 (e.trans e2) hp, fun p H3 hp3 e3 h3 => q p H3 (fresh_back e2 hp3) (e2.trans e3) h3⟩
theorem ed_callG {n : Nat} {R : List V → Hp → List (Key × V) → Prop} {E : XK} {kvs : List (Key × V)} (h : EvAG tr σ H Ps) (hn : Ps.length = n) (hr : ∀ vs H1, Ex H H1 → AllP Ps vs H1 → R vs H1 kvs) : EvD (tCallO (spD n R) E tr) σ H kvs := fun H1 e Q q =>
  h H1 e _ fun vs H2 e2 hp => ⟨hp.length.trans hn, kvs, H2, Ex.refl H2, hr vs H2 (e.trans e2) hp, fun p H3 hp3 e3 h3 => q p H3 (fresh_back e2 hp3) (e2.trans e3) h3⟩
end
theorem Ev.is {te : TE} {σ : L2.St} {H : Hp} {v w : V} (h : Ev te σ H v) (e : v = w) : Ev te σ H w := e ▸ h
theorem EvL.is {te : TE} {σ : L2.St} {H : Hp} {v w : List V} (h : EvL te σ H v) (e : v = w) : EvL te σ H w := e ▸ h
theorem EvT.is {te : TT} {σ : L2.St} {H : Hp} {v w : Bool} (h : EvT te σ H v) (e : v = w) : EvT te σ H w := e ▸ h
end Ho

/-! Ho, part B: zip of two texts, of three lists -/
namespace Ho
open PySem PySem.Spec PyProof.Rows L2

theorem strit_at {h h' : Heap} {it : Addr} {T : String} {x : Str} {t : Tok} {i : Nat} (s : h.IsStrIter it T x t i) (k : ∀ o, h.get? it = some o → h'.get? it = some o) : h'.IsStrIter it T x t i :=
  let ⟨o, e, c, d⟩ := s; ⟨o, k o e, c, d⟩

/-! ### zip(text, text) -/
def ItzS (x y : Str) : It :=
  ⟨fun i _ => i < x.cps.size ∧ i < y.cps.size,
    fun i H v H' => ∃ T c d, v = .ref T ∧ H T = none ∧ H' = upd H T (.tup [.str ⟨#[c]⟩, .str ⟨#[d]⟩]) ∧ x.cps[i]? = some c ∧ y.cps[i]? = some d,
    fun i _ => x.cps.size ≤ i ∨ y.cps.size ≤ i⟩
theorem turn_zipSS {P : Program} {w : World} {K : PySem.W.Frag} {elts : List Expr} {kk : Nat} {tpos : Pos} {x y : Str} {t1 t2 : Tok} {z TI TO i1 i2 : Addr} (D : ZipSep2 z TI TO i1 i2 [i1] [i2]) :
    Turn P w K (.Tuple elts kk tpos) (ItzS x y) [z, TI, TO, i1, i2] z (fun i h => i ≤ x.cps.size ∧ i ≤ y.cps.size ∧ IsZip h z TI TO .none ∧ IsTupOf2 h TI (.ref i1) (.ref i2) ∧ (∃ a b, IsTupOf2 h TO a b) ∧ h.IsStrIter i1 (strIterType x) x t1 i ∧ h.IsStrIter i2 (strIterType y) y t2 i) where
  mem := by simp
  obj := fun i h st c hc => by
    obtain ⟨_, _, hz, hTI, ⟨a, b, hTO⟩, ⟨o1, e1, _, d1⟩, ⟨o2, e2, _, d2⟩⟩ := st
    have e' : c = z ∨ c = TI ∨ c = TO ∨ c = i1 ∨ c = i2 := by simpa using hc
    rcases e' with q | q | q | q | q
    · rw [q]; exact ⟨_, hz, fun v q => nomatch q⟩
    · rw [q]; exact ⟨_, hTI, fun v q => nomatch q⟩
    · rw [q]; exact ⟨_, hTO, fun v q => nomatch q⟩
    · rw [q]; exact ⟨o1, e1, fun v q => by rw [d1] at q; cases q⟩
    · rw [q]; exact ⟨o2, e2, fun v q => by rw [d2] at q; cases q⟩
  keep := fun i h h' st k => by
    obtain ⟨l1, l2, hz, hTI, ⟨a, b, hTO⟩, h1, h2⟩ := st
    exact ⟨l1, l2, k z (by simp) _ hz, k TI (by simp) _ hTI, ⟨a, b, k TO (by simp) _ hTO⟩, strit_at h1 fun o q => k i1 (by simp) o q, strit_at h2 fun o q => k i2 (by simp) o q⟩
  item := by
    intro X hP hw hK hc i pins s σ H E I hf st hg
    subst hP hw hK
    obtain ⟨_, _, hz, hTI, ⟨x0, y0, hTO⟩, h1, h2⟩ := st
    obtain ⟨g1, g2⟩ := hg
    have hh := I.ok.hd hc
    have hzl : z < s.heap.objs.size := Heap.lt_size hz
    refine wpAny_pyNext_zipD2_item D (Draws.text (A := X.A.in1) hh i1 x t1) (Draws.text (A := X.A.in1) hh i2 y t2) hz hTI hTO h1 h2 g1 g2 fun u1 u2 h' tk y1 y2 b1 b2 d1 d2 b5 b6 hk => ?_
    obtain ⟨c, tc, ec, rfl⟩ := y1
    obtain ⟨d, td, ed, rfl⟩ := y2
    refine ⟨_, rfl, wpAny_letOwnedTupleGo_zip (s := { s with heap := h', toks := tk }) b1 fun h'' z'' sb => ?_⟩
    have hT2 : h''.get? s.heap.objs.size = some { cls := .type "tuple", data := .seq #[.str ⟨#[c]⟩ tc, .str ⟨#[d]⟩ td] } := (sb.2 _ (Nat.ne_of_gt hzl)).trans b5
    have new : ObjOk X.prog X.w (upd H s.heap.objs.size (.tup [.str ⟨#[c]⟩, .str ⟨#[d]⟩])) h'' s.heap.objs.size (.tup [.str ⟨#[c]⟩, .str ⟨#[d]⟩]) :=
      ⟨by show 2 ≤ sizeLine; decide, [.str ⟨#[c]⟩ tc, .str ⟨#[d]⟩ td], .cons ⟨_, rfl⟩ (.cons ⟨_, rfl⟩ .nil), ⟨_, hT2, rfl, _, rfl⟩⟩
    have I1 : Inv X pins σ (upd H s.heap.objs.size (.tup [.str ⟨#[c]⟩, .str ⟨#[d]⟩])) { s with heap := h'', toks := tk } :=
      I.turnedNew (ch := [z, TI, TO, i1, i2]) (fun c o hb q => (sb.2 c (fun q' => hb (by simp [q']))).trans (hk c o (fun q' => hb (by simp [q'])) (fun q' => hb (by simp [q'])) (fun q' => hb (by simp [q'])) (fun q' => hb (by simp [q'])) q)) hf (Nat.le_refl _) new
    refine ⟨.ref s.heap.objs.size, _, I1, rfl, ⟨_, c, d, rfl, I.hok.fresh (Nat.le_refl _), rfl, ec, ed⟩, ⟨g1, g2, z'', ?_, ⟨.str ⟨#[c]⟩ tc, .str ⟨#[d]⟩ td, ?_⟩, ?_, ?_⟩, fun c hcm => ?_⟩
    · exact (sb.2 _ D.TIz).trans (hk _ _ D.TIz D.TITO D.TIi1 D.TIi2 hTI)
    · exact (sb.2 _ D.TOz).trans b2
    · exact strit_at d1 fun o q => (sb.2 _ (fun e => D.zi1 e.symm)).trans q
    · exact strit_at d2 fun o q => (sb.2 _ (fun e => D.zi2 e.symm)).trans q
    · have hlt : c < s.heap.objs.size := by
        have e' : c = z ∨ c = TI ∨ c = TO ∨ c = i1 ∨ c = i2 := by simpa using hcm
        rcases e' with q | q | q | q | q
        · rw [q]; exact hzl
        · rw [q]; exact Heap.lt_size hTI
        · rw [q]; exact Heap.lt_size hTO
        · rw [q]; obtain ⟨_, e1, _⟩ := h1; exact Heap.lt_size e1
        · rw [q]; obtain ⟨_, e2, _⟩ := h2; exact Heap.lt_size e2
      rw [upd_ne (Nat.ne_of_lt hlt)]
      exact (hf c hcm).1
  done := by
    intro X hP hw hK hc i pins s σ H E I hf st hg
    subst hP hw hK
    obtain ⟨l1, l2, hz, hTI, ⟨x0, y0, hTO⟩, h1, h2⟩ := st
    have hh := I.ok.hd hc
    have he : i = x.cps.size ∨ i = y.cps.size := by rcases hg with q | q <;> omega
    exact wpAny_pyNext_zipD2_end D (Draws.text (A := X.A.in1) hh i1 x t1) (Draws.text (A := X.A.in1) hh i2 y t2) hz hTI hTO h1 h2 l1 l2 he fun h' tk hk => ⟨rfl, I.turnedL (t' := tk) (ch := [z, TI, TO, i1, i2]) (fun c o hb q =>
      hk c o (fun q' => hb (by simp [q'])) (fun q' => hb (by simp [q'])) (fun q' => hb (by simp [q'])) (fun q' => hb (by simp [q'])) q) hf⟩
  self := fun A i s Q E st h => wpAny_pyIter_zip st.2.2.1 h
def iZipSS (ta : TA) : TI := fun σ H R => ta σ H fun vs H1 => ∃ x y, vs = [.str x, .str y] ∧ R (ItzS x y) H1
theorem pi_zipSS {X : Cx} {e e2 : Expr} {ta : TA} {p pos tpos : Pos} {elts : List Expr} {kk : Nat} (hg : Gl X "zip") (hm : X.mg "zip" = none) (ha : PA X [e, e2] ta)
    (hs : starEach [e, e2] X.env = (false, eval e X.env) :: starEach [e2] X.env := by rfl) (hpl : (backTo pos (starEach [e2] X.env)).any (·.1) = false := by rfl) :
    PI X (.Tuple elts kk tpos) (.Call (.Name "zip" p) [e, e2] [] pos) (iZipSS ta) := by
  refine ⟨fun pins s σ H R I h => ?_⟩
  refine Call_ (ld_blt I hg hm PyProof.Rows.boot_zip (PyProof.Rows.callWith_type1 (thn (ha.run pos pins s σ H _ I h) fun us s1 ⟨vs, H1, I1, r1, q1⟩ => ?_) hs hpl))
  obtain ⟨x, y, ex, q⟩ := q1
  subst ex
  cases r1 with
  | cons r rr =>
    cases rr with
    | cons r' rr =>
      cases rr
      obtain ⟨t1, rfl⟩ := r
      obtain ⟨t2, rfl⟩ := r'
      refine zip_begins2 (begins_text x t1) (begins_text y t2) trivial trivial fun h' hz hTI hTO g1 g2 hsz hk => wpAny_pyIter_zip hz ?_
      have I2 : Inv X pins σ H1 { s1 with heap := h' } := I1.kept (t' := s1.toks) hk
      refine ⟨s1.heap.objs.size + 4, [s1.heap.objs.size + 4, s1.heap.objs.size + 2, s1.heap.objs.size + 3, s1.heap.objs.size, s1.heap.objs.size + 1], _, _, H1, rfl, I2, turn_zipSS (t1 := t1) (t2 := t2) (zip_sep2 (fp1 := []) (fp2 := []) (by simp) (by simp)),
        ⟨Nat.zero_le _, Nat.zero_le _, hz, hTI, ⟨_, _, hTO⟩, ⟨_, g1, rfl, rfl⟩, ⟨_, g2, rfl, rfl⟩⟩, fun c hcm => ?_, q⟩
      have e' : c = s1.heap.objs.size + 4 ∨ c = s1.heap.objs.size + 2 ∨ c = s1.heap.objs.size + 3 ∨ c = s1.heap.objs.size ∨ c = s1.heap.objs.size + 1 := by simpa using hcm
      have hle : s1.heap.objs.size ≤ c := by
        rcases e' with z | z | z | z | z
        · rw [z]; exact Nat.le_add_right _ _
        · rw [z]; exact Nat.le_add_right _ _
        · rw [z]; exact Nat.le_add_right _ _
        · rw [z]; exact Nat.le_refl _
        · rw [z]; exact Nat.le_add_right _ _
      exact I1.fpOk hle (I1.hok.fresh hle)

/-! ### zip(list, list, list) -/
def Itz3 (K : PySem.W.Frag) (a b c : Addr) : It :=
  ⟨fun i H => ∃ (xs ys zs : List V) (x y z : V), SqL K H a xs ∧ SqL K H b ys ∧ SqL K H c zs ∧ xs[i]? = some x ∧ ys[i]? = some y ∧ zs[i]? = some z,
    fun i H v H' => ∃ T x y z, v = .ref T ∧ H T = none ∧ H' = upd H T (.tup [x, y, z]) ∧ (∀ xs, SqL K H a xs → xs[i]? = some x) ∧ (∀ ys, SqL K H b ys → ys[i]? = some y) ∧ ∀ zs, SqL K H c zs → zs[i]? = some z,
    fun i H => ∃ xs ys zs : List V, SqL K H a xs ∧ SqL K H b ys ∧ SqL K H c zs ∧ i ≤ xs.length ∧ i ≤ ys.length ∧ i ≤ zs.length ∧ (xs.length = i ∨ ys.length = i ∨ zs.length = i)⟩
theorem turn_zip3 {P : Program} {w : World} {K : PySem.W.Frag} {elts : List Expr} {kk : Nat} {tpos : Pos} {a b c z TI TO i1 i2 i3 : Addr} (D : ZipSep3 z TI TO i1 i2 i3 [i1, a] [i2, b] [i3, c]) (n1 : a ≠ i1) (n2 : b ≠ i2) (n3 : c ≠ i3) :
    Turn P w K (.Tuple elts kk tpos) (Itz3 K a b c) [z, TI, TO, i1, i2, i3] z (fun i h => IsZip h z TI TO .none ∧ IsTupOf3 h TI (.ref i1) (.ref i2) (.ref i3) ∧ (∃ x y z, IsTupOf3 h TO x y z) ∧ h.IsListIter i1 a i ∧ h.IsListIter i2 b i ∧ h.IsListIter i3 c i) where
  mem := by simp
  obj := fun i h st c hc => by
    obtain ⟨hz, hTI, ⟨_, _, _, hTO⟩, ⟨o1, e1, _, d1⟩, ⟨o2, e2, _, d2⟩, ⟨o3, e3, _, d3⟩⟩ := st
    have e' : c = z ∨ c = TI ∨ c = TO ∨ c = i1 ∨ c = i2 ∨ c = i3 := by simpa using hc
    rcases e' with q | q | q | q | q | q
    · rw [q]; exact ⟨_, hz, fun v q => nomatch q⟩
    · rw [q]; exact ⟨_, hTI, fun v q => nomatch q⟩
    · rw [q]; exact ⟨_, hTO, fun v q => nomatch q⟩
    · rw [q]; exact ⟨o1, e1, fun v q => by rw [d1] at q; cases q⟩
    · rw [q]; exact ⟨o2, e2, fun v q => by rw [d2] at q; cases q⟩
    · rw [q]; exact ⟨o3, e3, fun v q => by rw [d3] at q; cases q⟩
  keep := fun i h h' st k => by
    obtain ⟨hz, hTI, ⟨x, y, v, hTO⟩, h1, h2, h3⟩ := st
    exact ⟨k z (by simp) _ hz, k TI (by simp) _ hTI, ⟨x, y, v, k TO (by simp) _ hTO⟩, h1.at fun o q => k i1 (by simp) o q, h2.at fun o q => k i2 (by simp) o q, h3.at fun o q => k i3 (by simp) o q⟩
  item := by
    intro X hP hw hK hc i pins s σ H E I hf st hg
    subst hP hw hK
    obtain ⟨hz, hTI, ⟨x0, y0, v0, hTO⟩, h1, h2, h3⟩ := st
    obtain ⟨xs, ys, zs, x, y, v, hqx, hqy, hqz, hx, hy, hv⟩ := hg
    obtain ⟨its, rv, p, _⟩ := I.list hqx
    obtain ⟨its2, rv2, p2, _⟩ := I.list hqy
    obtain ⟨its3, rv3, p3, _⟩ := I.list hqz
    obtain ⟨u, hu, ru⟩ := rv.get hx
    obtain ⟨u2, hu2, ru2⟩ := rv2.get hy
    obtain ⟨u3, hu3, ru3⟩ := rv3.get hv
    have hh := I.ok.hd hc
    have hzl : z < s.heap.objs.size := Heap.lt_size hz
    have l1 : i < its.toArray.size := by
      obtain ⟨q, _⟩ := List.getElem?_eq_some_iff.mp hu
      simpa using q
    have l2 : i < its2.toArray.size := by
      obtain ⟨q, _⟩ := List.getElem?_eq_some_iff.mp hu2
      simpa using q
    have l3 : i < its3.toArray.size := by
      obtain ⟨q, _⟩ := List.getElem?_eq_some_iff.mp hu3
      simpa using q
    refine wpAny_pyNext_zipD3_item D (Draws.list (A := X.A.in1) hh i1 a n1 its.toArray) (Draws.list (A := X.A.in1) hh i2 b n2 its2.toArray) (Draws.list (A := X.A.in1) hh i3 c n3 its3.toArray) hz hTI hTO ⟨h1, p.isList⟩ ⟨h2, p2.isList⟩ ⟨h3, p3.isList⟩ l1 l2 l3
      fun w1 w2 w3 h' tk y1 y2 y3 b1 b2 d1 d2 d3 b5 b6 hk => ?_
    have ew1 : w1 = u := by
      have y1 : its.toArray[i]? = some w1 := y1
      simp only [List.getElem?_toArray] at y1
      exact Option.some.inj (y1.symm.trans hu)
    have ew2 : w2 = u2 := by
      have y2 : its2.toArray[i]? = some w2 := y2
      simp only [List.getElem?_toArray] at y2
      exact Option.some.inj (y2.symm.trans hu2)
    have ew3 : w3 = u3 := by
      have y3 : its3.toArray[i]? = some w3 := y3
      simp only [List.getElem?_toArray] at y3
      exact Option.some.inj (y3.symm.trans hu3)
    subst ew1 ew2 ew3
    refine ⟨_, rfl, wpAny_letOwnedTupleGo_zip (s := { s with heap := h', toks := tk }) b1 fun h'' z'' sb => ?_⟩
    have hT2 : h''.get? s.heap.objs.size = some { cls := .type "tuple", data := .seq #[w1, w2, w3] } := (sb.2 _ (Nat.ne_of_gt hzl)).trans b5
    have new : ObjOk X.prog X.w (upd H s.heap.objs.size (.tup [x, y, v])) h'' s.heap.objs.size (.tup [x, y, v]) :=
      ⟨by show 3 ≤ sizeLine; decide, [w1, w2, w3], .cons ru (.cons ru2 (.cons ru3 .nil)), ⟨_, hT2, rfl, _, rfl⟩⟩
    have I1 : Inv X pins σ (upd H s.heap.objs.size (.tup [x, y, v])) { s with heap := h'', toks := tk } :=
      I.turnedNew (ch := [z, TI, TO, i1, i2, i3]) (fun c o hb q => (sb.2 c (fun q' => hb (by simp [q']))).trans (hk c o (fun q' => hb (by simp [q'])) (fun q' => hb (by simp [q'])) (fun q' => hb (by simp [q'])) (fun q' => hb (by simp [q'])) (fun q' => hb (by simp [q'])) q)) hf (Nat.le_refl _) new
    refine ⟨.ref s.heap.objs.size, _, I1, rfl, ⟨_, x, y, v, rfl, I.hok.fresh (Nat.le_refl _), rfl, fun l hl => by rw [I.list_inj hl hqx]; exact hx, fun l hl => by rw [I.list_inj hl hqy]; exact hy, fun l hl => by rw [I.list_inj hl hqz]; exact hv⟩, ⟨z'', ?_, ⟨w1, w2, w3, ?_⟩, ?_, ?_, ?_⟩, fun c hcm => ?_⟩
    · exact (sb.2 _ D.TIz).trans (hk _ _ D.TIz D.TITO D.TIi1 D.TIi2 D.TIi3 hTI)
    · exact (sb.2 _ D.TOz).trans b2
    · exact d1.1.at fun o q => (sb.2 _ (fun e => D.zf1 (by simp [e]))).trans q
    · exact d2.1.at fun o q => (sb.2 _ (fun e => D.zf2 (by simp [e]))).trans q
    · exact d3.1.at fun o q => (sb.2 _ (fun e => D.zf3 (by simp [e]))).trans q
    · have hlt : c < s.heap.objs.size := by
        have e' : c = z ∨ c = TI ∨ c = TO ∨ c = i1 ∨ c = i2 ∨ c = i3 := by simpa using hcm
        rcases e' with q | q | q | q | q | q
        · rw [q]; exact hzl
        · rw [q]; exact Heap.lt_size hTI
        · rw [q]; exact Heap.lt_size hTO
        · rw [q]; obtain ⟨_, e1, _⟩ := h1; exact Heap.lt_size e1
        · rw [q]; obtain ⟨_, e2, _⟩ := h2; exact Heap.lt_size e2
        · rw [q]; obtain ⟨_, e3, _⟩ := h3; exact Heap.lt_size e3
      rw [upd_ne (Nat.ne_of_lt hlt)]
      exact (hf c hcm).1
  done := by
    intro X hP hw hK hc i pins s σ H E I hf st hg
    subst hP hw hK
    obtain ⟨hz, hTI, ⟨x0, y0, v0, hTO⟩, h1, h2, h3⟩ := st
    obtain ⟨xs, ys, zs, hqx, hqy, hqz, g1, g2, g3, hend⟩ := hg
    obtain ⟨its, rv, p, _⟩ := I.list hqx
    obtain ⟨its2, rv2, p2, _⟩ := I.list hqy
    obtain ⟨its3, rv3, p3, _⟩ := I.list hqz
    have hh := I.ok.hd hc
    have e1 : its.toArray.size = xs.length := by simpa using rv.length.symm
    have e2 : its2.toArray.size = ys.length := by simpa using rv2.length.symm
    have e3 : its3.toArray.size = zs.length := by simpa using rv3.length.symm
    exact wpAny_pyNext_zipD3_end D (Draws.list (A := X.A.in1) hh i1 a n1 its.toArray) (Draws.list (A := X.A.in1) hh i2 b n2 its2.toArray) (Draws.list (A := X.A.in1) hh i3 c n3 its3.toArray) hz hTI hTO ⟨h1, p.isList⟩ ⟨h2, p2.isList⟩ ⟨h3, p3.isList⟩ (by omega) (by omega) (by omega) (by omega)
      fun h' tk hk => ⟨rfl, I.turnedL (t' := tk) (ch := [z, TI, TO, i1, i2, i3]) (fun c o hb q =>
      hk c o (fun q' => hb (by simp [q'])) (fun q' => hb (by simp [q'])) (fun q' => hb (by simp [q'])) (fun q' => hb (by simp [q'])) (fun q' => hb (by simp [q'])) q) hf⟩
  self := fun A i s Q E st h => wpAny_pyIter_zip st.1 h
def iZip3 (K : PySem.W.Frag) (ta : TA) : TI := fun σ H R => ta σ H fun vs H1 => ∃ a b c xs ys zs, vs = [.ref a, .ref b, .ref c] ∧ SqL K H1 a xs ∧ SqL K H1 b ys ∧ SqL K H1 c zs ∧ R (Itz3 K a b c) H1
theorem pi_zip3 {X : Cx} {e e2 e3 : Expr} {ta : TA} {p pos tpos : Pos} {elts : List Expr} {kk : Nat} (hg : Gl X "zip") (hm : X.mg "zip" = none) (ha : PA X [e, e2, e3] ta)
    (hs : starEach [e, e2, e3] X.env = (false, eval e X.env) :: starEach [e2, e3] X.env := by rfl) (hpl : (backTo pos (starEach [e2, e3] X.env)).any (·.1) = false := by rfl) :
    PI X (.Tuple elts kk tpos) (.Call (.Name "zip" p) [e, e2, e3] [] pos) (iZip3 X.K ta) := by
  refine ⟨fun pins s σ H R I h => ?_⟩
  refine Call_ (ld_blt I hg hm PyProof.Rows.boot_zip (PyProof.Rows.callWith_type1 (thn (ha.run pos pins s σ H _ I h) fun us s1 ⟨vs, H1, I1, r1, q1⟩ => ?_) hs hpl))
  obtain ⟨a, b, c, xs, ys, zs, ex, hqx, hqy, hqz, q⟩ := q1
  subst ex
  cases r1 with
  | cons r rr =>
    cases rr with
    | cons r' rr =>
      cases rr with
      | cons r'' rr =>
        cases rr
        cases r
        cases r'
        cases r''
        obtain ⟨its, rv, p1, _⟩ := I1.list hqx
        obtain ⟨its2, rv2, p2, _⟩ := I1.list hqy
        obtain ⟨its3, rv3, p3, _⟩ := I1.list hqz
        have la : a < s1.heap.objs.size := p1.lt
        have lb : b < s1.heap.objs.size := p2.lt
        have lc : c < s1.heap.objs.size := p3.lt
        refine zip_begins3 (begins_list a its.toArray) (begins_list b its2.toArray) (begins_list c its3.toArray) p1.isList p2.isList p3.isList fun h' hz hTI hTO g1 g2 g3 hsz hk => wpAny_pyIter_zip hz ?_
        have I2 : Inv X pins σ H1 { s1 with heap := h' } := I1.kept (t' := s1.toks) hk
        refine ⟨s1.heap.objs.size + 5, [s1.heap.objs.size + 5, s1.heap.objs.size + 3, s1.heap.objs.size + 4, s1.heap.objs.size, s1.heap.objs.size + 1, s1.heap.objs.size + 2], _, _, H1, rfl, I2,
          turn_zip3 (zip_sep3 (fp1 := [a]) (fp2 := [b]) (fp3 := [c]) (by simpa using la) (by simpa using lb) (by simpa using lc)) (Nat.ne_of_lt la) (Nat.ne_of_lt (Nat.lt_succ_of_lt lb)) (Nat.ne_of_lt (Nat.lt_succ_of_lt (Nat.lt_succ_of_lt lc))),
          ⟨hz, hTI, ⟨_, _, _, hTO⟩, ⟨_, g1, rfl, rfl⟩, ⟨_, g2, rfl, rfl⟩, ⟨_, g3, rfl, rfl⟩⟩, fun d hcm => ?_, q⟩
        have hle : s1.heap.objs.size ≤ d := by
          have e' : d = s1.heap.objs.size + 5 ∨ d = s1.heap.objs.size + 3 ∨ d = s1.heap.objs.size + 4 ∨ d = s1.heap.objs.size ∨ d = s1.heap.objs.size + 1 ∨ d = s1.heap.objs.size + 2 := by simpa using hcm
          rcases e' with z | z | z | z | z | z
          · rw [z]; exact Nat.le_add_right _ _
          · rw [z]; exact Nat.le_add_right _ _
          · rw [z]; exact Nat.le_add_right _ _
          · rw [z]; exact Nat.le_refl _
          · rw [z]; exact Nat.le_add_right _ _
          · rw [z]; exact Nat.le_add_right _ _
        exact I1.fpOk hle (I1.hok.fresh hle)
end Ho

/-! Ho, part C: dicts of texts to texts; == and != of them -/
namespace Ho
open PySem PySem.Spec PyProof.Rows L2 Evl

abbrev Row := List Nat
/-- a dict of texts to texts -/
abbrev Dic := List (Row × Row)
def DS (r : Dic) : List (Key × V) := r.map fun p => (Sum.inr (S p.1), VS p.2)
def look (r : Dic) (k : Row) : Option Row := (r.find? fun p => decide (p.1 = k)).map (·.2)
def put (r : Dic) (k v : Row) : Dic := if (r.any fun p => decide (p.1 = k)) = true then r.map (fun p => if p.1 = k then (p.1, v) else p) else r ++ [(k, v)]
def dEq (r q : Dic) : Bool := r.length == q.length && r.all fun p => decide (look q p.1 = some p.2)
theorem keyS_eq {a b : Row} : (Sum.inr (S a) : Key) = Sum.inr (S b) ↔ a = b := ⟨fun h => S_inj (Sum.inr.inj h), fun h => by rw [h]⟩
theorem look_nil (k : Row) : look [] k = none := rfl
theorem look_cons (p : Row × Row) (r : Dic) (k : Row) : look (p :: r) k = if p.1 = k then some p.2 else look r k := by
  unfold look
  by_cases h : p.1 = k
  · simp [h]
  · simp [h]
theorem DS_val (k : Row) : ∀ r : Dic, valV (DS r) (Sum.inr (S k) : Key) = (look r k).map VS
  | [] => rfl
  | p :: r => by
    rw [look_cons]
    by_cases h : p.1 = k
    · rw [if_pos h]
      exact valV_pos (keyS_eq.mpr h)
    · rw [if_neg h, ← DS_val k r]
      exact valV_neg fun e => h (keyS_eq.mp e)
theorem DS_len (r : Dic) : (DS r).length = r.length := by simp [DS]
theorem DS_any (k : Row) (r : Dic) : ((DS r).any fun kv => decide (kv.1 = (Sum.inr (S k) : Key))) = r.any fun p => decide (p.1 = k) := by
  unfold DS
  rw [List.any_map]
  congr 1
  funext p
  show decide ((Sum.inr (S p.1) : Key) = Sum.inr (S k)) = decide (p.1 = k)
  by_cases h : p.1 = k
  · rw [h]; simp
  · rw [decide_eq_false h, decide_eq_false fun e => h (keyS_eq.mp e)]
theorem DS_put (r : Dic) (k v : Row) : putK (DS r) (Sum.inr (S k) : Key) (VS v) = DS (put r k v) := by
  unfold putK put
  rw [DS_any]
  by_cases h : (r.any fun p => decide (p.1 = k)) = true
  · rw [if_pos h, if_pos h]
    unfold DS
    rw [List.map_map, List.map_map]
    congr 1
    funext p
    show (if (Sum.inr (S p.1) : Key) = Sum.inr (S k) then _ else _) = ((Sum.inr (S (if p.1 = k then (p.1, v) else p).1) : Key), VS (if p.1 = k then (p.1, v) else p).2)
    by_cases e : p.1 = k
    · rw [if_pos (keyS_eq.mpr e), if_pos e]
    · rw [if_neg fun q => e (keyS_eq.mp q), if_neg e]
  · rw [if_neg h, if_neg h]
    simp [DS]
theorem DS_nil : DS [] = [] := rfl
theorem look_mem {r : Dic} {k v : Row} (h : look r k = some v) : (k, v) ∈ r := by
  induction r with
  | nil => cases h
  | cons p r ih =>
    rw [look_cons] at h
    by_cases e : p.1 = k
    · rw [if_pos e] at h
      cases h
      subst e
      exact List.mem_cons_self
    · rw [if_neg e] at h
      exact List.mem_cons_of_mem _ (ih h)
theorem look_nodup {r : Dic} (nd : (r.map (·.1)).Nodup) : ∀ p ∈ r, look r p.1 = some p.2 := by
  induction r with
  | nil => intro p h; cases h
  | cons q r ih =>
    intro p h
    rw [List.map_cons, List.nodup_cons] at nd
    rw [look_cons]
    rcases List.mem_cons.mp h with e | h'
    · rw [e, if_pos rfl]
    · rw [if_neg fun e => nd.1 (List.mem_map.mpr ⟨p, h', e.symm⟩)]
      exact ih nd.2 p h'
theorem dEq_same {r : Dic} (nd : (r.map (·.1)).Nodup) : dEq r r = true := by
  unfold dEq
  simp only [beq_self_eq_true, Bool.true_and, List.all_eq_true, decide_eq_true_eq]
  exact look_nodup nd
theorem look_none {r : Dic} {k : Row} : look r k = none ↔ ∀ p ∈ r, p.1 ≠ k := by
  unfold look
  simp
theorem look_isSome {r : Dic} {k : Row} : (look r k).isSome = r.any fun p => decide (p.1 = k) := by
  unfold look
  rw [Option.isSome_map, Bool.eq_iff_iff, List.find?_isSome, List.any_eq_true]
theorem put_keys (r : Dic) (k v : Row) : (put r k v).map (·.1) = if k ∈ r.map (·.1) then r.map (·.1) else r.map (·.1) ++ [k] := by
  unfold put
  by_cases h : (r.any fun p => decide (p.1 = k)) = true
  · rw [if_pos h, if_pos]
    · rw [List.map_map]
      apply List.map_congr_left
      intro p hp
      show (if p.1 = k then (p.1, v) else p).1 = p.1
      by_cases e : p.1 = k
      · rw [if_pos e]
      · rw [if_neg e]
    · obtain ⟨p, hp, e⟩ := List.any_eq_true.mp h
      exact List.mem_map.mpr ⟨p, hp, of_decide_eq_true e⟩
  · rw [if_neg h, if_neg]
    · simp
    · intro hm
      obtain ⟨p, hp, e⟩ := List.mem_map.mp hm
      exact h (List.any_eq_true.mpr ⟨p, hp, decide_eq_true e⟩)
theorem put_nodup {r : Dic} (nd : (r.map (·.1)).Nodup) (k v : Row) : ((put r k v).map (·.1)).Nodup := by
  rw [put_keys]
  by_cases h : k ∈ r.map (·.1)
  · rw [if_pos h]; exact nd
  · rw [if_neg h]
    rw [List.nodup_append]
    refine ⟨nd, by simp, ?_⟩
    intro a ha b hb
    have : b = k := by simpa using hb
    subst this
    exact fun e => h (e ▸ ha)
theorem put_mem {r : Dic} {k v : Row} {p : Row × Row} (h : p ∈ put r k v) : p ∈ r ∨ p = (k, v) := by
  unfold put at h
  split at h
  · obtain ⟨q, hq, e⟩ := List.mem_map.mp h
    by_cases z : q.1 = k
    · rw [if_pos z] at e
      right; rw [← e, z]
    · rw [if_neg z] at e
      left; rw [← e]; exact hq
  · rcases List.mem_append.mp h with h | h
    · exact .inl h
    · right; simpa using h
theorem put_ne_nil (r : Dic) (k v : Row) : put r k v ≠ [] := by
  unfold put
  split
  · rename_i h
    obtain ⟨p, hp, _⟩ := List.any_eq_true.mp h
    intro e
    have : r = [] := by simpa using e
    rw [this] at hp; cases hp
  · simp
theorem put_len (r : Dic) (k v : Row) : (put r k v).length ≤ r.length + 1 := by
  unfold put
  split <;> simp

/-! ### == of two such dicts -/
theorem hits_S {A : Around} {s : Shared} {q : Dic} {vb : List (Key × Value)} (rb : KV (DS q) vb) : ∀ (r : Dic) (va : List (Key × Value)), KV (DS r) va →
    PySem.W.KeqHits A s vb va (r.all fun p => decide (look q p.1 = some p.2))
  | [], va, ra => by
    cases ra
    exact .nil
  | p :: r, va, ra => by
    unfold KV DS at ra
    rw [List.map_cons] at ra
    cases ra with
    | @cons _ z _ zs h t =>
      obtain ⟨h1, h2⟩ := h
      obtain ⟨k, v⟩ := z
      have h1' : (Sum.inr (S p.1) : Key) = k := h1
      subst h1'
      have h2' : RelV (VS p.2) v := h2
      obtain ⟨tv, rfl⟩ := h2'
      have rr := rb.val (Sum.inr (S p.1))
      rw [DS_val] at rr
      have ih := hits_S rb r zs t (A := A) (s := s)
      rw [List.all_cons]
      cases e : look q p.1 with
      | none =>
        rw [e] at rr
        rw [decide_eq_false (show ¬ (none : Option Row) = some p.2 from fun z => nomatch z), Bool.false_and]
        exact .miss rr.none_of
      | some y =>
        rw [e] at rr
        obtain ⟨u, hu, ru⟩ := rr.some_of
        obtain ⟨tu, rfl⟩ := ru
        have e2 : decide (some y = some p.2) = (S p.2 == S y) := by
          by_cases z : y = p.2
          · subst z; simp
          · rw [decide_eq_false fun w => z (Option.some.inj w)]
            exact (beq_eq_false_iff_ne.mpr fun w => z (S_inj w).symm).symm
        rw [e2]
        exact .hit hu (SeqAt.EqAt.str_str (S p.2) tv (S y) tu) ih
section
variable {X : Cx}
def rEqDS (neg : Bool) : R2 := fun x y H Q => ∃ a b r q, x = .ref a ∧ y = .ref b ∧ H a = some (.dK (DS r)) ∧ H b = some (.dK (DS q)) ∧ Q (.bl (if neg then !dEq r q else dEq r q)) H
theorem op_eq_dict (hu : X.A.units < cLine) : OpR X (compareOp .Eq) (rEqDS false) := by
  intro pins s σ H x y v u Q I rx ry h
  obtain ⟨a, b, r, q, rfl, rfl, ea, eb, k⟩ := h
  obtain rfl : v = Value.ref a := rx
  obtain rfl : u = Value.ref b := ry
  obtain ⟨_, ya, va, ra, da⟩ := (show ObjOk X.prog X.w H s.heap a (.dK (DS r)) from I.hok a _ ea)
  obtain ⟨_, yb, vb, rb, db⟩ := (show ObjOk X.prog X.w H s.heap b (.dK (DS q)) from I.hok b _ eb)
  refine PySem.W.keq_eq (knd := mixKind X.prog X.w) ya yb da db hu (fun _ => hits_S rb r va ra) (fin_bl I k ?_)
  have h1 := ra.length
  have h2 := rb.length
  rw [DS_len] at h1 h2
  simp only [Bool.false_eq_true, if_false]
  rw [dEq, ← h1, ← h2]
theorem op_ne_dict (hu : X.A.units < cLine) : OpR X (compareOp .NotEq) (rEqDS true) := by
  intro pins s σ H x y v u Q I rx ry h
  obtain ⟨a, b, r, q, rfl, rfl, ea, eb, k⟩ := h
  obtain rfl : v = Value.ref a := rx
  obtain rfl : u = Value.ref b := ry
  obtain ⟨_, ya, va, ra, da⟩ := (show ObjOk X.prog X.w H s.heap a (.dK (DS r)) from I.hok a _ ea)
  obtain ⟨_, yb, vb, rb, db⟩ := (show ObjOk X.prog X.w H s.heap b (.dK (DS q)) from I.hok b _ eb)
  refine PySem.W.keq_ne (knd := mixKind X.prog X.w) ya yb da db hu (fun _ => hits_S rb r va ra) (fin_bl I k ?_)
  have h1 := ra.length
  have h2 := rb.length
  rw [DS_len] at h1 h2
  simp only [if_true]
  rw [dEq, ← h1, ← h2]
end
end Ho

/-! Ho, part D: expressions: what each evaluates to -/
namespace Ho
open PySem PySem.Spec PyProof.Rows L2 Evl

/-! ### texts by their codes: joined, counted, cut -/
theorem joinL_nil : ∀ ys : List Row, TL.joinL [] ys = ys.flatten
  | [] => rfl
  | [p] => by simp [TL.joinL]
  | p :: q :: r => by
    show p ++ ([] ++ TL.joinL [] (q :: r)) = _
    rw [joinL_nil (q :: r)]
    simp
theorem map_S_tl : ∀ l : List Row, (l.map S).map TL.tl = l
  | [] => rfl
  | x :: l => by
    rw [List.map_cons, List.map_cons, map_S_tl l]
    rfl
theorem join_nil (ys : List Row) : Txt.join (S []) (ys.map S) = S ys.flatten := by
  rw [TL.join_eq]
  refine TL.ext_tl ?_
  rw [TL.tl_join, map_S_tl]
  show TL.joinL (S []).cps.toList ys = (S ys.flatten).cps.toList
  rw [S_cps, S_cps, joinL_nil]
theorem at_one {l : Row} {c i : Nat} : StrLaws.At (S l) (S [c]) (S l).length i ↔ l[i]? = some c := by
  have hne : TL.tl (S [c]) ≠ [] := by show (S [c]).cps.toList ≠ []; rw [S_cps]; simp
  rw [TL.at_iff hne]
  show ((((S l).cps.toList.drop i).take (S [c]).cps.toList.length) == (S [c]).cps.toList) = true ↔ _
  rw [S_cps, S_cps]
  simp only [beq_iff_eq, List.length_singleton]
  rw [← List.head?_drop]
  cases l.drop i with
  | nil => simp
  | cons a r => simp
theorem chain_count {l : Row} {c : Nat} : ∀ (cuts : List Nat) (a f : Nat), StrLaws.ChainG (S l) (S [c]) (S l).length a cuts f → (∀ k, f ≤ k → ¬ StrLaws.At (S l) (S [c]) (S l).length k) → cuts.length = (l.drop a).count c
  | [], a, f, h, hn => by
    have e : f = a := h
    subst e
    rw [eq_comm, List.length_nil, List.count_eq_zero]
    intro hm
    obtain ⟨i, hi⟩ := List.getElem?_of_mem hm
    rw [List.getElem?_drop] at hi
    exact hn (f + i) (Nat.le_add_right _ _) (at_one.mpr hi)
  | d :: r, a, f, h, hn => by
    obtain ⟨hac, hA, hno, hr⟩ := h
    have ih := chain_count r (d + 1) f (by rw [S_len] at hr; exact hr) hn
    have hd : l[d]? = some c := at_one.mp hA
    obtain ⟨hlt, hdc⟩ := List.getElem?_eq_some_iff.mp hd
    have e1 : l.drop a = (l.drop a).take (d - a) ++ (c :: l.drop (d + 1)) := by
      rw [← hdc, ← List.drop_eq_getElem_cons hlt]
      have : l.drop d = (l.drop a).drop (d - a) := by rw [List.drop_drop]; congr 1; omega
      rw [this, List.take_append_drop]
    rw [e1, List.count_append, List.count_cons, List.length_cons, ih]
    have e2 : ((l.drop a).take (d - a)).count c = 0 := by
      rw [List.count_eq_zero]
      intro hm
      obtain ⟨i, hi⟩ := List.getElem?_of_mem hm
      have hi2 : i < d - a := by
        have := (List.getElem?_eq_some_iff.mp hi).1
        rw [List.length_take] at this
        omega
      rw [List.getElem?_take_of_lt hi2, List.getElem?_drop] at hi
      exact hno (a + i) (Nat.le_add_right _ _) (by omega) (at_one.mpr hi)
    rw [e2]
    simp
theorem count_one (l : Row) (c : Nat) : Txt.count (S l) (S [c]) = (l.count c : Nat) := by
  obtain ⟨f, h1, h2⟩ := StrLaws.occ_tight (S l) (S [c]) (by rw [S_len]; exact Nat.le_refl _)
  have := chain_count _ 0 f h1 h2
  rw [List.drop_zero] at this
  show ((_ : Nat) : Int) = _
  rw [this]
/-- a cut of any list -/
def cutG {α : Type} (l : List α) (lo hi : Option Int) : List α := List.take (HT.sIx l.length l.length hi - HT.sIx l.length 0 lo) (List.drop (HT.sIx l.length 0 lo) l)
theorem cutV_map {α : Type} (f : α → V) (l : List α) (lo hi : Option Int) : cutV (l.map f) lo hi = (cutG l lo hi).map f := by
  unfold cutV cutG
  rw [List.length_map, List.map_take, List.map_drop]
theorem cutS_S (l : Row) (lo hi : Option Int) : cutS (S l) lo hi = S (cutG l lo hi) := by
  unfold cutS cutG
  rw [S_len, S_cps]
  rfl
theorem cutG_to {α : Type} (l : List α) {n : Int} (h : 0 ≤ n) : cutG l none (some n) = l.take n.toNat := by
  obtain ⟨k, rfl⟩ := Int.eq_ofNat_of_zero_le h
  unfold cutG
  rw [HT.sIx_nat, HT.sIx_none]
  simp only [Nat.sub_zero, List.drop_zero, Int.toNat_natCast]
  rw [List.take_eq_take_iff]
  omega
theorem cutG_from {α : Type} (l : List α) {n : Int} (h : 0 ≤ n) : cutG l (some n) none = l.drop n.toNat := by
  obtain ⟨k, rfl⟩ := Int.eq_ofNat_of_zero_le h
  unfold cutG
  rw [HT.sIx_nat, HT.sIx_none]
  simp only [Int.toNat_natCast]
  rw [List.take_of_length_le (by rw [List.length_drop]; omega)]
  by_cases hk : k ≤ l.length
  · rw [Nat.min_eq_left hk]
  · rw [Nat.min_eq_right (by omega), List.drop_eq_nil_of_le (Nat.le_refl _), List.drop_eq_nil_of_le (by omega)]
theorem cutG_both {α : Type} (l : List α) {m n : Int} (h : 0 ≤ m) (h2 : 0 ≤ n) : cutG l (some m) (some n) = (l.take n.toNat).drop m.toNat := by
  obtain ⟨j, rfl⟩ := Int.eq_ofNat_of_zero_le h
  obtain ⟨k, rfl⟩ := Int.eq_ofNat_of_zero_le h2
  unfold cutG
  rw [HT.sIx_nat, HT.sIx_nat]
  simp only [Int.toNat_natCast]
  rw [List.drop_take]
  by_cases hj : j ≤ l.length
  · rw [Nat.min_eq_left hj, List.take_eq_take_iff, List.length_drop]
    omega
  · rw [Nat.min_eq_right (show l.length ≤ j by omega), List.drop_eq_nil_of_le (Nat.le_refl _), List.drop_eq_nil_of_le (as := l) (i := j) (by omega)]
    simp
theorem cutG_butlast {α : Type} (l : List α) : cutG l none (some (-1)) = l.dropLast := by
  unfold cutG
  rw [HT.sIx_none]
  have e : HT.sIx l.length l.length (some (-1)) = l.length - 1 := by
    show (if (-1 : Int) < 0 then ((-1 : Int) + (l.length : Int)).toNat else min (-1 : Int).toNat l.length) = _
    rw [if_pos (by decide)]
    omega
  rw [e, Nat.sub_zero, List.drop_zero, List.dropLast_eq_take]
theorem cutG_all {α : Type} (l : List α) : cutG l none none = l := by
  unfold cutG
  rw [HT.sIx_none, HT.sIx_none]
  simp

/-! ### readings with names -/
section
variable {X : Cx}
def rAddS : R2 := fun x y H Q => ∃ i j, x = .str i ∧ y = .str j ∧ i.length + j.length ≤ sizeLine ∧ Q (.str (i ++ j)) H
theorem op_addS : OpR X (binaryOp .Add) rAddS := op_add_str
def rInC (neg : Bool) : R2 := fun x y H Q => ∃ (c : Nat) (z : Str), x = .str ⟨#[c]⟩ ∧ y = .str z ∧ Q (.bl (if neg then !decide (c ∈ z.cps.toList) else decide (c ∈ z.cps.toList))) H
theorem op_inC : OpR X (compareOp .In) (rInC false) := op_in_sign
theorem op_ninC : OpR X (compareOp .NotIn) (rInC true) := op_notIn_sign
def rIsNo (neg : Bool) : R2 := fun x y H Q => y = .non ∧ Q (.bl (if neg then !decide (x = .non) else decide (x = .non))) H
theorem op_isNo : OpR X (compareOp .Is) (rIsNo false) := op_isN
theorem op_isntNo : OpR X (compareOp .IsNot) (rIsNo true) := op_notN
def rAbs : List V → Hp → VK → Prop := fun xs H Q => ∃ i, xs = [.int i] ∧ Q (.int (if i < 0 then -i else i)) H
theorem cb_abs : CallR X (.builtin "abs") rAbs := call_abs
def rMx : List V → Hp → VK → Prop := fun xs H Q => ∃ i j, xs = [.int i, .int j] ∧ Q (.int (if j > i then j else i)) H
def rMn : List V → Hp → VK → Prop := fun xs H Q => ∃ i j, xs = [.int i, .int j] ∧ Q (.int (if j < i then j else i)) H
theorem cb_max2 (hc : X.calm = true) : CallR X (.builtin "max") rMx := call_max2 hc
theorem cb_min2 (hc : X.calm = true) : CallR X (.builtin "min") rMn := call_min2 hc
def rLenQ (K : PySem.W.Frag) : List V → Hp → VK → Prop := fun xs H Q => ∃ p ys, xs = [.ref p] ∧ (SqL K H p ys ∨ SqT K H p ys) ∧ Q (.int ys.length) H
theorem cb_lenQ : CallR X (.builtin "len") (rLenQ X.K) := call_len_seq
def rLenS : List V → Hp → VK → Prop := fun xs H Q => ∃ z, xs = [.str z] ∧ z.length ≤ sizeLine ∧ Q (.int z.length) H
theorem cb_lenS : CallR X (.builtin "len") rLenS := call_len_str
def rLenD : List V → Hp → VK → Prop := fun xs H Q => ∃ a kvs, xs = [V.ref a] ∧ H a = some (.dK kvs) ∧ Q (.int kvs.length) H
theorem cb_lenD : CallR X (.builtin "len") rLenD := call_lenD
def rListQ (K : PySem.W.Frag) : List V → Hp → VK → Prop := fun xs H Q => ∃ p ys, xs = [.ref p] ∧ (SqL K H p ys ∨ SqT K H p ys) ∧ ∀ l, H l = none → Q (.ref l) (upd H l (.lst ys))
theorem ct_list : CallR X (.type "list") (rListQ X.K) := call_list_of
def rDictD : List V → Hp → VK → Prop := fun xs H Q => ∃ (a : Addr) (kvs : List (Key × V)), xs = [.ref a] ∧ Rd H a (.dK kvs) ∧ ∀ p, H p = none → Q (.ref p) (upd H p (.dK kvs))
theorem ct_dict : CallR X (.type "dict") rDictD := call_dictD
def rInt1 : List V → Hp → VK → Prop := fun xs H Q => (∃ i, xs = [.int i] ∧ Q (.int i) H) ∨ ∃ k, xs = [.bl k] ∧ Q (.int (if k then 1 else 0)) H
theorem ct_int : CallR X (.type "int") rInt1 := call_int1
def rJoin (K : PySem.W.Frag) : V → List V → Hp → VK → Prop := fun x xs H Q => ∃ a p, ∃ ys : List Str, x = .str a ∧ xs = [.ref p] ∧ (SqL K H p (ys.map V.str) ∨ SqT K H p (ys.map V.str)) ∧
    (ys.map (·.length)).sum + ys.length * a.length ≤ 16777216 ∧ Q (.str (Txt.join a ys)) H
theorem pe_joinQ {o e : Expr} {to te : TE} {apos pos : Pos} (ho : PE X o to) (he : PE X e te) (hs : starEach [e] X.env = [(false, eval e X.env)] := by rfl) (hbase : attributeBase o "join" X.env (eval o X.env) = eval o X.env := by rfl) (hline : (apos.endLine == pos.line) = true := by rfl) :
    PE X (.Call (.Attribute o "join" apos) [e] [] pos) (tM1 (rJoin X.K) to te) := pe_join ho he hs hbase hline
def rCount : V → List V → Hp → VK → Prop := fun x xs H Q => ∃ a b, x = .str a ∧ xs = [.str b] ∧ Q (.int (Txt.count a b)) H
theorem mt_countS : MtR X "str.count" rCount := mt_count
def rIsTF (neg : Bool) : R2 := fun x y H Q => ∃ a b, x = .bl a ∧ y = .bl b ∧ Q (.bl (if neg then !decide (a = b) else decide (a = b))) H
theorem op_isTF : OpR X (compareOp .Is) (rIsTF false) := op_is_bl
theorem op_isntTF : OpR X (compareOp .IsNot) (rIsTF true) := op_isnot_bl
end

/-! ### the same rules, the written part by its name -/
section
variable {X : Cx} {K : PySem.W.Frag}
theorem kop_in (hK : X.K = K := by rfl) : OpR X (compareOp .In) (rIn K false) := hK ▸ op_in_seq
theorem kop_notIn (hK : X.K = K := by rfl) : OpR X (compareOp .NotIn) (rIn K true) := hK ▸ op_notIn_seq
theorem kcb_lenQ (hK : X.K = K := by rfl) : CallR X (.builtin "len") (rLenQ K) := hK ▸ cb_lenQ
theorem kct_list (hK : X.K = K := by rfl) : CallR X (.type "list") (rListQ K) := hK ▸ ct_list
theorem kcr_sum (hc : X.calm = true) (hK : X.K = K := by rfl) : CallR X (.builtin "sum") (rSum K) := hK ▸ cr_sum hc
theorem kcr_all (hc : X.calm = true) (hK : X.K = K := by rfl) : CallR X (.builtin "all") (rAll K) := hK ▸ cr_all hc
theorem kcr_any (hc : X.calm = true) (hK : X.K = K := by rfl) : CallR X (.builtin "any") (rAny K) := hK ▸ cr_any hc
theorem kcr_max (hc : X.calm = true) (hK : X.K = K := by rfl) : CallR X (.builtin "max") (rMax K) := hK ▸ cr_max hc
theorem kcr_min (hc : X.calm = true) (hK : X.K = K := by rfl) : CallR X (.builtin "min") (rMin K) := hK ▸ cr_min hc
theorem kix_list (hK : X.K = K := by rfl) : IxR X (rIxL K) := hK ▸ ix_list
theorem kix_tup (hK : X.K = K := by rfl) : IxR X (rIxT K) := hK ▸ ix_tup
theorem ksl_list (hK : X.K = K := by rfl) : SlR X (rSlL K) := hK ▸ sl_list
theorem kcall_isi (hK : X.K = K := by rfl) : CallR X (.builtin "isinstance") (rIsi K) := hK ▸ call_isi
theorem kop_eqD (hu : X.A.units + 64 < cLine) (hK : X.K = K := by rfl) : OpR X (compareOp .Eq) (rEqD K) := hK ▸ op_eqD hu
theorem kop_neD (hu : X.A.units + 64 < cLine) (hK : X.K = K := by rfl) : OpR X (compareOp .NotEq) (rNeD K) := hK ▸ op_neD hu
theorem kpi_list {l : Expr} {tg : Expr} {tl : TE} (hl : PE X l tl) (hK : X.K = K := by rfl) : PI X tg l (iList K tl) := hK ▸ pi_list hl
theorem kpi_tup {l : Expr} {tg : Expr} {tl : TE} (hl : PE X l tl) (hK : X.K = K := by rfl) : PI X tg l (iTup K tl) := hK ▸ pi_tup hl
theorem kpi_zip {e e2 : Expr} {ta : TA} {p pos tpos : Pos} {elts : List Expr} {kk : Nat} (hg : Gl X "zip") (hm : X.mg "zip" = none) (ha : PA X [e, e2] ta)
    (hs : starEach [e, e2] X.env = (false, eval e X.env) :: starEach [e2] X.env := by rfl) (hpl : (backTo pos (starEach [e2] X.env)).any (·.1) = false := by rfl) (hK : X.K = K := by rfl) :
    PI X (.Tuple elts kk tpos) (.Call (.Name "zip" p) [e, e2] [] pos) (iZip K ta) := hK ▸ pi_zip hg hm ha hs hpl
theorem kpi_zip3 {e e2 e3 : Expr} {ta : TA} {p pos tpos : Pos} {elts : List Expr} {kk : Nat} (hg : Gl X "zip") (hm : X.mg "zip" = none) (ha : PA X [e, e2, e3] ta)
    (hs : starEach [e, e2, e3] X.env = (false, eval e X.env) :: starEach [e2, e3] X.env := by rfl) (hpl : (backTo pos (starEach [e2, e3] X.env)).any (·.1) = false := by rfl) (hK : X.K = K := by rfl) :
    PI X (.Tuple elts kk tpos) (.Call (.Name "zip" p) [e, e2, e3] [] pos) (iZip3 K ta) := hK ▸ pi_zip3 hg hm ha hs hpl
theorem kpi_enum {e : Expr} {ta : TA} {p pos tpos : Pos} {elts : List Expr} {kk : Nat} (hg : Gl X "enumerate") (hm : X.mg "enumerate" = none) (ha : PA X [e] ta) (hs : starEach [e] X.env = [(false, eval e X.env)] := by rfl) (hK : X.K = K := by rfl) :
    PI X (.Tuple elts kk tpos) (.Call (.Name "enumerate" p) [e] [] pos) (iEnum K ta) := hK ▸ pi_enum hg hm ha hs
theorem kpe_joinQ {o e : Expr} {to te : TE} {apos pos : Pos} (ho : PE X o to) (he : PE X e te) (hs : starEach [e] X.env = [(false, eval e X.env)] := by rfl) (hbase : attributeBase o "join" X.env (eval o X.env) = eval o X.env := by rfl) (hline : (apos.endLine == pos.line) = true := by rfl) (hK : X.K = K := by rfl) :
    PE X (.Call (.Attribute o "join" apos) [e] [] pos) (tM1 (rJoin K) to te) := hK ▸ pe_joinQ ho he hs hbase hline
theorem kpe_revL {e : Expr} {te : TE} {k : Nat} {p1 p2 p3 pos : Pos} (he : PE X e te) (hK : X.K = K := by rfl) : PE X (.Subscript e (.Slice none none (some (.UnaryOp .USub (.Constant (.int 1) k p1) p2)) p3) pos) (tRevL K te) := hK ▸ pe_revL he
end

/-! ### what evaluates to what -/
section
variable {K : PySem.W.Frag} {σ : L2.St} {H H' : Hp} {ta tb tc te tx tl : TE} {t u : TT} {x y z v : V} {r : R2} {xs ys : List V} {P : V → Hp → Prop} {Ps : List (V → Hp → Prop)} {tr : TA} {i j k : Int} {a b : Row}

theorem ev_cS {z : Str} {l : Row} (h : z = S l) : Ev (tC (.str z)) σ H (VS l) := h ▸ ev_c
theorem lit_nil : (Str.ofString "" : Str) = S [] := by decide +kernel
theorem lit_o : (Str.ofString "o" : Str) = S [111] := by decide +kernel
theorem lit_dot : (Str.ofString "." : Str) = S [46] := by decide +kernel

/-! numbers -/
theorem ev_add (ha : Ev ta σ H (.int i)) (hb : Ev tb σ H (.int j)) : Ev (tOp (rI0 fun i j => .int (i + j)) ta tb) σ H (.int (i + j)) := ev_op ha hb rv_I0
theorem ev_sub (ha : Ev ta σ H (.int i)) (hb : Ev tb σ H (.int j)) : Ev (tOp (rI0 fun i j => .int (i - j)) ta tb) σ H (.int (i - j)) := ev_op ha hb rv_I0
theorem ev_mul (ha : Ev ta σ H (.int i)) (hb : Ev tb σ H (.int j)) (h : CMul i j) : Ev (tOp (rI CMul fun i j => .int (i * j)) ta tb) σ H (.int (i * j)) := ev_op ha hb (rv_I h)
theorem ev_fdiv (ha : Ev ta σ H (.int i)) (hb : Ev tb σ H (.int j)) (h : CDiv i j) : Ev (tOp (rI CDiv fun i j => .int (i / j)) ta tb) σ H (.int (i / j)) := ev_op ha hb (rv_I h)
theorem ev_mod (ha : Ev ta σ H (.int i)) (hb : Ev tb σ H (.int j)) (h : 0 < j) : Ev (tOp (rI (fun _ j => 0 < j) fun i j => .int (i % j)) ta tb) σ H (.int (i % j)) := ev_op ha hb (rv_I h)
theorem ev_pow (ha : Ev ta σ H (.int i)) (hb : Ev tb σ H (.int j)) (h : CPow i j) : Ev (tOp (rI CPow fun i j => .int (i ^ j.toNat)) ta tb) σ H (.int (i ^ j.toNat)) := ev_op ha hb (rv_I h)
theorem ev_shl (ha : Ev ta σ H (.int i)) (hb : Ev tb σ H (.int j)) (h : CPow i j) : Ev (tOp (rI CPow fun i j => .int (i * 2 ^ j.toNat)) ta tb) σ H (.int (i * 2 ^ j.toNat)) := ev_op ha hb (rv_I h)
theorem ev_shr (ha : Ev ta σ H (.int i)) (hb : Ev tb σ H (.int j)) (h : 0 ≤ j) : Ev (tOp (rI (fun _ j => 0 ≤ j) fun i j => .int (i / 2 ^ j.toNat)) ta tb) σ H (.int (i / 2 ^ j.toNat)) := ev_op ha hb (rv_I h)
theorem ev_and (ha : Ev ta σ H (.int i)) (hb : Ev tb σ H (.int j)) : Ev (tOp (rI0 fun i j => .int (Builtin.bitAnd i j)) ta tb) σ H (.int (Builtin.bitAnd i j)) := ev_op ha hb rv_I0
theorem ev_or (ha : Ev ta σ H (.int i)) (hb : Ev tb σ H (.int j)) : Ev (tOp (rI0 fun i j => .int (Builtin.bitOr i j)) ta tb) σ H (.int (Builtin.bitOr i j)) := ev_op ha hb rv_I0
theorem ev_neg (ha : Ev ta σ H (.int i)) : Ev (tUn (rU fun i => .int (-i)) ta) σ H (.int (-i)) := ev_un ha ru_neg
theorem ev_lt (ha : Ev ta σ H (.int i)) (hb : Ev tb σ H (.int j)) : Ev (tOp (rI0 fun i j => .bl (decide (i < j))) ta tb) σ H (.bl (decide (i < j))) := ev_op ha hb rv_I0
theorem ev_le (ha : Ev ta σ H (.int i)) (hb : Ev tb σ H (.int j)) : Ev (tOp (rI0 fun i j => .bl (decide (i ≤ j))) ta tb) σ H (.bl (decide (i ≤ j))) := ev_op ha hb rv_I0
theorem ev_gt (ha : Ev ta σ H (.int i)) (hb : Ev tb σ H (.int j)) : Ev (tOp (rI0 fun i j => .bl (decide (j < i))) ta tb) σ H (.bl (decide (j < i))) := ev_op ha hb rv_I0
theorem ev_ge (ha : Ev ta σ H (.int i)) (hb : Ev tb σ H (.int j)) : Ev (tOp (rI0 fun i j => .bl (decide (j ≤ i))) ta tb) σ H (.bl (decide (j ≤ i))) := ev_op ha hb rv_I0
theorem rv_eqI : RV rEq (.int i) (.int j) H (.bl (decide (i = j))) := fun H1 e Q q => ⟨rfl, by rw [dec_VI]; exact q H1 (Ex.refl H1)⟩
theorem rv_neI : RV rNe (.int i) (.int j) H (.bl (!decide (i = j))) := fun H1 e Q q => ⟨rfl, by rw [dec_VI]; exact q H1 (Ex.refl H1)⟩
theorem rv_eqS : RV rEq (VS a) (VS b) H (.bl (decide (a = b))) := fun H1 e Q q => ⟨rfl, by rw [dec_VS]; exact q H1 (Ex.refl H1)⟩
theorem rv_neS : RV rNe (VS a) (VS b) H (.bl (!decide (a = b))) := fun H1 e Q q => ⟨rfl, by rw [dec_VS]; exact q H1 (Ex.refl H1)⟩
theorem rv_eqB {a b : Bool} : RV rEq (.bl a) (.bl b) H (.bl (decide (a = b))) := fun H1 e Q q => ⟨rfl, by rw [dec_VB]; exact q H1 (Ex.refl H1)⟩
theorem rv_neB {a b : Bool} : RV rNe (.bl a) (.bl b) H (.bl (!decide (a = b))) := fun H1 e Q q => ⟨rfl, by rw [dec_VB]; exact q H1 (Ex.refl H1)⟩
theorem ev_eqI (ha : Ev ta σ H (.int i)) (hb : Ev tb σ H (.int j)) : Ev (tOp rEq ta tb) σ H (.bl (decide (i = j))) := ev_op ha hb rv_eqI
theorem ev_neI (ha : Ev ta σ H (.int i)) (hb : Ev tb σ H (.int j)) : Ev (tOp rNe ta tb) σ H (.bl (!decide (i = j))) := ev_op ha hb rv_neI
theorem ev_eqS (ha : Ev ta σ H (VS a)) (hb : Ev tb σ H (VS b)) : Ev (tOp rEq ta tb) σ H (.bl (decide (a = b))) := ev_op ha hb rv_eqS
theorem ev_neS (ha : Ev ta σ H (VS a)) (hb : Ev tb σ H (VS b)) : Ev (tOp rNe ta tb) σ H (.bl (!decide (a = b))) := ev_op ha hb rv_neS
theorem ev_eqB {a b : Bool} (ha : Ev ta σ H (.bl a)) (hb : Ev tb σ H (.bl b)) : Ev (tOp rEq ta tb) σ H (.bl (decide (a = b))) := ev_op ha hb rv_eqB
theorem ev_neB {a b : Bool} (ha : Ev ta σ H (.bl a)) (hb : Ev tb σ H (.bl b)) : Ev (tOp rNe ta tb) σ H (.bl (!decide (a = b))) := ev_op ha hb rv_neB
theorem ev_isNo (ha : Ev ta σ H x) (hb : Ev tb σ H .non) : Ev (tOp (rIsNo false) ta tb) σ H (.bl (decide (x = .non))) := ev_op ha hb fun H1 _ _ q => ⟨rfl, q H1 (Ex.refl H1)⟩
theorem ev_isntNo (ha : Ev ta σ H x) (hb : Ev tb σ H .non) : Ev (tOp (rIsNo true) ta tb) σ H (.bl (!decide (x = .non))) := ev_op ha hb fun H1 _ _ q => ⟨rfl, q H1 (Ex.refl H1)⟩
theorem ev_isTF {a b : Bool} (ha : Ev ta σ H (.bl a)) (hb : Ev tb σ H (.bl b)) : Ev (tOp (rIsTF false) ta tb) σ H (.bl (decide (a = b))) := ev_op ha hb fun H1 _ _ q => ⟨a, b, rfl, rfl, q H1 (Ex.refl H1)⟩
theorem ev_isntTF {a b : Bool} (ha : Ev ta σ H (.bl a)) (hb : Ev tb σ H (.bl b)) : Ev (tOp (rIsTF true) ta tb) σ H (.bl (!decide (a = b))) := ev_op ha hb fun H1 _ _ q => ⟨a, b, rfl, rfl, q H1 (Ex.refl H1)⟩
/-- a <= b < c and its like -/
theorem ev_chain {p q : Int → Int → Bool} (ha : Ev ta σ H (.int i)) (hb : Ev tb σ H (.int j)) (hc : Ev tc σ H (.int k)) : Ev (tChain (rI0 fun i j => .bl (p i j)) (rI0 fun i j => .bl (q i j)) ta tb tc) σ H (.bl (p i j && q j k)) := fun H1 e Q kq =>
  ha H1 e _ fun H2 e2 => hb H2 (e.trans e2) _ fun H3 e3 => ⟨i, j, rfl, rfl, p i j, rfl, by
    cases hp : p i j with
    | true =>
      rw [hp, Bool.true_and] at kq
      show tc σ H3 _
      exact hc H3 ((e.trans e2).trans e3) _ fun H4 e4 => ⟨j, k, rfl, rfl, kq H4 ((e2.trans e3).trans e4)⟩
    | false =>
      rw [hp, Bool.false_and] at kq
      show Q (.bl false) H3
      exact kq H3 (e2.trans e3)⟩

/-! texts -/
theorem ev_addS (ha : Ev ta σ H (VS a)) (hb : Ev tb σ H (VS b)) (hl : a.length + b.length ≤ 100000) : Ev (tOp rAddS ta tb) σ H (VS (a ++ b)) := ev_op ha hb fun H1 _ _ q =>
  ⟨S a, S b, rfl, rfl, by rw [S_len, S_len]; exact sz_of hl, by rw [S_add]; exact q H1 (Ex.refl H1)⟩
theorem ev_inC {c : Nat} (ha : Ev ta σ H (VS [c])) (hb : Ev tb σ H (VS b)) : Ev (tOp (rInC false) ta tb) σ H (.bl (decide (c ∈ b))) := ev_op ha hb fun H1 _ Q q =>
  ⟨c, S b, rfl, rfl, by
    show Q (.bl (decide (c ∈ (S b).cps.toList))) H1
    simp only [S_cps]
    exact q H1 (Ex.refl H1)⟩
theorem ev_ninC {c : Nat} (ha : Ev ta σ H (VS [c])) (hb : Ev tb σ H (VS b)) : Ev (tOp (rInC true) ta tb) σ H (.bl (!decide (c ∈ b))) := ev_op ha hb fun H1 _ Q q =>
  ⟨c, S b, rfl, rfl, by
    show Q (.bl (!decide (c ∈ (S b).cps.toList))) H1
    simp only [S_cps]
    exact q H1 (Ex.refl H1)⟩
theorem ev_lenS (ha : Ev ta σ H (VS a)) (hl : a.length ≤ 100000) : Ev (tCB rLenS (tCons ta tNil)) σ H (.int (a.length : Int)) := fun H1 e Q q =>
  ha H1 e _ fun H2 e2 => ⟨S a, rfl, by rw [S_len]; exact sz_of hl, by rw [S_len]; exact q H2 e2⟩
theorem atI_getD {α : Type} {l : List α} {i : Int} (d : α) (h0 : 0 ≤ i) (h1 : i < l.length) : atI l i = some (l.getD i.toNat d) := by
  obtain ⟨k, rfl⟩ := Int.eq_ofNat_of_zero_le h0
  have hk : k < l.length := by
    have : (k : Int) < l.length := h1
    omega
  refine atI_nat (j := k) ?_
  show l[k]? = some (l.getD k d)
  rw [List.getD_eq_getElem?_getD, List.getElem?_eq_getElem hk]
  rfl
theorem ev_ixS {i : Int} (ha : Ev ta σ H (VS a)) (hb : Ev tb σ H (.int i)) (hl : a.length ≤ 100000) (h0 : 0 ≤ i) (h1 : i < a.length) : Ev (tOp rIxS ta tb) σ H (VS [a.getD i.toNat 0]) := ev_op ha hb fun H1 _ _ q =>
  ⟨S a, i, a.getD i.toNat 0, rfl, rfl, by rw [S_len]; exact sz_of hl, by rw [S_cps]; exact atI_getD 0 h0 h1, q H1 (Ex.refl H1)⟩
theorem ev_slS {tlo thi : TO} {lo hi : Option Int} (h : Ev te σ H (VS a)) (h1 : EvO tlo σ H lo) (h2 : EvO thi σ H hi) (hl : a.length ≤ 100000) : Ev (tSl rSlS te tlo thi) σ H (VS (cutG a lo hi)) := fun H1 e Q q =>
  h H1 e _ fun H2 e2 => h1 H2 (e.trans e2) _ fun H3 e3 => h2 H3 ((e.trans e2).trans e3) _ fun H4 e4 =>
    ⟨S a, rfl, by rw [S_len]; exact sz_of hl, by rw [cutS_S]; exact q H4 ((e2.trans e3).trans e4)⟩
theorem ev_count {c : Nat} (ha : Ev ta σ H (VS a)) (hb : Ev tb σ H (VS [c])) : Ev (tM1 rCount ta tb) σ H (.int (a.count c : Nat)) := fun H1 e Q q =>
  ha H1 e _ fun H2 e2 => ⟨⟨S a, rfl⟩, hb H2 (e.trans e2) _ fun H3 e3 => ⟨S a, S [c], rfl, rfl, by rw [count_one]; exact q H3 (e2.trans e3)⟩⟩

/-! lists -/
theorem ev_lenQ {α : Type} {l : List α} {g : α → V} (h : EvQ K te σ H (l.map g)) : Ev (tCB (rLenQ K) (tCons te tNil)) σ H (.int (l.length : Int)) := fun H1 e Q q =>
  h H1 e _ fun p H2 e2 h2 => ⟨p, l.map g, rfl, .inl (SL.q h2), by rw [List.length_map]; exact q H2 e2⟩
theorem el_listQ (h : EvQ K te σ H xs) : EvL (tCB (rListQ K) (tCons te tNil)) σ H xs := fun H1 e Q q =>
  h H1 e _ fun p H2 e2 h2 => ⟨p, xs, rfl, .inl (SL.q h2), fun l hl => q l _ (fresh_back e2 hl) (e2.trans (Ex.new hl)) upd_same⟩
theorem el_slQ {α : Type} {l : List α} {g : α → V} {tlo thi : TO} {lo hi : Option Int} (h : EvQ K te σ H (l.map g)) (h1 : EvO tlo σ H lo) (h2 : EvO thi σ H hi) : EvL (tSl (rSlL K) te tlo thi) σ H ((cutG l lo hi).map g) := fun H1 e Q q =>
  h H1 e _ fun a H2 e2 hs => h1 H2 (e.trans e2) _ fun H3 e3 => h2 H3 ((e.trans e2).trans e3) _ fun H4 e4 =>
    ⟨a, l.map g, rfl, (exl (K := K) (e3.trans e4) hs).q, fun p hp => by
      rw [cutV_map]
      exact q p _ (fresh_back ((e2.trans e3).trans e4) hp) (((e2.trans e3).trans e4).trans (Ex.new hp)) upd_same⟩
theorem ev_ixQ {α : Type} {l : List α} {g : α → V} {i : Int} (d : α) (h : EvQ K ta σ H (l.map g)) (hb : Ev tb σ H (.int i)) (h0 : 0 ≤ i) (h1 : i < l.length) : Ev (tOp (rIxL K) ta tb) σ H (g (l.getD i.toNat d)) := fun H1 e Q q =>
  h H1 e _ fun a H2 e2 hs => hb H2 (e.trans e2) _ fun H3 e3 => ⟨a, l.map g, i, _, rfl, rfl, (exl (K := K) e3 hs).q, by
    have h2 : i < ((l.map g).length : Int) := by rw [List.length_map]; exact h1
    rw [atI_getD (g d) h0 h2, List.getD_eq_getElem?_getD, List.getElem?_map, List.getD_eq_getElem?_getD, Option.getD_map]
    , q H3 (e2.trans e3)⟩
theorem ev_ixT {α : Type} {l : List α} {g : α → V} {i : Int} {p : Addr} (d : α) (h : Ev ta σ H (.ref p)) (hs : ST K H p (l.map g)) (hb : Ev tb σ H (.int i)) (h0 : 0 ≤ i) (h1 : i < l.length) : Ev (tOp (rIxT K) ta tb) σ H (g (l.getD i.toNat d)) := fun H1 e Q q =>
  h H1 e _ fun H2 e2 => hb H2 (e.trans e2) _ fun H3 e3 => ⟨p, l.map g, i, _, rfl, rfl, (ext (K := K) ((e.trans e2).trans e3) hs).q, by
    have h2 : i < ((l.map g).length : Int) := by rw [List.length_map]; exact h1
    rw [atI_getD (g d) h0 h2, List.getD_eq_getElem?_getD, List.getElem?_map, List.getD_eq_getElem?_getD, Option.getD_map]
    , q H3 (e2.trans e3)⟩
/-- the last one -/
theorem ev_ixLast {α : Type} {l : List α} {g : α → V} {w : α} (h : EvQ K ta σ H (l.map g)) (hb : Ev tb σ H (.int (-1))) (hw : l.getLast? = some w) : Ev (tOp (rIxL K) ta tb) σ H (g w) := fun H1 e Q q =>
  h H1 e _ fun a H2 e2 hs => hb H2 (e.trans e2) _ fun H3 e3 => ⟨a, l.map g, -1, _, rfl, rfl, (exl (K := K) e3 hs).q, by
    have e1 : l = l.dropLast ++ [w] := by
      cases l with
      | nil => simp at hw
      | cons c r =>
        rw [List.getLast?_eq_getLast (List.cons_ne_nil c r)] at hw
        have := Option.some.inj hw
        rw [← this, List.dropLast_concat_getLast]
    rw [e1, List.map_append, List.map_singleton]
    exact atI_last _ _, q H3 (e2.trans e3)⟩
theorem el_catQ {α : Type} {l m : List α} {g : α → V} (ha : EvL ta σ H (l.map g)) (hb : EvL tb σ H (m.map g)) (hz : l.length + m.length ≤ 100000) : EvL (tOp rCat ta tb) σ H ((l ++ m).map g) := fun H1 e Q q =>
  ha H1 e _ fun p H2 hp e2 h2 => hb H2 (e.trans e2) _ fun p' H3 hp' e3 h3 => ⟨p, p', _, _, rfl, rfl, e3 _ _ h2, h3, by rw [List.length_map, List.length_map]; exact sz_of hz, fun l hl => by
    rw [← List.map_append]
    exact q l _ (fresh_back (e2.trans e3) hl) ((e2.trans e3).trans (Ex.new hl)) upd_same⟩
/-- a list that stands here -/
def EvH (te : TE) (σ : L2.St) (H : Hp) (xs : List V) : Prop := ∀ H1, Ex H H1 → ∀ Q : VK, (∀ p H2, Ex H1 H2 → H2 p = some (.lst xs) → Q (.ref p) H2) → te σ H1 Q
theorem h_new (h : EvL te σ H xs) : EvH te σ H xs := fun H1 e Q q => h H1 e Q fun p H2 _ e2 h2 => q p H2 e2 h2
theorem h_old {p : Addr} (h : Ev te σ H (.ref p)) (hs : H p = some (.lst xs)) : EvH te σ H xs := fun H1 e Q q => h H1 e Q fun H2 e2 => q p H2 e2 (e2 _ _ (e _ _ hs))
theorem q_H (h : EvH te σ H xs) : EvQ K te σ H xs := fun H1 e Q q => h H1 e Q fun p H2 e2 h2 => q p H2 e2 (slof h2)
theorem el_catH {α : Type} {l m : List α} {g : α → V} (ha : EvH ta σ H (l.map g)) (hb : EvH tb σ H (m.map g)) (hz : l.length + m.length ≤ 100000) : EvL (tOp rCat ta tb) σ H ((l ++ m).map g) := fun H1 e Q q =>
  ha H1 e _ fun p H2 e2 h2 => hb H2 (e.trans e2) _ fun p' H3 e3 h3 => ⟨p, p', _, _, rfl, rfl, e3 _ _ h2, h3, by rw [List.length_map, List.length_map]; exact sz_of hz, fun l hl => by
    rw [← List.map_append]
    exact q l _ (fresh_back (e2.trans e3) hl) ((e2.trans e3).trans (Ex.new hl)) upd_same⟩
theorem el_repH {α : Type} {l : List α} {g : α → V} {n : Int} (ha : EvH ta σ H (l.map g)) (hb : Ev tb σ H (.int n)) (h0 : -100000 ≤ n) (h1 : n ≤ 100000) (hz : l.length * n.toNat ≤ 100000) : EvL (tOp rRep ta tb) σ H (((List.replicate n.toNat l).flatten).map g) := fun H1 e Q q =>
  ha H1 e _ fun p H2 e2 h2 => hb H2 (e.trans e2) _ fun H3 e3 => ⟨p, n, _, rfl, rfl, e3 _ _ h2, by omega, by omega, by rw [List.length_map]; exact sz_of hz, fun l hl => by
    rw [List.map_flatten, List.map_replicate] at q
    exact q l _ (fresh_back (e2.trans e3) hl) ((e2.trans e3).trans (Ex.new hl)) upd_same⟩
theorem el_nil : EvL (tLst tNil) σ H [] := el_lst ea_nil (Nat.zero_le _)
theorem ev_sumV {ns : List Int} (h : EvQ K te σ H (ns.map V.int)) : Ev (tCB (rSum K) (tCons te tNil)) σ H (.int ns.sum) := fun H1 e Q q =>
  h H1 e _ fun p H2 e2 h2 => ⟨p, ns, rfl, SL.q h2, q H2 e2⟩
theorem ev_sumQ {α : Type} {l : List α} {f : α → Int} (h : EvQ K te σ H (l.map fun x => V.int (f x))) : Ev (tCB (rSum K) (tCons te tNil)) σ H (.int (l.map f).sum) := ev_sumV (by rw [List.map_map]; exact h)
theorem ev_allV {bs : List Bool} (h : EvQ K te σ H (bs.map V.bl)) : Ev (tCB (rAll K) (tCons te tNil)) σ H (.bl (bs.all id)) := fun H1 e Q q =>
  h H1 e _ fun p H2 e2 h2 => ⟨p, bs, rfl, SL.q h2, q H2 e2⟩
theorem ev_anyV {bs : List Bool} (h : EvQ K te σ H (bs.map V.bl)) : Ev (tCB (rAny K) (tCons te tNil)) σ H (.bl (bs.any id)) := fun H1 e Q q =>
  h H1 e _ fun p H2 e2 h2 => ⟨p, bs, rfl, SL.q h2, q H2 e2⟩
theorem ev_allQ {α : Type} {l : List α} {p : α → Bool} (h : EvQ K te σ H (l.map fun x => V.bl (p x))) : Ev (tCB (rAll K) (tCons te tNil)) σ H (.bl (l.all p)) := by
  have := ev_allV (K := K) (bs := l.map p) (te := te) (σ := σ) (H := H) (by rw [List.map_map]; exact h)
  rw [List.all_map] at this
  exact this
theorem ev_anyQ {α : Type} {l : List α} {p : α → Bool} (h : EvQ K te σ H (l.map fun x => V.bl (p x))) : Ev (tCB (rAny K) (tCons te tNil)) σ H (.bl (l.any p)) := by
  have := ev_anyV (K := K) (bs := l.map p) (te := te) (σ := σ) (H := H) (by rw [List.map_map]; exact h)
  rw [List.any_map] at this
  exact this
theorem flat_len (l : List Row) : l.flatten.length = (l.map (·.length)).sum := List.length_flatten
theorem ev_joinV {l : List Row} (ha : Ev ta σ H (VS [])) (h : EvQ K te σ H (l.map VS)) (hz : l.flatten.length ≤ 100000) : Ev (tM1 (rJoin K) ta te) σ H (VS l.flatten) := fun H1 e Q q =>
  ha H1 e _ fun H2 e2 => ⟨⟨S [], rfl⟩, h H2 (e.trans e2) _ fun p H3 e3 h3 => ⟨S [], p, l.map S, rfl, rfl, .inl (by rw [List.map_map]; exact SL.q h3), by
    rw [List.map_map, show ((fun z : Str => z.length) ∘ S) = fun z : Row => z.length from funext S_len, ← flat_len, S_len]
    show l.flatten.length + _ * 0 ≤ 16777216
    omega, by rw [join_nil]; exact q H3 (e2.trans e3)⟩⟩
theorem ev_joinQ {α : Type} {l : List α} {f : α → Row} (ha : Ev ta σ H (VS [])) (h : EvQ K te σ H (l.map fun x => VS (f x))) (hz : (l.map f).flatten.length ≤ 100000) : Ev (tM1 (rJoin K) ta te) σ H (VS (l.map f).flatten) :=
  ev_joinV ha (by rw [List.map_map]; exact h) hz
theorem ev_inQ {x : V} (ha : Ev ta σ H x) (hb : EvQ K tb σ H xs) (hx : flatV x = true) (hf : xs.all flatV = true) : Ev (tOp (rIn K false) ta tb) σ H (.bl (inV x xs)) := fun H1 e Q q =>
  ha H1 e _ fun H2 e2 => hb H2 (e.trans e2) _ fun p H3 e3 h3 => ⟨p, xs, rfl, .inl (SL.q h3), hx, hf, q H3 (e2.trans e3)⟩
theorem ev_ninQ {x : V} (ha : Ev ta σ H x) (hb : EvQ K tb σ H xs) (hx : flatV x = true) (hf : xs.all flatV = true) : Ev (tOp (rIn K true) ta tb) σ H (.bl (!inV x xs)) := fun H1 e Q q =>
  ha H1 e _ fun H2 e2 => hb H2 (e.trans e2) _ fun p H3 e3 h3 => ⟨p, xs, rfl, .inl (SL.q h3), hx, hf, q H3 (e2.trans e3)⟩
theorem flat_Txts (l : List Row) : (l.map VS).all flatV = true := by simp [flatV]
theorem flat_Ints (l : List Int) : (l.map V.int).all flatV = true := by simp [flatV]
theorem inV_VS (a : Row) (l : List Row) : inV (VS a) (l.map VS) = decide (a ∈ l) := by
  unfold inV
  rw [List.any_map, Bool.eq_iff_iff, List.any_eq_true, decide_eq_true_eq]
  constructor
  · rintro ⟨b, hb, e⟩
    have e : eqV (VS b) (VS a) = true := e
    have : S b = S a := by simpa [eqV] using e
    rw [← S_inj this]; exact hb
  · intro h
    exact ⟨a, h, by simp [eqV]⟩
theorem inV_VI (a : Int) (l : List Int) : inV (.int a) (l.map V.int) = decide (a ∈ l) := by
  unfold inV
  rw [List.any_map, Bool.eq_iff_iff, List.any_eq_true, decide_eq_true_eq]
  constructor
  · rintro ⟨b, hb, e⟩
    have e : eqV (.int b) (.int a) = true := e
    have : b = a := by simpa [eqV] using e
    rw [← this]; exact hb
  · intro h
    exact ⟨a, h, by simp [eqV]⟩
theorem ev_inS {l : List Row} (ha : Ev ta σ H (VS a)) (hb : EvQ K tb σ H (l.map VS)) : Ev (tOp (rIn K false) ta tb) σ H (.bl (decide (a ∈ l))) := (inV_VS a l) ▸ ev_inQ ha hb rfl (flat_Txts l)
theorem ev_inI {l : List Int} (ha : Ev ta σ H (.int i)) (hb : EvQ K tb σ H (l.map V.int)) : Ev (tOp (rIn K false) ta tb) σ H (.bl (decide (i ∈ l))) := (inV_VI i l) ▸ ev_inQ ha hb rfl (flat_Ints l)
theorem ev_ninI {l : List Int} (ha : Ev ta σ H (.int i)) (hb : EvQ K tb σ H (l.map V.int)) : Ev (tOp (rIn K true) ta tb) σ H (.bl (!decide (i ∈ l))) := (inV_VI i l) ▸ ev_ninQ ha hb rfl (flat_Ints l)
/-- in a written tuple of texts -/
theorem ev_inTS {l : List Row} (ha : Ev ta σ H (VS a)) (hb : EvU tb σ H (l.map VS)) : Ev (tOp (rIn K false) ta tb) σ H (.bl (decide (a ∈ l))) := (inV_VS a l) ▸ ev_inU ha hb rfl (flat_Txts l)

/-! calls of built-ins on numbers -/
theorem ev_abs (ha : Ev ta σ H (.int i)) : Ev (tCB rAbs (tCons ta tNil)) σ H (.int (i.natAbs : Nat)) := fun H1 e Q q =>
  ha H1 e _ fun H2 e2 => ⟨i, rfl, by
    have : (if i < 0 then -i else i) = (i.natAbs : Int) := by split <;> omega
    rw [this]; exact q H2 e2⟩
theorem ev_mx2 (ha : Ev ta σ H (.int i)) (hb : Ev tb σ H (.int j)) : Ev (tCB rMx (tCons ta (tCons tb tNil))) σ H (.int (max i j)) := fun H1 e Q q =>
  ha H1 e _ fun H2 e2 => hb H2 (e.trans e2) _ fun H3 e3 => ⟨i, j, rfl, by
    have : (if j > i then j else i) = max i j := by split <;> omega
    rw [this]; exact q H3 (e2.trans e3)⟩
theorem ev_mn2 (ha : Ev ta σ H (.int i)) (hb : Ev tb σ H (.int j)) : Ev (tCB rMn (tCons ta (tCons tb tNil))) σ H (.int (min i j)) := fun H1 e Q q =>
  ha H1 e _ fun H2 e2 => hb H2 (e.trans e2) _ fun H3 e3 => ⟨i, j, rfl, by
    have : (if j < i then j else i) = min i j := by split <;> omega
    rw [this]; exact q H3 (e2.trans e3)⟩
theorem ev_intB {b : Bool} (ha : Ev ta σ H (.bl b)) : Ev (tCB rInt1 (tCons ta tNil)) σ H (.int (if b then 1 else 0)) := fun H1 e Q q =>
  ha H1 e _ fun H2 e2 => .inr ⟨b, rfl, q H2 e2⟩

/-! dicts of texts -/
theorem ed_new : EvD tDNewK σ H [] := fun H1 _ Q q => fun p hp => q p _ hp (Ex.new hp) upd_same
theorem ed_newS : EvD tDNewK σ H (DS []) := ed_new
theorem ed_dict {kvs : List (Key × V)} (h : EvG te σ H (isD kvs)) : EvD (tCB rDictD (tCons te tNil)) σ H kvs := fun H1 e Q q =>
  h H1 e _ fun v H2 e2 ⟨a, ea, h2⟩ => ⟨a, kvs, by rw [ea], .inl h2, fun p hp => q p _ (fresh_back e2 hp) (e2.trans (Ex.new hp)) upd_same⟩
theorem ev_get2 {r : Dic} {p : Addr} {d : Row} (h : Ev ta σ H (.ref p)) (hs : H p = some (.dK (DS r))) (hb : Ev tb σ H (VS a)) (hc : Ev tc σ H (VS d)) : Ev (tDGet2 ta tb tc) σ H (VS ((look r a).getD d)) := fun H1 e Q q =>
  h H1 e _ fun H2 e2 => ⟨p, rfl, .inl ⟨_, .inl (e2 _ _ (e _ _ hs))⟩, hb H2 (e.trans e2) _ fun H3 e3 => hc H3 ((e.trans e2).trans e3) _ fun H4 e4 => ⟨_, DGet.k (k := Sum.inr (S a)) (e4 _ _ (e3 _ _ (e2 _ _ (e _ _ hs)))), by
    rw [DS_val]
    have q4 := q H4 ((e2.trans e3).trans e4)
    cases hk : look r a with
    | none => rw [hk] at q4; exact q4
    | some v => rw [hk] at q4; exact q4⟩⟩
theorem ev_din {r : Dic} {p : Addr} (hb : Ev tb σ H (VS a)) (h : Ev ta σ H (.ref p)) (hs : H p = some (.dK (DS r))) : Ev (tDIn tb ta) σ H (.bl (look r a).isSome) := fun H1 e Q q =>
  hb H1 e _ fun H2 e2 => h H2 (e.trans e2) _ fun H3 e3 => ⟨p, _, rfl, DGet.k (k := Sum.inr (S a)) (e3 _ _ (e2 _ _ (e _ _ hs))), by
    rw [DS_val, Option.isSome_map]
    exact q H3 (e2.trans e3)⟩
theorem ev_dget {r : Dic} {p : Addr} (h : Ev ta σ H (.ref p)) (hs : H p = some (.dK (DS r))) (hb : Ev tb σ H (VS a)) (hv : (look r a).isSome = true) : Ev (tDGet ta tb) σ H (VS ((look r a).getD [])) := fun H1 e Q q =>
  h H1 e _ fun H2 e2 => hb H2 (e.trans e2) _ fun H3 e3 => ⟨p, VS ((look r a).getD []), rfl, by
    have := DGet.k (k := Sum.inr (S a)) (e3 _ _ (e2 _ _ (e _ _ hs)))
    obtain ⟨v, hv⟩ := Option.isSome_iff_exists.mp hv
    rw [DS_val, hv] at this
    rw [hv]
    exact this, q H3 (e2.trans e3)⟩
theorem ev_eqD {r s : Dic} (ha : EvG ta σ H (isD (DS r))) (hb : EvG tb σ H (isD (DS s))) : Ev (tOp (rEqDS false) ta tb) σ H (.bl (dEq r s)) := fun H1 e Q q =>
  ha H1 e _ fun v H2 e2 ⟨p, ep, h2⟩ => hb H2 (e.trans e2) _ fun w H3 e3 ⟨p', ep', h3⟩ => ⟨p, p', r, s, ep, ep', e3 _ _ h2, h3, q H3 (e2.trans e3)⟩
theorem ev_neD {r s : Dic} (ha : EvG ta σ H (isD (DS r))) (hb : EvG tb σ H (isD (DS s))) : Ev (tOp (rEqDS true) ta tb) σ H (.bl (!dEq r s)) := fun H1 e Q q =>
  ha H1 e _ fun v H2 e2 ⟨p, ep, h2⟩ => hb H2 (e.trans e2) _ fun w H3 e3 ⟨p', ep', h3⟩ => ⟨p, p', r, s, ep, ep', e3 _ _ h2, h3, q H3 (e2.trans e3)⟩
theorem el_keys {r : Dic} (h : EvG te σ H (isD (DS r))) : EvL (tCB rListD (tCons te tNil)) σ H ((r.map (·.1)).map VS) := fun H1 e Q q =>
  h H1 e _ fun v H2 e2 ⟨p, ep, h2⟩ => ⟨p, DS r, by rw [ep], h2, fun l hl => by
    have : ((DS r).map fun kv => kV kv.1) = (r.map (·.1)).map VS := by
      unfold DS
      rw [List.map_map, List.map_map]
      rfl
    rw [this]
    exact q l _ (fresh_back e2 hl) (e2.trans (Ex.new hl)) upd_same⟩
theorem ev_lenDS {r : Dic} (h : EvG te σ H (isD (DS r))) : Ev (tCB rLenD (tCons te tNil)) σ H (.int (r.length : Int)) := fun H1 e Q q =>
  h H1 e _ fun v H2 e2 ⟨p, ep, h2⟩ => ⟨p, DS r, by rw [ep], h2, by rw [DS_len]; exact q H2 e2⟩

/-! conditional expressions -/
theorem ev_ifV {b : Bool} (h : EvT t σ H b) (h1 : b = true → Ev ta σ H x) (h2 : b = false → Ev tb σ H y) : Ev (tIf t ta tb) σ H (if b then x else y) := by
  cases b with
  | true => exact ev_if h (fun e => h1 e) (fun e => nomatch e)
  | false => exact ev_if h (fun e => nomatch e) (fun e => h2 e)
theorem ev_ifS {c : Bool} (h : EvT t σ H c) (h1 : c = true → Ev ta σ H (VS a)) (h2 : c = false → Ev tb σ H (VS b)) : Ev (tIf t ta tb) σ H (VS (if c then a else b)) := by
  cases c with
  | true => exact ev_if h (fun e => h1 e) (fun e => nomatch e)
  | false => exact ev_if h (fun e => nomatch e) (fun e => h2 e)
theorem ev_ifI {c : Bool} (h : EvT t σ H c) (h1 : c = true → Ev ta σ H (.int i)) (h2 : c = false → Ev tb σ H (.int j)) : Ev (tIf t ta tb) σ H (.int (if c then i else j)) := by
  cases c with
  | true => exact ev_if h (fun e => h1 e) (fun e => nomatch e)
  | false => exact ev_if h (fun e => nomatch e) (fun e => h2 e)

/-! what kind of thing -/
theorem ev_isi {c : V} {tt cc : Value} {b : Bool} (ha : EvG ta σ H P) (hb : Ev tb σ H c) (hp : ∀ v H1, Ex H H1 → P v H1 → TyX K H1 v tt) (m : Mon P) (hc : ClsV c cc) (hk : PySem.W.kitOne K tt cc = some b) : Ev (tCB (rIsi K) (tCons ta (tCons tb tNil))) σ H (.bl b) := fun H1 e Q q =>
  ha H1 e _ fun v H2 e2 hv => hb H2 (e.trans e2) _ fun H3 e3 => ⟨v, c, tt, cc, b, rfl, hc, hp v H3 ((e.trans e2).trans e3) (m v _ _ e3 hv), hk, q H3 (e2.trans e3)⟩
theorem ev_isiS {n : String} {b : Bool} (ha : Ev ta σ H (VS a)) (hb : Ev tb σ H (.ty n)) (hk : kitB "str" n = some b) : Ev (tCB (rIsi K) (tCons ta (tCons tb tNil))) σ H (.bl b) :=
  ev_isi (g_V ha) hb (fun v H1 _ hv => by cases hv; exact .base (.str _)) (mon_V _) (.ty n) (kit_ty hk)
theorem ev_isiI {n : String} {b : Bool} (ha : Ev ta σ H (.int i)) (hb : Ev tb σ H (.ty n)) (hk : kitB "int" n = some b) : Ev (tCB (rIsi K) (tCons ta (tCons tb tNil))) σ H (.bl b) :=
  ev_isi (g_V ha) hb (fun v H1 _ hv => by cases hv; exact .base (.int _)) (mon_V _) (.ty n) (kit_ty hk)
theorem ev_isiB {n : String} {c b : Bool} (ha : Ev ta σ H (.bl c)) (hb : Ev tb σ H (.ty n)) (hk : kitB "bool" n = some b) : Ev (tCB (rIsi K) (tCons ta (tCons tb tNil))) σ H (.bl b) :=
  ev_isi (g_V ha) hb (fun v H1 _ hv => by cases hv; exact .base (.bl _)) (mon_V _) (.ty n) (kit_ty hk)
theorem ev_isiN {n : String} {b : Bool} (ha : Ev ta σ H .non) (hb : Ev tb σ H (.ty n)) (hk : kitB "NoneType" n = some b) : Ev (tCB (rIsi K) (tCons ta (tCons tb tNil))) σ H (.bl b) :=
  ev_isi (g_V ha) hb (fun v H1 _ hv => by cases hv; exact .base .non) (mon_V _) (.ty n) (kit_ty hk)
theorem tyx_L {p : Addr} (h : SL K H p xs) : TyX K H (.ref p) (.type "list") := by
  rcases h with h | ⟨o, h⟩
  · exact .base (.lst h)
  · exact .base (.frz h)
theorem tyx_T {p : Addr} (h : ST K H p xs) : TyX K H (.ref p) (.type "tuple") := by
  rcases h with h | ⟨o, h⟩
  · exact .base (.tup h)
  · exact .fTuple h
theorem ev_isiL {n : String} {b : Bool} (ha : EvQ K ta σ H xs) (hb : Ev tb σ H (.ty n)) (hk : kitB "list" n = some b) : Ev (tCB (rIsi K) (tCons ta (tCons tb tNil))) σ H (.bl b) :=
  ev_isi (g_L ha) hb (fun v H1 _ hv => by obtain ⟨p, rfl, h⟩ := hv; exact tyx_L h) (mon_L _ _) (.ty n) (kit_ty hk)
theorem ev_isiD {n : String} {b : Bool} {kvs : List (Key × V)} (ha : EvG ta σ H (isD kvs)) (hb : Ev tb σ H (.ty n)) (hk : kitB "dict" n = some b) : Ev (tCB (rIsi K) (tCons ta (tCons tb tNil))) σ H (.bl b) :=
  ev_isi ha hb (fun v H1 _ hv => by obtain ⟨p, rfl, h⟩ := hv; exact .base (.dK h)) (mon_D _) (.ty n) (kit_ty hk)
end
end Ho

/-! Ho, part E: what is walked; comprehensions; loops; statements -/
namespace Ho
open PySem PySem.Spec PyProof.Rows L2 Evl

/-! ### all but some addresses stay -/
def Xb (s : List Addr) (H H' : Hp) : Prop := ∀ a o, a ∉ s → H a = some o → H' a = some o
theorem Xb.refl (s : List Addr) (H : Hp) : Xb s H H := fun _ _ _ h => h
theorem Ex.xb {s : List Addr} {H H' : Hp} (e : Ex H H') : Xb s H H' := fun a o _ h => e a o h
theorem Xb.trans {s : List Addr} {H H1 H2 : Hp} (x : Xb s H H1) (y : Xb s H1 H2) : Xb s H H2 := fun a o n h => y a o n (x a o n h)
theorem Xb.ex {s : List Addr} {H H1 H2 : Hp} (x : Xb s H H1) (e : Ex H1 H2) : Xb s H H2 := fun a o n h => e a o (x a o n h)
theorem Xb.ex0 {s : List Addr} {H H1 H2 : Hp} (e : Ex H H1) (x : Xb s H1 H2) : Xb s H H2 := fun a o n h => x a o n (e a o h)
theorem Xb.upd {s : List Addr} {H H1 : Hp} {p : Addr} {o : HO} (x : Xb s H H1) (hp : p ∈ s) : Xb s H (upd H1 p o) := fun a u n h => by
  rw [upd_ne (fun e => n (by rw [e]; exact hp))]
  exact x a u n h
theorem xb_upd {H : Hp} {p : Addr} {o : HO} : Xb [p] H (upd H p o) := (Xb.refl _ H).upd (by simp)
theorem Xb.mono {s t : List Addr} {H H' : Hp} (x : Xb s H H') (h : ∀ a ∈ s, a ∈ t) : Xb t H H' := fun a o n => x a o fun m => n (h a m)
theorem Xb.nil {H H' : Hp} (x : Xb [] H H') : Ex H H' := fun a o h => x a o (by simp) h
/-- what H0 does not know may change -/
theorem Ex.xb0 {s : List Addr} {H0 H H' : Hp} (e : Ex H0 H) (x : Xb s H H') (n : ∀ a ∈ s, H0 a = none) : Ex H0 H' := fun a o h => x a o (fun m => by rw [n a m] at h; cases h) (e a o h)
theorem Xb.rd {s : List Addr} {H H' : Hp} {a : Addr} {u : HO} (x : Xb s H H') (n : a ∉ s) (h : Rd H a u) : Rd H' a u := by
  rcases h with h | ⟨o, h⟩
  · exact .inl (x a _ n h)
  · exact .inr ⟨o, x a _ n h⟩
theorem Xb.l {K : PySem.W.Frag} {s : List Addr} {H H' : Hp} {a : Addr} {xs : List V} (x : Xb s H H') (n : a ∉ s) (h : SL K H a xs) : SL K H' a xs := x.rd n h
theorem Xb.t {K : PySem.W.Frag} {s : List Addr} {H H' : Hp} {a : Addr} {xs : List V} (x : Xb s H H') (n : a ∉ s) (h : ST K H a xs) : ST K H' a xs := x.rd n h
theorem Xb.lq {K : PySem.W.Frag} {s : List Addr} {H H' : Hp} {a : Addr} {xs : List V} (x : Xb s H H') (n : a ∉ s) (h : SqL K H a xs) : SqL K H' a xs := by
  rcases h with h | h
  · exact .inl (x.rd n h)
  · exact .inr h
theorem Xb.tq {K : PySem.W.Frag} {s : List Addr} {H H' : Hp} {a : Addr} {xs : List V} (x : Xb s H H') (n : a ∉ s) (h : SqT K H a xs) : SqT K H' a xs := by
  rcases h with h | h
  · exact .inl (x.rd n h)
  · exact .inr h
theorem nin1 {a p : Addr} (h : a ≠ p) : a ∉ [p] := by simpa using h
theorem nin2 {a p q : Addr} (h : a ≠ p) (h2 : a ≠ q) : a ∉ [p, q] := by simp [h, h2]
theorem nin0 {a : Addr} : a ∉ ([] : List Addr) := by simp
theorem ne_fresh {H : Hp} {a b : Addr} {o : HO} (h : H a = some o) (h' : H b = none) : a ≠ b := ne_of_none h h'
theorem ne_new {H : Hp} {a b : Addr} {o : HO} (h : H b = none) (h' : H a = some o) : b ≠ a := fun e => by rw [e, h'] at h; cases h

/-! ### what is walked -/
/-- J walks l; g stores each; τ: the slots behind; while Gd -/
structure Src (J : It) {α : Type} (l : List α) (g : TG) (τ : α → L2.St → L2.St) (Gd : Hp → Prop) : Prop where
  go : ∀ i H, i < l.length → Gd H → J.go i H
  stop : ∀ H, Gd H → J.stop l.length H
  yld : ∀ i H x H' σ K, (hi : i < l.length) → Gd H → J.yld i H x H' → (∀ H'', Ex H H'' → K (τ l[i] σ) H'') → g x σ H' K
/-- the iterable begins a walk of l; it reads addresses of A or new ones alone -/
def EvI (A : Addr → Prop) {α : Type} (wi : TI) (g : TG) (σ : L2.St) (H : Hp) (l : List α) (τ : α → L2.St → L2.St) : Prop :=
  ∀ H1, Ex H H1 → ∀ R : It → Hp → Prop, (∀ (J : It) (H2 : Hp) (Gd : Hp → Prop) (fp : List Addr), Ex H1 H2 → (∀ a ∈ fp, A a ∨ H1 a = none) → Gd H2 → (∀ s Ha Hb, Xb s Ha Hb → (∀ a ∈ fp, a ∉ s) → Gd Ha → Gd Hb) → Src J l g τ Gd → R J H2) → wi σ H1 R
def isLA (K : PySem.W.Frag) (A : Addr → Prop) (H0 : Hp) (xs : List V) : V → Hp → Prop := fun u H => ∃ a, u = .ref a ∧ (A a ∨ H0 a = none) ∧ SL K H a xs
theorem mon_LA (K : PySem.W.Frag) (A : Addr → Prop) (H0 : Hp) (xs : List V) : Mon (isLA K A H0 xs) := fun _ _ _ e ⟨a, h1, h2, h3⟩ => ⟨a, h1, h2, exl e h3⟩
def EvQA (K : PySem.W.Frag) (A : Addr → Prop) (te : TE) (σ : L2.St) (H : Hp) (xs : List V) : Prop := ∀ H1, Ex H H1 → ∀ Q : VK, (∀ a H2, Ex H1 H2 → (A a ∨ H1 a = none) → SL K H2 a xs → Q (.ref a) H2) → te σ H1 Q
def EvQT (K : PySem.W.Frag) (A : Addr → Prop) (te : TE) (σ : L2.St) (H : Hp) (xs : List V) : Prop := ∀ H1, Ex H H1 → ∀ Q : VK, (∀ a H2, Ex H1 H2 → (A a ∨ H1 a = none) → ST K H2 a xs → Q (.ref a) H2) → te σ H1 Q
section
variable {K : PySem.W.Frag} {A : Addr → Prop} {σ : L2.St} {H H' : Hp} {ta tb tc te tx tl : TE} {t u : TT} {x y z v : V} {xs ys : List V} {tr : TA} {α β γ : Type}
theorem qa_new (h : EvL te σ H xs) : EvQA K A te σ H xs := fun H1 e Q q => h H1 e Q fun p H2 hp e2 h2 => q p H2 e2 (.inr hp) (slof h2)
theorem qa_old {a : Addr} (h : Ev te σ H (.ref a)) (hs : SL K H a xs) (ha : A a) : EvQA K A te σ H xs := fun H1 e Q q => h H1 e Q fun H2 e2 => q a H2 e2 (.inl ha) (exl (e.trans e2) hs)
theorem qt_new (h : EvU te σ H xs) : EvQT K A te σ H xs := fun H1 e Q q => h H1 e Q fun p H2 hp e2 h2 => q p H2 e2 (.inr hp) (stof h2)
theorem qt_old {a : Addr} (h : Ev te σ H (.ref a)) (hs : ST K H a xs) (ha : A a) : EvQT K A te σ H xs := fun H1 e Q q => h H1 e Q fun H2 e2 => q a H2 e2 (.inl ha) (ext (e.trans e2) hs)
theorem i_list {l : List α} {gv : α → V} {j : Nat} (h : EvQA K A tl σ H (l.map gv)) : EvI A (iList K tl) (gName j) σ H l (fun x s => s.set j (some (gv x))) := fun H1 e R q =>
  h H1 e _ fun a H2 e2 ha hs => have hs := hs.q; ⟨a, rfl, ⟨_, hs⟩, q (Itl K a) H2 (fun H => SqL K H a (l.map gv)) [a] e2 (by simpa using ha) hs (fun s Ha Hb x n g => x.lq (n a (by simp)) g)
    ⟨fun i H hi g => ⟨_, gv l[i], g, by simp [hi]⟩, fun H g => ⟨_, g, by simp⟩, fun i H x H' σ K hi g y k => by
      obtain ⟨e1, y⟩ := y
      subst e1
      have := y _ g
      simp [hi] at this
      subst this
      exact k H' (Ex.refl _)⟩⟩
theorem i_tup {l : List α} {gv : α → V} {j : Nat} (h : EvQT K A tl σ H (l.map gv)) : EvI A (iTup K tl) (gName j) σ H l (fun x s => s.set j (some (gv x))) := fun H1 e R q =>
  h H1 e _ fun a H2 e2 ha hs => have hs := hs.q; ⟨a, rfl, ⟨_, hs⟩, q (Itt K a) H2 (fun H => SqT K H a (l.map gv)) [a] e2 (by simpa using ha) hs (fun s Ha Hb x n g => x.tq (n a (by simp)) g)
    ⟨fun i H hi g => ⟨_, gv l[i], g, by simp [hi]⟩, fun H g => ⟨_, g, by simp⟩, fun i H x H' σ K hi g y k => by
      obtain ⟨e1, y⟩ := y
      subst e1
      have := y _ g
      simp [hi] at this
      subst this
      exact k H' (Ex.refl _)⟩⟩
theorem i_tupV {j : Nat} (h : EvQT K A tl σ H xs) : EvI A (iTup K tl) (gName j) σ H xs (fun x s => s.set j (some x)) := by
  have := i_tup (l := xs) (gv := fun x => x) (j := j) (by rw [List.map_id']; exact h)
  exact this
theorem i_listV {j : Nat} (h : EvQA K A tl σ H xs) : EvI A (iList K tl) (gName j) σ H xs (fun x s => s.set j (some x)) := by
  have := i_list (l := xs) (gv := fun x => x) (j := j) (by rw [List.map_id']; exact h)
  exact this
theorem i_str {l : Row} {j : Nat} (h : Ev te σ H (VS l)) : EvI A (iStr te) (gName j) σ H l (fun c s => s.set j (some (VS [c]))) := fun H1 e R q =>
  h H1 e _ fun H2 e2 => ⟨S l, rfl, q (Its (S l)) H2 (fun _ => True) [] e2 (by simp) trivial (fun _ _ _ _ _ _ => trivial)
    ⟨fun i H hi _ => by show i < l.toArray.size; simpa using hi, fun H _ => by show l.toArray.size ≤ l.length; simp, fun i H x H' σ K hi _ y k => by
      obtain ⟨e1, c, ec, e3⟩ := y
      subst e1
      have ec : l.toArray[i]? = some c := ec
      simp [hi] at ec
      subst ec e3
      exact k H' (Ex.refl _)⟩⟩
theorem i_rng1 {ta : TA} {n : Int} {j : Nat} (h : EvA ta σ H [.int n]) (hn : -1000000 ≤ n ∧ n ≤ 1000000) : EvI A (iRng1 ta) (gName j) σ H (List.range n.toNat) (fun (i : Nat) s => s.set j (some (.int (i : Int)))) := fun H1 e R q =>
  h H1 e _ fun H2 e2 => ⟨n, rfl, by omega, by omega, q (Itr 0 n.toNat) H2 (fun _ => True) [] e2 (by simp) trivial (fun _ _ _ _ _ _ => trivial)
    ⟨fun i H hi _ => by show i < n.toNat; simpa using hi, fun H _ => by show n.toNat ≤ _; simp, fun i H x H' σ K hi _ y k => by
      obtain ⟨e1, e3⟩ := y
      subst e1 e3
      simp only [List.getElem_range] at k
      show K (σ.set j (some (.int (0 + (i : Int))))) H'
      rw [Int.zero_add]
      exact k H' (Ex.refl _)⟩⟩
theorem i_rng2 {ta : TA} {lo n : Int} {j : Nat} (h : EvA ta σ H [.int lo, .int n]) (hn : -1000000 ≤ n ∧ n ≤ 1000000) (hl : -1000000 ≤ lo ∧ lo ≤ 1000000) : EvI A (iRng2 ta) (gName j) σ H (List.range (n - lo).toNat) (fun (i : Nat) s => s.set j (some (.int (lo + (i : Int))))) := fun H1 e R q =>
  h H1 e _ fun H2 e2 => ⟨lo, n, rfl, ⟨by omega, by omega, by omega, by omega⟩, q (Itr lo (n - lo).toNat) H2 (fun _ => True) [] e2 (by simp) trivial (fun _ _ _ _ _ _ => trivial)
    ⟨fun i H hi _ => by show i < (n - lo).toNat; simpa using hi, fun H _ => by show (n - lo).toNat ≤ _; simp, fun i H x H' σ K hi _ y k => by
      obtain ⟨e1, e3⟩ := y
      subst e1 e3
      simp only [List.getElem_range] at k
      exact k H' (Ex.refl _)⟩⟩
theorem zip_get {l : List α} {m : List β} {i : Nat} (hi : i < (l.zip m).length) : ∃ (h1 : i < l.length) (h2 : i < m.length), (l.zip m)[i] = (l[i], m[i]) := by
  rw [List.length_zip] at hi
  exact ⟨by omega, by omega, List.getElem_zip⟩
theorem gTup2 {g1 g2 : TG} {T : Addr} {H : Hp} {σ : L2.St} {K' : L2.St → Hp → Prop} (hT : SqT K H T [x, y]) (k : g1 x σ H fun σ' H' => g2 y σ' H' K') : gTup K 2 (gCons g1 (gCons g2 gNil)) (.ref T) σ H K' :=
  ⟨T, [x, y], rfl, hT, rfl, x, [y], rfl, by
    show g1 x σ H _
    have : (fun σ' H' => g2 y σ' H' K') = fun σ' H' => gCons g2 gNil [y] σ' H' K' := by
      funext σ' H'
      apply propext
      constructor
      · intro h
        refine ⟨y, [], rfl, ?_⟩
        have : (fun σ' H' => gNil [] σ' H' K') = K' := by
          funext a b
          apply propext
          exact ⟨fun h => h.2, fun h => ⟨rfl, h⟩⟩
        rw [this]; exact h
      · rintro ⟨v, r, e, h⟩
        injection e with e1 e2
        subst e1 e2
        have : (fun σ' H' => gNil [] σ' H' K') = K' := by
          funext a b
          apply propext
          exact ⟨fun h => h.2, fun h => ⟨rfl, h⟩⟩
        rw [this] at h; exact h
    rw [← this]; exact k⟩
theorem gTup2n {j1 j2 : Nat} {T : Addr} {H : Hp} {σ : L2.St} {K' : L2.St → Hp → Prop} (hT : SqT K H T [x, y]) (k : K' ((σ.set j1 (some x)).set j2 (some y)) H) : gTup K 2 (gCons (gName j1) (gCons (gName j2) gNil)) (.ref T) σ H K' :=
  ⟨T, [x, y], rfl, hT, rfl, x, [y], rfl, y, [], rfl, rfl, k⟩
theorem gTup3n {j1 j2 j3 : Nat} {T : Addr} {H : Hp} {σ : L2.St} {K' : L2.St → Hp → Prop} (hT : SqT K H T [x, y, z]) (k : K' (((σ.set j1 (some x)).set j2 (some y)).set j3 (some z)) H) : gTup K 3 (gCons (gName j1) (gCons (gName j2) (gCons (gName j3) gNil))) (.ref T) σ H K' :=
  ⟨T, [x, y, z], rfl, hT, rfl, x, [y, z], rfl, y, [z], rfl, z, [], rfl, rfl, k⟩
theorem i_zip {l : List α} {m : List β} {g1 : α → V} {g2 : β → V} {j1 j2 : Nat} (h1 : EvQA K A ta σ H (l.map g1)) (h2 : EvQA K A tb σ H (m.map g2)) :
    EvI A (iZip K (tCons ta (tCons tb tNil))) (gTup K 2 (gCons (gName j1) (gCons (gName j2) gNil))) σ H (l.zip m) (fun p s => (s.set j1 (some (g1 p.1))).set j2 (some (g2 p.2))) := fun H1 e R q =>
  h1 H1 e _ fun a H2 e2 ha hs => have hs := hs.q; h2 H2 (e.trans e2) _ fun b H3 e3 hb ht => have ht := ht.q; ⟨a, b, _, _, rfl, ex_l e3 hs, ht, q (Itz K a b) H3 (fun H => SqL K H a (l.map g1) ∧ SqL K H b (m.map g2)) [a, b] (e2.trans e3)
    (by
      intro c hc
      rcases List.mem_cons.mp hc with rfl | hc
      · exact ha
      · obtain rfl := List.mem_singleton.mp hc
        rcases hb with hb | hb
        · exact .inl hb
        · exact .inr (fresh_back e2 hb)) ⟨ex_l e3 hs, ht⟩ (fun s Ha Hb x n g => ⟨x.lq (n a (by simp)) g.1, x.lq (n b (by simp)) g.2⟩)
    ⟨fun i H hi g => by
      obtain ⟨p1, p2, _⟩ := zip_get hi
      exact ⟨_, _, g1 l[i], g2 m[i], g.1, g.2, by simp [p1], by simp [p2]⟩, fun H g => ⟨_, _, g.1, g.2, by
      rw [List.length_map, List.length_map, List.length_zip]; omega⟩, fun i H x H' σ K hi g y k => by
      obtain ⟨p1, p2, e1⟩ := zip_get hi
      obtain ⟨T, x1, x2, rfl, hT, rfl, y1, y2⟩ := y
      have y1 := y1 _ g.1
      have y2 := y2 _ g.2
      simp [p1] at y1
      simp [p2] at y2
      subst y1 y2
      rw [e1] at k
      exact gTup2n (st_of upd_same) (k _ (Ex.new hT))⟩⟩
theorem i_zipSS {l m : Row} {j1 j2 : Nat} (h1 : Ev ta σ H (VS l)) (h2 : Ev tb σ H (VS m)) :
    EvI A (iZipSS (tCons ta (tCons tb tNil))) (gTup K 2 (gCons (gName j1) (gCons (gName j2) gNil))) σ H (l.zip m) (fun p s => (s.set j1 (some (VS [p.1]))).set j2 (some (VS [p.2]))) := fun H1 e R q =>
  h1 H1 e _ fun H2 e2 => h2 H2 (e.trans e2) _ fun H3 e3 => ⟨S l, S m, rfl, q (ItzS (S l) (S m)) H3 (fun _ => True) [] (e2.trans e3) (by simp) trivial (fun _ _ _ _ _ _ => trivial)
    ⟨fun i H hi _ => by
      obtain ⟨p1, p2, _⟩ := zip_get hi
      show i < l.toArray.size ∧ i < m.toArray.size
      simpa using ⟨p1, p2⟩, fun H _ => by
      show l.toArray.size ≤ _ ∨ m.toArray.size ≤ _
      simp only [List.size_toArray, List.length_zip]; omega, fun i H x H' σ K hi _ y k => by
      obtain ⟨p1, p2, e1⟩ := zip_get hi
      obtain ⟨T, c, d, rfl, hT, rfl, y1, y2⟩ := y
      have y1 : l.toArray[i]? = some c := y1
      have y2 : m.toArray[i]? = some d := y2
      simp [p1] at y1
      simp [p2] at y2
      subst y1 y2
      rw [e1] at k
      exact gTup2n (st_of upd_same) (k _ (Ex.new hT))⟩⟩
theorem i_enum {l : List α} {g1 : α → V} {j1 j2 : Nat} (h1 : EvQA K A ta σ H (l.map g1)) :
    EvI A (iEnum K (tCons ta tNil)) (gTup K 2 (gCons (gName j1) (gCons (gName j2) gNil))) σ H (l.zipIdx) (fun p s => (s.set j1 (some (.int (p.2 : Nat)))).set j2 (some (g1 p.1))) := fun H1 e R q =>
  h1 H1 e _ fun a H2 e2 ha hs => have hs := hs.q; ⟨a, _, rfl, hs, q (Ite K a) H2 (fun H => SqL K H a (l.map g1)) [a] e2 (by simpa using ha) hs (fun s Ha Hb x n g => x.lq (n a (by simp)) g)
    ⟨fun i H hi g => by
      rw [List.length_zipIdx] at hi
      exact ⟨_, g1 l[i], g, by simp [hi]⟩, fun H g => ⟨_, g, by simp⟩, fun i H x H' σ K hi g y k => by
      have hi' : i < l.length := by rw [List.length_zipIdx] at hi; exact hi
      obtain ⟨T, x2, rfl, hT, rfl, y2⟩ := y
      have y2 := y2 _ g
      simp [hi'] at y2
      subst y2
      have k := k (upd H T (.tup [.int (i : Nat), g1 l[i]])) (Ex.new hT)
      simp only [List.getElem_zipIdx, Nat.zero_add] at k
      exact gTup2n (st_of upd_same) k⟩⟩
theorem i_zip3 {l : List α} {m : List β} {n : List γ} {g1 : α → V} {g2 : β → V} {g3 : γ → V} {j1 j2 j3 : Nat} (h1 : EvQA K A ta σ H (l.map g1)) (h2 : EvQA K A tb σ H (m.map g2)) (h3 : EvQA K A tc σ H (n.map g3)) :
    EvI A (iZip3 K (tCons ta (tCons tb (tCons tc tNil)))) (gTup K 3 (gCons (gName j1) (gCons (gName j2) (gCons (gName j3) gNil)))) σ H (l.zip (m.zip n)) (fun p s => ((s.set j1 (some (g1 p.1))).set j2 (some (g2 p.2.1))).set j3 (some (g3 p.2.2))) := fun H1 e R q =>
  h1 H1 e _ fun a H2 e2 ha hs => have hs := hs.q; h2 H2 (e.trans e2) _ fun b H3 e3 hb ht => have ht := ht.q; h3 H3 ((e.trans e2).trans e3) _ fun c H4 e4 hc hu => have hu := hu.q; ⟨a, b, c, _, _, _, rfl, ex_l (e3.trans e4) hs, ex_l e4 ht, hu,
    q (Itz3 K a b c) H4 (fun H => SqL K H a (l.map g1) ∧ SqL K H b (m.map g2) ∧ SqL K H c (n.map g3)) [a, b, c] ((e2.trans e3).trans e4)
    (by
      intro d hd
      simp only [List.mem_cons, List.not_mem_nil, or_false] at hd
      rcases hd with rfl | rfl | rfl
      · exact ha
      · rcases hb with hb | hb
        · exact .inl hb
        · exact .inr (fresh_back e2 hb)
      · rcases hc with hc | hc
        · exact .inl hc
        · exact .inr (fresh_back (e2.trans e3) hc)) ⟨ex_l (e3.trans e4) hs, ex_l e4 ht, hu⟩ (fun s Ha Hb x n g => ⟨x.lq (n a (by simp)) g.1, x.lq (n b (by simp)) g.2.1, x.lq (n c (by simp)) g.2.2⟩)
    ⟨fun i H hi g => by
      obtain ⟨p1, p2, _⟩ := zip_get hi
      obtain ⟨p3, p4, _⟩ := zip_get p2
      exact ⟨_, _, _, g1 l[i], g2 m[i], g3 n[i], g.1, g.2.1, g.2.2, by simp [p1], by simp [p3], by simp [p4]⟩, fun H g => ⟨_, _, _, g.1, g.2.1, g.2.2, by
      simp only [List.length_map, List.length_zip]; omega⟩, fun i H x H' σ K hi g y k => by
      obtain ⟨p1, p2, e1⟩ := zip_get hi
      obtain ⟨p3, p4, e2⟩ := zip_get p2
      obtain ⟨T, x1, x2, x3, rfl, hT, rfl, y1, y2, y3⟩ := y
      have y1 := y1 _ g.1
      have y2 := y2 _ g.2.1
      have y3 := y3 _ g.2.2
      simp [p1] at y1
      simp [p3] at y2
      simp [p4] at y3
      subst y1 y2 y3
      rw [e1, e2] at k
      exact gTup3n (st_of upd_same) (k _ (Ex.new hT))⟩⟩

/-! ### comprehensions -/
theorem wipe_one (σ : L2.St) (j : Nat) (y : Option V) : wipe ((wipe σ [j]).set j y) [j] = wipe σ [j] := by
  show (((σ.set j none).set j y).set j none) = σ.set j none
  rw [List.set_set, List.set_set]
theorem wipe_two (σ : L2.St) {i j : Nat} (h : i ≠ j) (y z : Option V) : wipe (((wipe σ [i, j]).set i y).set j z) [i, j] = wipe σ [i, j] := by
  show (((((σ.set j none).set i none).set i y).set j z).set j none).set i none = (σ.set j none).set i none
  rw [List.set_set, List.set_set, List.set_comm _ _ h, List.set_set, List.set_set]
/-- l gone through so far: what stands at Dl -/
def CwL (H : Hp) (Dl : Addr) (acc : List V) (H' : Hp) : Prop := H Dl = none ∧ Ex H H' ∧ H' Dl = some (.lst acc)
theorem el_lc {l : List α} {b : α → Bool} {f : α → V} {wi : TI} {g : TG} {τ : α → L2.St → L2.St} {vs : List Nat} (src : EvI (fun _ => True) wi g σ H l τ) (hz : l.length ≤ 40000) (hw : ∀ x, wipe (τ x (wipe σ vs)) vs = wipe σ vs)
    (ht : ∀ x ∈ l, ∀ H1, Ex H H1 → EvT t (τ x (wipe σ vs)) H1 (b x)) (he : ∀ x ∈ l, b x = true → ∀ H1, Ex H H1 → Ev te (τ x (wipe σ vs)) H1 (f x)) : EvL (tLc wi g t te vs) σ H ((l.filter b).map f) := fun H0 e Q q =>
  src H0 e _ fun J H1 Gd fp e1 hfp gd0 stay S Dl hD => by
    refine ⟨fun i m H' => m = l.length - i ∧ i ≤ l.length ∧ CwL H1 Dl (((l.take i).filter b).map f) H', ⟨l.length, by simp, Nat.zero_le _, hD, Ex.new hD, upd_same⟩, ?_⟩
    rintro i m H' ⟨rfl, hi, p1, p2, p3⟩
    have gd : Gd H' := stay [] H1 H' (fun a o _ h => p2 a o h) (fun _ _ => by simp) gd0
    by_cases hlt : i < l.length
    · refine .inr ⟨S.go i H' hlt gd, fun H'' => CwL H1 Dl (((l.take (i + 1)).filter b).map f) H'', fun H'' c => ⟨l.length - (i + 1), by omega, rfl, hlt, c⟩, fun x H2 y => ?_⟩
      refine S.yld i H' x H2 (wipe σ vs) _ hlt gd y fun H3 e3 => ⟨hw _, ?_⟩
      have eH : Ex H H3 := (e.trans e1).trans (p2.trans e3)
      have hm : l[i] ∈ l := List.getElem_mem hlt
      have hx : l.take (i + 1) = l.take i ++ [l[i]] := by rw [List.take_succ, List.getElem?_eq_getElem hlt]; rfl
      refine ht l[i] hm H3 eH H3 (Ex.refl _) _ fun H4 e4 => ?_
      cases hb : b l[i] with
      | true =>
        show te _ H4 _
        refine he l[i] hm hb H4 (eH.trans e4) H4 (Ex.refl _) _ fun H5 e5 => ⟨_, e5 _ _ (e4 _ _ (e3 _ _ p3)), ?_, p1, Ex.mut (((p2.trans e3).trans e4).trans e5) p1, ?_⟩
        · refine sz_lt ?_
          rw [List.length_map]
          have := List.length_filter_le b (l.take i)
          rw [List.length_take] at this
          omega
        · rw [upd_same, hx, List.filter_append, List.map_append, List.filter_cons, if_pos hb]
          rfl
      | false =>
        show CwL H1 Dl _ H4
        refine ⟨p1, (p2.trans e3).trans e4, ?_⟩
        rw [hx, List.filter_append, List.filter_cons, if_neg (by rw [hb]; decide), List.filter_nil, List.append_nil]
        exact e4 _ _ (e3 _ _ p3)
    · have ei : i = l.length := by omega
      subst ei
      rw [List.take_length] at p3
      exact .inl ⟨S.stop H' gd, q Dl H' (fresh_back e1 p1) (e1.trans p2) p3⟩
theorem el_lc1 {l : List α} {f : α → V} {wi : TI} {g : TG} {τ : α → L2.St → L2.St} {vs : List Nat} (src : EvI (fun _ => True) wi g σ H l τ) (hz : l.length ≤ 40000) (hw : ∀ x, wipe (τ x (wipe σ vs)) vs = wipe σ vs)
    (he : ∀ x ∈ l, ∀ H1, Ex H H1 → Ev te (τ x (wipe σ vs)) H1 (f x)) : EvL (tLc wi g tYes te vs) σ H (l.map f) := by
  have := el_lc (b := fun _ => true) (t := tYes) (te := te) (f := f) src hz hw (fun x _ H1 _ H2 _ Q q => q H2 (Ex.refl _)) (fun x hx _ => he x hx)
  rwa [List.filter_eq_self.mpr (fun _ _ => rfl)] at this

/-! ### loops -/
variable {D : Ends} {tu tw tz : TS} {g : TG}
theorem s_for {s : List Addr} {l : List α} {wi : TI} {τ : α → L2.St → L2.St} (src : EvI (· ∉ s) wi g σ H l τ) (hs : ∀ a ∈ s, H a ≠ none)
    (k : ∀ H1, Ex H H1 → ∃ Pv : Nat → L2.St → Hp → Prop, Pv 0 σ H1 ∧ (∀ i σ' H', Pv i σ' H' → Xb s H1 H') ∧
      (∀ i x σ' H' H2, l[i]? = some x → Pv i σ' H' → Ex H' H2 → tu { D with nx := Pv (i + 1), ct := Pv (i + 1), bk := D.nx } (τ x σ') H2) ∧ (∀ σ' H', Pv l.length σ' H' → D.nx σ' H')) : tFor wi g tu D σ H :=
  src H (Ex.refl H) _ fun J H1 Gd fp e1 hfp gd0 stay S => by
    obtain ⟨Pv, h0, hx, hst, hd⟩ := k H1 e1
    refine ⟨fun i m σ' H' => m = l.length - i ∧ i ≤ l.length ∧ Pv i σ' H', ⟨l.length, by simp, Nat.zero_le _, h0⟩, ?_⟩
    rintro i m σ' H' ⟨rfl, hi, p⟩
    have gd : Gd H' := stay s H1 H' (hx i σ' H' p) (fun a ha hm => by
      rcases hfp a ha with h | h
      · exact h hm
      · exact hs a hm h) gd0
    by_cases hlt : i < l.length
    · refine .inr ⟨S.go i H' hlt gd, Pv (i + 1), fun σ'' H'' c => ⟨l.length - (i + 1), by omega, rfl, hlt, c⟩, fun x H2 y => ?_⟩
      exact S.yld i H' x H2 σ' _ hlt gd y fun H3 e3 => hst i l[i] σ' H' H3 (by simp [hlt]) p e3
    · have ei : i = l.length := by omega
      subst ei
      exact .inl ⟨S.stop H' gd, hd σ' H' p⟩
theorem q_for {s : List Addr} {l : List α} {wi : TI} {τ : α → L2.St → L2.St} (src : EvI (· ∉ s) wi g σ H l τ) (hs : ∀ a ∈ s, H a ≠ none)
    (k : ∀ H1, Ex H H1 → ∃ Pv : Nat → L2.St → Hp → Prop, Pv 0 σ H1 ∧ (∀ i σ' H', Pv i σ' H' → Xb s H1 H') ∧
      (∀ i x σ' H' H2, l[i]? = some x → Pv i σ' H' → Ex H' H2 → tu { D with nx := Pv (i + 1), ct := Pv (i + 1), bk := tz D } (τ x σ') H2) ∧ (∀ σ' H', Pv l.length σ' H' → tz D σ' H')) : tSeq (tFor wi g tu) tz D σ H :=
  s_for (D := { D with nx := tz D }) src hs k

/-- d while it is walked -/
def Lk (H : Hp) (d : Addr) (r : Dic) (od : Obj) : Hp := upd H d (.frz od (.dK (DS r)))
theorem lk_back {r : Dic} {d : Addr} {od : Obj} (hd : H d = some (.dK (DS r))) {H' : Hp} (e : Ex (Lk H d r od) H') : H' d = some (.frz od (.dK (DS r))) ∧ Ex H (upd H' d (.dK (DS r))) := ⟨e d _ upd_same, fun a o h => by
  by_cases ha : a = d
  · subst ha; rw [upd_same, ← hd, h]
  · rw [upd_ne ha]; exact e a o (by unfold Lk; rw [upd_ne ha]; exact h)⟩
/-- for row, letter in d.items(): .., a body that changes nothing -/
theorem s_items {r : Dic} {d : Addr} {td : TE} {j1 j2 : Nat} {Pv : Nat → L2.St → Prop} (hd : H d = some (.dK (DS r))) (ht : ∀ od, Ev td σ (Lk H d r od) (.ref d)) (h0 : Pv 0 σ)
    (hs : ∀ od i p σ' H', r[i]? = some p → Pv i σ' → Ex (Lk H d r od) H' →
      tu ⟨fun σ2 H2 => Ex (Lk H d r od) H2 ∧ Pv (i + 1) σ2, fun v H2 => H2 d = some (.frz od (.dK (DS r))) ∧ D.rt v (upd H2 d (.dK (DS r))), fun σ2 H2 => H2 d = some (.frz od (.dK (DS r))) ∧ D.nx σ2 (upd H2 d (.dK (DS r))), fun σ2 H2 => Ex (Lk H d r od) H2 ∧ Pv (i + 1) σ2⟩ ((σ'.set j1 (some (VS p.1))).set j2 (some (VS p.2))) H')
    (k : ∀ σ' H', Ex H H' → Pv r.length σ' → D.nx σ' H') : tLock (tFor (iItems td) (gTup K 2 (gCons (gName j1) (gCons (gName j2) gNil))) tu) D σ H := by
  refine ⟨d, _, hd, trivial, fun od => ?_⟩
  refine ht od _ (Ex.refl _) _ fun H1 e1 => ⟨d, od, DS r, rfl, e1 d _ upd_same, ?_⟩
  refine ⟨fun i m σ' H' => m = r.length - i ∧ i ≤ r.length ∧ Ex (Lk H d r od) H' ∧ Pv i σ', ⟨r.length, by simp, Nat.zero_le _, e1, h0⟩, ?_⟩
  rintro i m σ' H' ⟨rfl, hi, ex, p⟩
  have hq := lk_back hd ex
  by_cases hlt : i < r.length
  · refine .inr ⟨⟨hq.1, by rw [DS_len]; exact hlt⟩, fun σ'' H'' => Ex (Lk H d r od) H'' ∧ Pv (i + 1) σ'', fun σ'' H'' c => ⟨r.length - (i + 1), by omega, rfl, hlt, c⟩, fun x H2 y => ?_⟩
    obtain ⟨T, kk, v, hkv, rfl, hT, rfl⟩ := y
    have hkv : (DS r)[i]? = some (kk, v) := hkv
    unfold DS at hkv
    simp [hlt] at hkv
    obtain ⟨rfl, rfl⟩ := hkv
    exact gTup2n (x := VS r[i].1) (st_of upd_same) (hs od i r[i] σ' _ (by simp [hlt]) p (ex.trans (Ex.new hT)))
  · have ei : i = r.length := by omega
    subst ei
    exact .inl ⟨⟨hq.1, by rw [DS_len]; exact Nat.le_refl _⟩, hq.1, k σ' _ hq.2 p⟩
theorem q_items {r : Dic} {d : Addr} {td : TE} {j1 j2 : Nat} {Pv : Nat → L2.St → Prop} (hd : H d = some (.dK (DS r))) (ht : ∀ od, Ev td σ (Lk H d r od) (.ref d)) (h0 : Pv 0 σ)
    (hs : ∀ od i p σ' H', r[i]? = some p → Pv i σ' → Ex (Lk H d r od) H' →
      tu ⟨fun σ2 H2 => Ex (Lk H d r od) H2 ∧ Pv (i + 1) σ2, fun v H2 => H2 d = some (.frz od (.dK (DS r))) ∧ D.rt v (upd H2 d (.dK (DS r))), fun σ2 H2 => H2 d = some (.frz od (.dK (DS r))) ∧ tz D σ2 (upd H2 d (.dK (DS r))), fun σ2 H2 => Ex (Lk H d r od) H2 ∧ Pv (i + 1) σ2⟩ ((σ'.set j1 (some (VS p.1))).set j2 (some (VS p.2))) H')
    (k : ∀ σ' H', Ex H H' → Pv r.length σ' → tz D σ' H') : tSeq (tLock (tFor (iItems td) (gTup K 2 (gCons (gName j1) (gCons (gName j2) gNil))) tu)) tz D σ H :=
  s_items (D := { D with nx := tz D }) hd ht h0 hs k

/-! ### statements -/
theorem s_par {i j : Nat} {P1 P2 : V → Hp → Prop} (h : EvAG tr σ H [P1, P2]) (k : ∀ v w H1, Ex H H1 → P1 v H1 → P2 w H1 → D.nx ((σ.set i (some v)).set j (some w)) H1) : tPar i j tr D σ H :=
  h H (Ex.refl H) _ fun vs H1 e1 hp => by
    obtain ⟨v, r, rfl, h1, w, r', rfl, h2, rfl⟩ := hp
    exact ⟨v, w, rfl, k v w H1 e1 h1 h2⟩
theorem q_par {i j : Nat} {P1 P2 : V → Hp → Prop} (h : EvAG tr σ H [P1, P2]) (k : ∀ v w H1, Ex H H1 → P1 v H1 → P2 w H1 → tz D ((σ.set i (some v)).set j (some w)) H1) : tSeq (tPar i j tr) tz D σ H := s_par (D := { D with nx := tz D }) h k
/-- a new list, a new dict -/
def isNL (H0 : Hp) (xs : List V) : V → Hp → Prop := fun u H => ∃ p, u = .ref p ∧ H0 p = none ∧ H p = some (.lst xs)
def isND (H0 : Hp) (kvs : List (Key × V)) : V → Hp → Prop := fun u H => ∃ p, u = .ref p ∧ H0 p = none ∧ H p = some (.dK kvs)
theorem ag_NL {Ps : List (V → Hp → Prop)} (h : EvL te σ H xs) (hr : EvAG tr σ H Ps) : EvAG (tCons te tr) σ H (isNL H xs :: Ps) :=
  ag_cons (fun H1 e Q q => h H1 e Q fun p H2 hp e2 h2 => q _ H2 e2 ⟨p, rfl, fresh_back e hp, h2⟩) (fun _ _ _ e ⟨p, h1, h2, h3⟩ => ⟨p, h1, h2, e _ _ h3⟩) hr
theorem ag_ND {Ps : List (V → Hp → Prop)} {kvs : List (Key × V)} (h : EvD te σ H kvs) (hr : EvAG tr σ H Ps) : EvAG (tCons te tr) σ H (isND H kvs :: Ps) :=
  ag_cons (fun H1 e Q q => h H1 e Q fun p H2 hp e2 h2 => q _ H2 e2 ⟨p, rfl, fresh_back e hp, h2⟩) (fun _ _ _ e ⟨p, h1, h2, h3⟩ => ⟨p, h1, h2, e _ _ h3⟩) hr
theorem s_asgD {i : Nat} {kvs : List (Key × V)} (h : EvD te σ H kvs) (k : ∀ p H1, H p = none → Ex H H1 → H1 p = some (.dK kvs) → D.nx (σ.set i (some (.ref p))) H1) : tAsg te (gName i) D σ H := h H (Ex.refl H) _ fun p H1 hp e h1 => k p H1 hp e h1
theorem q_asgD {i : Nat} {kvs : List (Key × V)} (h : EvD te σ H kvs) (k : ∀ p H1, H p = none → Ex H H1 → H1 p = some (.dK kvs) → tz D (σ.set i (some (.ref p))) H1) : tSeq (tAsg te (gName i)) tz D σ H := s_asgD (D := { D with nx := tz D }) h k
theorem s_asgG {i : Nat} {P : V → Hp → Prop} (h : EvG te σ H P) (k : ∀ v H1, Ex H H1 → P v H1 → D.nx (σ.set i (some v)) H1) : tAsg te (gName i) D σ H := h H (Ex.refl H) _ fun v H1 e h1 => k v H1 e h1
theorem q_asgG {i : Nat} {P : V → Hp → Prop} (h : EvG te σ H P) (k : ∀ v H1, Ex H H1 → P v H1 → tz D (σ.set i (some v)) H1) : tSeq (tAsg te (gName i)) tz D σ H := s_asgG (D := { D with nx := tz D }) h k
theorem s_retD {kvs : List (Key × V)} (h : EvD te σ H kvs) (k : ∀ p H1, H p = none → Ex H H1 → H1 p = some (.dK kvs) → D.rt (.ref p) H1) : tRet te D σ H := h H (Ex.refl H) _ fun p H1 hp e h1 => k p H1 hp e h1
theorem s_retG {P : V → Hp → Prop} (h : EvG te σ H P) (k : ∀ v H1, Ex H H1 → P v H1 → D.rt v H1) : tRet te D σ H := h H (Ex.refl H) _ k
/-- d[k] = v, a dict of texts -/
theorem s_dput {d : Addr} {r : Dic} {a b : Row} (hd : H d = some (.dK (DS r))) (hv : Ev te σ H (VS b)) (ho : Ev ta σ H (.ref d)) (hk : Ev tb σ H (VS a)) (hz : r.length < 100000) (k : ∀ H1, Ex H H1 → D.nx σ (upd H1 d (.dK (DS (put r a b))))) : sDPut ta tb te D σ H :=
  hv H (Ex.refl H) _ fun H1 e1 => ho H1 e1 _ fun H2 e2 => hk H2 (e1.trans e2) _ fun H3 e3 => ⟨d, _, rfl, DPut.k (k := Sum.inr (S a)) (e3 _ _ (e2 _ _ (e1 _ _ hd))) (by rw [DS_len]; exact sz_lt hz), by
    rw [DS_put]
    exact k H3 ((e1.trans e2).trans e3)⟩
theorem q_dput {d : Addr} {r : Dic} {a b : Row} (hd : H d = some (.dK (DS r))) (hv : Ev te σ H (VS b)) (ho : Ev ta σ H (.ref d)) (hk : Ev tb σ H (VS a)) (hz : r.length < 100000) (k : ∀ H1, Ex H H1 → tz D σ (upd H1 d (.dK (DS (put r a b))))) : tSeq (sDPut ta tb te) tz D σ H := s_dput (D := { D with nx := tz D }) hd hv ho hk hz k
/-- a test whose answer is known -/
theorem q_ifT (h : EvT t σ H true) (k : ∀ H1, Ex H H1 → tu { D with nx := tz D } σ H1) : tSeq (tIfS t tu tw) tz D σ H := q_if h (fun _ => k) (fun e => nomatch e)
theorem q_ifF (h : EvT t σ H false) (k : ∀ H1, Ex H H1 → tw { D with nx := tz D } σ H1) : tSeq (tIfS t tu tw) tz D σ H := q_if h (fun e => nomatch e) (fun _ => k)
/-- if ..: (never) -/
theorem q_skip (h : EvT t σ H false) (k : ∀ H1, Ex H H1 → tz D σ H1) : tSeq (tIfS t tu tNext) tz D σ H := q_if h (fun e => nomatch e) (fun _ => k)
theorem s_skip (h : EvT t σ H false) (k : ∀ H1, Ex H H1 → D.nx σ H1) : tIfS t tu tNext D σ H := s_if h (fun e => nomatch e) (fun _ => k)
/-- an if without else whose ways meet in J -/
theorem q_whenJ {b : Bool} (J : L2.St → Hp → Prop) (h : EvT t σ H b) (h1 : b = true → ∀ H1, Ex H H1 → (∀ σ' H', J σ' H' → tz D σ' H') → tu { D with nx := tz D } σ H1) (h2 : b = false → ∀ H1, Ex H H1 → J σ H1)
    (k : ∀ σ' H', J σ' H' → tz D σ' H') : tSeq (tIfS t tu tNext) tz D σ H := q_when h (fun hb H1 e => h1 hb H1 e k) fun hb H1 e => k _ _ (h2 hb H1 e)
/-- an if with else whose ways meet in J -/
theorem q_ifJ {b : Bool} (J : L2.St → Hp → Prop) (h : EvT t σ H b) (h1 : b = true → ∀ H1, Ex H H1 → (∀ σ' H', J σ' H' → tz D σ' H') → tu { D with nx := tz D } σ H1)
    (h2 : b = false → ∀ H1, Ex H H1 → (∀ σ' H', J σ' H' → tz D σ' H') → tw { D with nx := tz D } σ H1)
    (k : ∀ σ' H', J σ' H' → tz D σ' H') : tSeq (tIfS t tu tw) tz D σ H := q_if h (fun hb H1 e => h1 hb H1 e k) fun hb H1 e => h2 hb H1 e k
theorem s_ret2 (h : Ev te σ H v) (k : RetV v H D.rt) : tRet te D σ H := s_ret h k
theorem s_retL2 (h : EvL te σ H xs) (k : RetL xs H D.rt) : tRet te D σ H := s_retL h k
end
theorem exh {H H' : Hp} {a : Addr} {o : HO} (e : Ex H H') (h : H a = some o) : H' a = some o := e a o h
/-- the promises, transported -/
theorem RetV.ex {v : V} {H H1 : Hp} {Q : VK} (k : RetV v H Q) (e : Ex H H1) : RetV v H1 Q := fun H2 e2 => k H2 (e.trans e2)
theorem RetL.ex {xs : List V} {H H1 : Hp} {Q : VK} (k : RetL xs H Q) (e : Ex H H1) : RetL xs H1 Q := fun p H2 hp e2 h => k p H2 (fresh_back e hp) (e.trans e2) h
end Ho

/-! Ho, part F: == of lists of texts and numbers; displays -/
namespace Ho
open PySem PySem.Spec PyProof.Rows L2 Evl

/-- codes that a text may hold -/
def SmR (r : Row) : Prop := ∀ c ∈ r, c < 1114112
def SmT (l : List Row) : Prop := ∀ r ∈ l, SmR r
def dS (r : Row) : PyData := .str (S r)
theorem strOk_S {r : Row} (h : SmR r) : PyData.strOk (S r) = true := by
  unfold PyData.strOk
  show (r.toArray).all (· < 0x110000) = true
  rw [List.all_toArray]
  simp only [List.all_eq_true, decide_eq_true_eq]
  exact h
theorem eqvAll_S : ∀ l m : List Row, PyData.eqvAll (l.map dS) (m.map dS) = decide (l = m)
  | [], [] => by simp [PyData.eqvAll]
  | [], b :: m => by simp [PyData.eqvAll]
  | a :: l, [] => by simp [PyData.eqvAll]
  | a :: l, b :: m => by
    rw [List.map_cons, List.map_cons, PyData.eqvAll, eqvAll_S l m]
    show (PyData.eqv (.str (S a)) (.str (S b)) && _) = _
    rw [PyData.eqv]
    by_cases h : a = b
    · subst h; simp
    · have : (S a == S b) = false := beq_eq_false_iff_ne.mpr fun e => h (S_inj e)
      rw [this]; simp [h]
theorem eqvAll_I : ∀ l m : List Int, PyData.eqvAll (l.map .int) (m.map .int) = decide (l = m)
  | [], [] => by simp [PyData.eqvAll]
  | [], b :: m => by simp [PyData.eqvAll]
  | a :: l, [] => by simp [PyData.eqvAll]
  | a :: l, b :: m => by
    rw [List.map_cons, List.map_cons, PyData.eqvAll, eqvAll_I l m, PyData.eqv]
    by_cases h : a = b
    · subst h; simp
    · simp [h]
theorem lay_S : ∀ l : List Row, SmT l → PyData.canLayAll0 (l.map dS) = true
  | [], _ => by simp [PyData.canLayAll0]
  | a :: l, h => by
    rw [List.map_cons, PyData.canLayAll0, lay_S l fun r hr => h r (List.mem_cons_of_mem _ hr)]
    show (PyData.canLay0 (.str (S a)) && true) = true
    rw [PyData.canLay0, strOk_S (h a List.mem_cons_self)]
    rfl
theorem lay_I : ∀ l : List Int, PyData.canLayAll0 (l.map .int) = true
  | [] => by simp [PyData.canLayAll0]
  | a :: l => by rw [List.map_cons, PyData.canLayAll0, lay_I l, PyData.canLay0]; rfl
theorem depth_S : ∀ l : List Row, PyData.depthAll (l.map dS) = 0
  | [] => by simp [PyData.depthAll]
  | a :: l => by
    rw [List.map_cons, PyData.depthAll, depth_S l]
    show max (PyData.depth (.str (S a))) 0 = 0
    rw [PyData.depth]; rfl
theorem depth_I : ∀ l : List Int, PyData.depthAll (l.map .int) = 0
  | [] => by simp [PyData.depthAll]
  | a :: l => by rw [List.map_cons, PyData.depthAll, depth_I l, PyData.depth]; rfl
theorem shaped_S {l : List Row} (h : SmT l) : SeqAt.shaped (.list (l.map dS)) = true := by
  unfold SeqAt.shaped
  rw [PyData.canLay0, lay_S l h, PyData.depth, depth_S]
  rfl
theorem shaped_I (l : List Int) : SeqAt.shaped (.list (l.map .int)) = true := by
  unfold SeqAt.shaped
  rw [PyData.canLay0, lay_I l, PyData.depth, depth_I]
  rfl
section
variable {K : PySem.W.Frag} {σ : L2.St} {H : Hp} {ta tb te : TE} {t : TT} {tr : TA} {a b : Row} {i : Int}
theorem dp_S : ∀ l : List Row, DpAll K H (l.map VS) (l.map dS)
  | [] => .nil
  | a :: l => .cons (.str (S a)) (dp_S l)
theorem dp_I : ∀ l : List Int, DpAll K H (l.map V.int) (l.map .int)
  | [] => .nil
  | a :: l => .cons (.int a) (dp_I l)
theorem ev_eqLS {l m : List Row} (h1 : EvQ K ta σ H (l.map VS)) (h2 : EvQ K tb σ H (m.map VS)) (s1 : SmT l) (s2 : SmT m) : Ev (tOp (rEqD K) ta tb) σ H (.bl (decide (l = m))) := fun H1 e Q q =>
  h1 H1 e _ fun p H2 e2 g1 => h2 H2 (e.trans e2) _ fun p' H3 e3 g2 => ⟨.list (l.map dS), .list (m.map dS), .lst (SL.q (K := K) (exl (K := K) e3 g1)) (dp_S l), .lst (SL.q g2) (dp_S m), shaped_S s1, shaped_S s2, by
    rw [PyData.eqv, eqvAll_S]; exact q H3 (e2.trans e3)⟩
theorem ev_neLS {l m : List Row} (h1 : EvQ K ta σ H (l.map VS)) (h2 : EvQ K tb σ H (m.map VS)) (s1 : SmT l) (s2 : SmT m) : Ev (tOp (rNeD K) ta tb) σ H (.bl (!decide (l = m))) := fun H1 e Q q =>
  h1 H1 e _ fun p H2 e2 g1 => h2 H2 (e.trans e2) _ fun p' H3 e3 g2 => ⟨.list (l.map dS), .list (m.map dS), .lst (SL.q (K := K) (exl (K := K) e3 g1)) (dp_S l), .lst (SL.q g2) (dp_S m), shaped_S s1, shaped_S s2, by
    rw [PyData.eqv, eqvAll_S]; exact q H3 (e2.trans e3)⟩
theorem ev_eqLI {l m : List Int} (h1 : EvQ K ta σ H (l.map V.int)) (h2 : EvQ K tb σ H (m.map V.int)) : Ev (tOp (rEqD K) ta tb) σ H (.bl (decide (l = m))) := fun H1 e Q q =>
  h1 H1 e _ fun p H2 e2 g1 => h2 H2 (e.trans e2) _ fun p' H3 e3 g2 => ⟨.list (l.map .int), .list (m.map .int), .lst (SL.q (K := K) (exl (K := K) e3 g1)) (dp_I l), .lst (SL.q g2) (dp_I m), shaped_I l, shaped_I m, by
    rw [PyData.eqv, eqvAll_I]; exact q H3 (e2.trans e3)⟩
theorem ev_neLI {l m : List Int} (h1 : EvQ K ta σ H (l.map V.int)) (h2 : EvQ K tb σ H (m.map V.int)) : Ev (tOp (rNeD K) ta tb) σ H (.bl (!decide (l = m))) := fun H1 e Q q =>
  h1 H1 e _ fun p H2 e2 g1 => h2 H2 (e.trans e2) _ fun p' H3 e3 g2 => ⟨.list (l.map .int), .list (m.map .int), .lst (SL.q (K := K) (exl (K := K) e3 g1)) (dp_I l), .lst (SL.q g2) (dp_I m), shaped_I l, shaped_I m, by
    rw [PyData.eqv, eqvAll_I]; exact q H3 (e2.trans e3)⟩

/-! ### displays -/
theorem el_nilM {α : Type} {g : α → V} : EvL (tLst tNil) σ H (List.map g []) := el_nil
theorem emS_nil : EvA tNil σ H (List.map VS []) := ea_nil
theorem emS_cons {l : List Row} (h : Ev te σ H (VS a)) (hr : EvA tr σ H (List.map VS l)) : EvA (tCons te tr) σ H (List.map VS (a :: l)) := ea_cons h hr
theorem emI_nil : EvA tNil σ H (List.map V.int []) := ea_nil
theorem emI_cons {l : List Int} (h : Ev te σ H (.int i)) (hr : EvA tr σ H (List.map V.int l)) : EvA (tCons te tr) σ H (List.map V.int (i :: l)) := ea_cons h hr
/-- {k: v, ..} of texts -/
def EvPS (trs : List (TE × TE)) (σ : L2.St) (H : Hp) (ps : Dic) : Prop := ∀ H1, Ex H H1 → ∀ Q : List (V × V) → Hp → Prop, (∀ H2, Ex H1 H2 → Q (ps.map fun p => (VS p.1, VS p.2)) H2) → tPairs trs σ H1 Q
theorem ep_nil : EvPS [] σ H [] := fun H1 _ Q q => q H1 (Ex.refl _)
theorem ep_cons {trs : List (TE × TE)} {ps : Dic} (hk : Ev ta σ H (VS a)) (hv : Ev tb σ H (VS b)) (hr : EvPS trs σ H ps) : EvPS ((ta, tb) :: trs) σ H ((a, b) :: ps) := fun H1 e Q q =>
  hk H1 e _ fun H2 e2 => hv H2 (e.trans e2) _ fun H3 e3 => hr H3 ((e.trans e2).trans e3) _ fun H4 e4 => q H4 ((e2.trans e3).trans e4)
def putAll (ps : Dic) : Dic := ps.foldl (fun acc p => put acc p.1 p.2) []
theorem mergeK_DS : ∀ (ps acc : Dic), mergeK (DS acc) (DS ps) = DS (ps.foldl (fun acc p => put acc p.1 p.2) acc)
  | [], acc => rfl
  | p :: ps, acc => by
    show mergeK (putK (DS acc) (Sum.inr (S p.1)) (VS p.2)) (DS ps) = _
    rw [DS_put, mergeK_DS ps]
    rfl
theorem ed_disp {trs : List (TE × TE)} {ps : Dic} (h : EvPS trs σ H ps) (hl : ps.length ≤ 15) : EvD (tDisp trs) σ H (DS (putAll ps)) := fun H1 e Q q => fun p hp =>
  h _ (e.trans (Ex.new hp)) _ fun H2 e2 => ⟨e2 _ _ upd_same, DS ps, by
    unfold DS
    rw [List.map_map]
    rfl, by rw [DS_len]; exact hl, by
    have := mergeK_DS ps []
    rw [DS_nil] at this
    rw [this]
    exact q p _ hp (Ex.xb0 ((Ex.new hp).trans e2) (xb_upd (p := p)) (fun a ha => by rw [List.mem_singleton.mp ha]; exact hp)) upd_same⟩
end
end Ho
namespace Ho
open PySem PySem.Spec PyProof.Rows L2 Evl
/-! ### rows, tapes, readers: what the defs compute -/
def isRow (r : Row) (w : Int) : Bool := decide ((r.length : Int) = w) && r.all fun c => decide ([c] ∈ [[111], [46]])
def isLet (l : Row) : Bool := decide ((l.length : Int) = 1) && decide (l.headD 0 ∈ [97, 98, 99, 100, 101, 102, 103, 104, 105, 106, 107, 108, 109, 110, 111, 112, 113, 114, 115, 116, 117, 118, 119, 120, 121, 122])
def goes (r o : Row) : Bool := !(r.zip o).any fun p => decide ([p.1] = [111]) && decide ([p.2] = [46])
def mean (rd : Dic) (r : Row) : Row := (look rd r).getD []
def textOf (rd : Dic) (t : List Row) : Row := (t.map (mean rd)).flatten
def overB (t o : List Row) : Bool := decide ((t.length : Int) = (o.length : Int)) && (t.zip o).all fun p => goes p.1 p.2
def holesOf (t : List Row) : Int := (t.map fun r => ((r.count 111 : Nat) : Int)).sum
/-- a reader of a width -/
structure RdOk (rd : Dic) (w : Nat) : Prop where
  ne : rd ≠ []
  w1 : 1 ≤ w
  w4 : w ≤ 4
  nd : (rd.map (·.1)).Nodup
  row : ∀ p ∈ rd, isRow p.1 (w : Int) = true
  bl : ∀ p ∈ rd, 46 ∈ p.1
  lt : ∀ p ∈ rd, isLet p.2 = true
structure TpOk (t : List Row) (w : Nat) : Prop where
  len : t.length ≤ 30
  row : ∀ r ∈ t, isRow r (w : Int) = true
theorem isRow_len {r : Row} {w : Nat} (h : isRow r (w : Int) = true) : r.length = w := by
  unfold isRow at h
  simp only [Bool.and_eq_true, decide_eq_true_eq] at h
  omega
theorem isRow_mem {r : Row} {w : Int} (h : isRow r w = true) : ∀ c ∈ r, c = 111 ∨ c = 46 := by
  unfold isRow at h
  simp only [Bool.and_eq_true, List.all_eq_true, decide_eq_true_eq] at h
  intro c hc
  have := h.2 c hc
  simpa using this
theorem isRow_iff {r : Row} {w : Nat} : isRow r (w : Int) = true ↔ r.length = w ∧ ∀ c ∈ r, c = 111 ∨ c = 46 := by
  constructor
  · intro h
    exact ⟨isRow_len h, isRow_mem h⟩
  · rintro ⟨h1, h2⟩
    unfold isRow
    simp only [Bool.and_eq_true, List.all_eq_true, decide_eq_true_eq]
    refine ⟨by omega, fun c hc => ?_⟩
    rcases h2 c hc with e | e <;> simp [e]
theorem isLet_one {l : Row} (h : isLet l = true) : ∃ c, l = [c] ∧ 97 ≤ c ∧ c ≤ 122 := by
  unfold isLet at h
  simp only [Bool.and_eq_true, decide_eq_true_eq] at h
  match l, h with
  | [c], h => exact ⟨c, rfl, by have := h.2; simp at this; omega, by have := h.2; simp at this; omega⟩
  | [], h => simp at h
  | _ :: _ :: r, h => have := h.1; simp at this; omega
theorem isLet_of {c : Nat} (h1 : 97 ≤ c) (h2 : c ≤ 122) : isLet [c] = true := by
  unfold isLet
  simp
  omega
theorem mean_len {rd : Dic} {w : Nat} (ok : RdOk rd w) (r : Row) : (mean rd r).length ≤ 1 := by
  unfold mean
  cases h : look rd r with
  | none => simp
  | some v =>
    obtain ⟨c, e, _⟩ := isLet_one (ok.lt _ (look_mem h))
    have e : v = [c] := e
    subst e
    simp
theorem mean_cases {rd : Dic} {w : Nat} (ok : RdOk rd w) (r : Row) : mean rd r = [] ∨ ∃ c, mean rd r = [c] ∧ 97 ≤ c ∧ c ≤ 122 := by
  unfold mean
  cases h : look rd r with
  | none => exact .inl rfl
  | some v =>
    obtain ⟨c, e, h1, h2⟩ := isLet_one (ok.lt _ (look_mem h))
    exact .inr ⟨c, e, h1, h2⟩
theorem textOf_len {rd : Dic} {w : Nat} (ok : RdOk rd w) : ∀ t : List Row, (t.map (mean rd)).flatten.length ≤ t.length
  | [] => Nat.le_refl _
  | r :: t => by
    rw [List.map_cons, List.flatten_cons, List.length_append, List.length_cons]
    have := mean_len ok r
    have := textOf_len ok t
    omega
theorem rd_len {rd : Dic} {w : Nat} (ok : RdOk rd w) {p : Row × Row} (h : p ∈ rd) : p.1.length = w := isRow_len (ok.row p h)
theorem zipIdx_at {α : Type} {l : List α} {i : Nat} {x : α} {n : Nat} (h : l.zipIdx[i]? = some (x, n)) : n = i ∧ l[i]? = some x := by
  rw [List.getElem?_zipIdx] at h
  cases e : l[i]? with
  | none => rw [e] at h; cases h
  | some y =>
    rw [e] at h
    simp at h
    exact ⟨h.2.symm, by rw [h.1]⟩
/-! ### what the law draws -/
def primes : List Int := [1000003, 1000033, 1000037, 1000039, 1000081, 1000099, 1000117, 1000121, 1000133, 1000151, 1000159, 1000171, 1000183, 1000187, 1000193, 1000199]
def draw (c k m : Int) : Int := (c * 48271 + k * 69621) % primes.getD (k % 16).toNat 0 % m
theorem primes_pos : ∀ i : Nat, i < 16 → 0 < primes.getD i 0 := by decide
theorem draw_range {c k m : Int} (h : 0 < m) : 0 ≤ draw c k m ∧ draw c k m < m := ⟨Int.emod_nonneg _ (by omega), Int.emod_lt_of_pos _ h⟩
def cellAt (ns : List Int) (k : Int) : Int := if decide (k < (ns.length : Int)) then ((ns.getD k.toNat 0).natAbs : Int) else draw ((ns.sum.natAbs : Int) + 7919 * k) k 999983
theorem cellAt_nn (ns : List Int) (k : Int) : 0 ≤ cellAt ns k := by
  unfold cellAt
  split
  · omega
  · exact (draw_range (by decide)).1
def leftAt (l b : Int) : Nat → Int
  | 0 => l
  | n + 1 => leftAt l b n / b
def digit (cell base : Int) (t : Nat) : Int :=
  if 1000000000000000000 ≤ cell then leftAt (cell - 1000000000000000000) base t % base
  else (draw ((cell + 977 * (t : Int)) * (cell + 31 * (t : Int) + 5)) ((t : Int) % 9 + 1) 999983 * 1000003 + draw ((cell + 31 * (t : Int)) * (cell + 7) + 977 * (t : Int)) ((t : Int) % 7 + 2) 1000003) % base
def digits (ns : List Int) (k many base : Int) : List Int := (List.range many.toNat).map (digit (cellAt ns k) base)
theorem digit_range {c b : Int} (hb : 0 < b) (t : Nat) : 0 ≤ digit c b t ∧ digit c b t < b := by
  unfold digit
  split
  · exact ⟨Int.emod_nonneg _ (by omega), Int.emod_lt_of_pos _ hb⟩
  · exact ⟨Int.emod_nonneg _ (by omega), Int.emod_lt_of_pos _ hb⟩
theorem digits_mem {ns : List Int} {k m b : Int} (hb : 0 < b) : ∀ d ∈ digits ns k m b, 0 ≤ d ∧ d < b := by
  intro d hd
  obtain ⟨t, _, rfl⟩ := List.mem_map.mp hd
  exact digit_range hb t
theorem digits_len (ns : List Int) (k m b : Int) : (digits ns k m b).length = m.toNat := by simp [digits]
theorem digits_at {ns : List Int} {k m b : Int} (hb : 0 < b) (i : Nat) : 0 ≤ (digits ns k m b).getD i 0 ∧ ((digits ns k m b).getD i 0 < b) := by
  by_cases h : i < (digits ns k m b).length
  · rw [List.getD_eq_getElem?_getD, List.getElem?_eq_getElem h]
    exact digits_mem hb _ (List.getElem_mem h)
  · rw [List.getD_eq_getElem?_getD, List.getElem?_eq_none (by omega)]
    exact ⟨Int.le_refl _, hb⟩
/-! ### rows of a width -/
def bitC (n : Nat) (w : Int) (t : Nat) : Row := if decide (Builtin.bitAnd ((n : Int) / 2 ^ (w - 1 - (t : Int)).toNat) 1 = 1) then [111] else [46]
def rowN (w : Int) (n : Nat) : Row := ((List.range w.toNat).map (bitC n w)).flatten
def rowsL (w : Int) : List Row := (List.range (1 * 2 ^ w.toNat : Int).toNat).map (rowN w)
theorem bitC_len (n : Nat) (w : Int) (t : Nat) : (bitC n w t).length = 1 := by unfold bitC; split <;> rfl
theorem sum_ones {α : Type} (l : List α) : (l.map fun _ => 1).sum = l.length := by
  induction l with
  | nil => rfl
  | cons a l ih => rw [List.map_cons, List.sum_cons, ih, List.length_cons]; omega
theorem rowN_len (w : Int) (n : Nat) : (rowN w n).length = w.toNat := by
  unfold rowN
  rw [List.length_flatten, List.map_map]
  have : (List.length ∘ bitC n w) = fun _ => 1 := funext (bitC_len n w)
  rw [this, sum_ones, List.length_range]
theorem rowN_row (w : Nat) (n : Nat) : isRow (rowN w n) (w : Int) = true := by
  rw [isRow_iff]
  refine ⟨by rw [rowN_len]; rfl, fun c hc => ?_⟩
  obtain ⟨l, hl, hc⟩ := List.mem_flatten.mp hc
  obtain ⟨t, _, rfl⟩ := List.mem_map.mp hl
  unfold bitC at hc
  split at hc <;> simp at hc <;> simp [hc]
theorem rowsL_len (w : Int) : (rowsL w).length = 2 ^ w.toNat := by
  unfold rowsL
  rw [List.length_map, List.length_range, Int.one_mul]
  show ((2 : Int) ^ w.toNat).toNat = 2 ^ w.toNat
  have : ((2 : Int) ^ w.toNat) = ((2 ^ w.toNat : Nat) : Int) := by norm_cast
  rw [this, Int.toNat_natCast]
theorem rowsL_row (w : Nat) : ∀ r ∈ rowsL (w : Int), isRow r (w : Int) = true := by
  intro r hr
  obtain ⟨n, _, rfl⟩ := List.mem_map.mp hr
  exact rowN_row w n
theorem rowsL_nodup : ∀ w : Nat, w ≤ 4 → (rowsL (w : Int)).Nodup := by
  intro w hw
  match w, hw with
  | 0, _ => decide +kernel
  | 1, _ => decide +kernel
  | 2, _ => decide +kernel
  | 3, _ => decide +kernel
  | 4, _ => decide +kernel
/-- all but the row of holes alone have a sign without -/
theorem rowsL_blank : ∀ w : Nat, w ≤ 4 → ∀ r ∈ (rowsL (w : Int)).dropLast, 46 ∈ r := by
  intro w hw
  match w, hw with
  | 0, _ => decide +kernel
  | 1, _ => decide +kernel
  | 2, _ => decide +kernel
  | 3, _ => decide +kernel
  | 4, _ => decide +kernel
def letters : Row := [97, 98, 99, 100, 101, 102, 103, 104, 105, 106, 107, 108, 109, 110, 111, 112, 113, 114, 115, 116, 117, 118, 119, 120, 121, 122]
def pool (ns : List Int) (m : Int) : List Row := (digits ns m 3 26).map fun d => [letters.getD d.toNat 0]
theorem letters_at : ∀ i : Nat, i < 26 → isLet [letters.getD i 0] = true := by decide +kernel
theorem pool_len (ns : List Int) (m : Int) : (pool ns m).length = 3 := by
  unfold pool
  rw [List.length_map, digits_len]
  rfl
theorem pool_let (ns : List Int) (m : Int) (i : Nat) (hi : i < 3) : isLet ((pool ns m).getD i []) = true := by
  have hl : i < (digits ns m 3 26).length := by rw [digits_len]; exact hi
  unfold pool
  rw [List.getD_eq_getElem?_getD, List.getElem?_map, List.getElem?_eq_getElem hl]
  have := digits_mem (ns := ns) (k := m) (m := 3) (b := 26) (by decide) _ (List.getElem_mem hl)
  exact letters_at _ (by omega)
/-! ### a reader by a cell -/
def rdW (ds : List Int) (least : Int) : Int := least + ds.getD (0 : Int).toNat 0 % (5 - least)
def rdRows (ds : List Int) (least : Int) : List Row := cutG (rowsL (rdW ds least)) none (some (-1))
def rdBegin (ds : List Int) (least : Int) : Int := ds.getD (0 : Int).toNat 0 / 4 % ((rdRows ds least).length : Int)
def rdStep (ds : List Int) (pl : List Row) (acc : Dic) (p : Int × Row) : Dic :=
  if decide (p.1 % 5 < 2 + ds.getD (0 : Int).toNat 0 / 64 % 3) then put acc p.2 (pl.getD (p.1 / 5 % 3).toNat []) else acc
theorem rdStep_T {ds : List Int} {pl : List Row} {acc : Dic} {p : Int × Row} (h : decide (p.1 % 5 < 2 + ds.getD (0 : Int).toNat 0 / 64 % 3) = true) : rdStep ds pl acc p = put acc p.2 (pl.getD (p.1 / 5 % 3).toNat []) := by
  unfold rdStep
  rw [if_pos h]
theorem rdStep_F {ds : List Int} {pl : List Row} {acc : Dic} {p : Int × Row} (h : decide (p.1 % 5 < 2 + ds.getD (0 : Int).toNat 0 / 64 % 3) = false) : rdStep ds pl acc p = acc := by
  unfold rdStep
  rw [if_neg (by rw [h]; decide)]
def rdZip (ds : List Int) (least : Int) : List (Int × Row) := (cutG ds (some 1) none).zip (cutG (rdRows ds least) (some (rdBegin ds least)) none ++ cutG (rdRows ds least) none (some (rdBegin ds least)))
def rdLoop (ds : List Int) (pl : List Row) (least : Int) : Dic := (rdZip ds least).foldl (rdStep ds pl) []
def rdr (ds : List Int) (pl : List Row) (least : Int) : Dic :=
  if dEq (rdLoop ds pl least) [] then put (rdLoop ds pl least) ((rdRows ds least).getD (rdBegin ds least).toNat []) (pl.getD (0 : Int).toNat []) else rdLoop ds pl least
def reader (ns : List Int) (m : Int) (pl : List Row) (least : Int) : Dic := rdr (digits ns m 17 1000) pl least
theorem dEq_nil (r : Dic) : dEq r [] = true ↔ r = [] := by
  unfold dEq
  cases r with
  | nil => simp
  | cons p r => simp [look_nil]
theorem rdW_range {ds : List Int} {least : Int} (h1 : 1 ≤ least) (h4 : least ≤ 4) : least ≤ rdW ds least ∧ rdW ds least ≤ 4 := by
  unfold rdW
  have := Int.emod_nonneg (ds.getD (0 : Int).toNat 0) (show 5 - least ≠ 0 by omega)
  have := Int.emod_lt_of_pos (ds.getD (0 : Int).toNat 0) (show 0 < 5 - least by omega)
  omega
theorem rdRows_len {ds : List Int} {least : Int} (h1 : 1 ≤ least) (h4 : least ≤ 4) : 1 ≤ (rdRows ds least).length ∧ (rdRows ds least).length ≤ 15 := by
  unfold rdRows
  rw [cutG_butlast, List.length_dropLast, rowsL_len]
  have := rdW_range (ds := ds) h1 h4
  have h : rdW ds least = 1 ∨ rdW ds least = 2 ∨ rdW ds least = 3 ∨ rdW ds least = 4 := by omega
  rcases h with h | h | h | h <;> rw [h] <;> decide
theorem rdBegin_range {ds : List Int} {least : Int} (h1 : 1 ≤ least) (h4 : least ≤ 4) : 0 ≤ rdBegin ds least ∧ rdBegin ds least < ((rdRows ds least).length : Int) := by
  have := rdRows_len (ds := ds) h1 h4
  exact ⟨Int.emod_nonneg _ (by omega), Int.emod_lt_of_pos _ (by omega)⟩
theorem rdRows_ok {ds : List Int} {least : Int} {w : Nat} (hw : rdW ds least = (w : Int)) (h4 : w ≤ 4) : ∀ r ∈ rdRows ds least, isRow r (w : Int) = true ∧ 46 ∈ r := by
  intro r hr
  unfold rdRows at hr
  rw [cutG_butlast, hw] at hr
  exact ⟨rowsL_row w r ((List.dropLast_sublist _).subset hr), rowsL_blank w h4 r hr⟩
theorem fold_keeps {ds : List Int} {pl : List Row} {w : Nat} (hpl : ∀ i, i < 3 → isLet (pl.getD i []) = true) : ∀ (z : List (Int × Row)) (acc : Dic), (∀ p ∈ z, isRow p.2 (w : Int) = true ∧ 46 ∈ p.2) →
    ((acc.map (·.1)).Nodup ∧ ∀ p ∈ acc, isRow p.1 (w : Int) = true ∧ 46 ∈ p.1 ∧ isLet p.2 = true) →
    (((z.foldl (rdStep ds pl) acc).map (·.1)).Nodup ∧ ∀ p ∈ z.foldl (rdStep ds pl) acc, isRow p.1 (w : Int) = true ∧ 46 ∈ p.1 ∧ isLet p.2 = true)
  | [], acc, _, h => h
  | q :: z, acc, hz, h => by
    rw [List.foldl_cons]
    refine fold_keeps hpl z _ (fun p hp => hz p (List.mem_cons_of_mem _ hp)) ?_
    unfold rdStep
    split
    · refine ⟨put_nodup h.1 _ _, fun p hp => ?_⟩
      rcases put_mem hp with hp | rfl
      · exact h.2 p hp
      · have := hz q List.mem_cons_self
        refine ⟨this.1, this.2, hpl _ ?_⟩
        have := Int.emod_nonneg (q.1 / 5) (show (3 : Int) ≠ 0 by decide)
        have := Int.emod_lt_of_pos (q.1 / 5) (show (0 : Int) < 3 by decide)
        omega
    · exact h
theorem rdr_ok {ds : List Int} {pl : List Row} {least : Int} (h1 : 1 ≤ least) (h4 : least ≤ 4) (hpl : ∀ i, i < 3 → isLet (pl.getD i []) = true) : RdOk (rdr ds pl least) (rdW ds least).toNat := by
  have hw := rdW_range (ds := ds) h1 h4
  have hwn : rdW ds least = (((rdW ds least).toNat : Nat) : Int) := by omega
  have hb := rdBegin_range (ds := ds) h1 h4
  have hrows := rdRows_ok hwn (by omega)
  have hz : ∀ p ∈ rdZip ds least, isRow p.2 (((rdW ds least).toNat : Nat) : Int) = true ∧ 46 ∈ p.2 := by
    intro p hp
    have := (List.of_mem_zip hp).2
    rw [cutG_from _ hb.1, cutG_to _ hb.1] at this
    rcases List.mem_append.mp this with h | h
    · exact hrows _ (List.mem_of_mem_drop h)
    · exact hrows _ (List.mem_of_mem_take h)
  have hl := fold_keeps (ds := ds) hpl (rdZip ds least) [] hz ⟨List.nodup_nil, fun p hp => nomatch hp⟩
  have hl : ((rdLoop ds pl least).map (·.1)).Nodup ∧ _ := hl
  unfold rdr
  by_cases h : dEq (rdLoop ds pl least) [] = true
  · rw [if_pos h]
    have e := (dEq_nil _).mp h
    rw [e]
    have hr : (rdRows ds least).getD (rdBegin ds least).toNat [] ∈ rdRows ds least := by
      rw [List.getD_eq_getElem?_getD, List.getElem?_eq_getElem (by omega)]
      exact List.getElem_mem _
    have := hrows _ hr
    refine ⟨put_ne_nil _ _ _, by omega, by omega, put_nodup (r := []) List.nodup_nil _ _, fun p hp => ?_, fun p hp => ?_, fun p hp => ?_⟩
    · rcases put_mem hp with hp | rfl
      · cases hp
      · exact this.1
    · rcases put_mem hp with hp | rfl
      · cases hp
      · exact this.2
    · rcases put_mem hp with hp | rfl
      · cases hp
      · exact hpl 0 (by decide)
  · rw [if_neg h]
    exact ⟨fun e => h ((dEq_nil _).mpr e), by omega, by omega, hl.1, fun p hp => (hl.2 p hp).1, fun p hp => (hl.2 p hp).2.1, fun p hp => (hl.2 p hp).2.2⟩
/-! ### tapes by a cell -/
def tapeRow (w d : Int) : Row := (rowsL w).getD (Builtin.bitAnd (d % 16) (Builtin.bitOr (d / 16 % 16) (d / 256 % 2 * 15)) % ((rowsL w).length : Int)).toNat []
def tapeL (ns : List Int) (m w n : Int) : List Row := (digits ns m n 4096).map (tapeRow w)
theorem rowsL_pos (w : Int) : 0 < ((rowsL w).length : Int) := by
  rw [rowsL_len]
  have := Nat.pow_pos (n := w.toNat) (show 0 < 2 by decide)
  omega
theorem rowsL_le {w : Int} (h : w ≤ 4) : (rowsL w).length ≤ 16 := by
  rw [rowsL_len]
  exact Nat.pow_le_pow_right (show 1 ≤ 2 by decide) (show w.toNat ≤ 4 by omega)
theorem tapeRow_ok (w : Nat) (d : Int) : isRow (tapeRow w d) (w : Int) = true := by
  have hp := rowsL_pos w
  unfold tapeRow
  rw [List.getD_eq_getElem?_getD, List.getElem?_eq_getElem (by have := Int.emod_lt_of_pos (Builtin.bitAnd (d % 16) (Builtin.bitOr (d / 16 % 16) (d / 256 % 2 * 15))) hp; have := Int.emod_nonneg (Builtin.bitAnd (d % 16) (Builtin.bitOr (d / 16 % 16) (d / 256 % 2 * 15))) (show ((rowsL (w : Int)).length : Int) ≠ 0 by omega); omega)]
  exact rowsL_row w _ (List.getElem_mem _)
theorem tapeL_len (ns : List Int) (m w n : Int) : (tapeL ns m w n).length = n.toNat := by
  unfold tapeL
  rw [List.length_map, digits_len]
theorem tapeL_ok (ns : List Int) (m : Int) (w : Nat) {n : Int} (h : n ≤ 30) : TpOk (tapeL ns m w n) w := by
  refine ⟨by rw [tapeL_len]; omega, fun r hr => ?_⟩
  obtain ⟨d, _, rfl⟩ := List.mem_map.mp hr
  exact tapeRow_ok w d
/-! ### the law's own answers -/
theorem goes_alt {r o : Row} {w : Nat} (hr : isRow r (w : Int) = true) (ho : isRow o (w : Int) = true) :
    (decide ((r.length : Int) = (o.length : Int)) && (r.zip o).all fun p => decide ([p.1] = [46]) || decide ([p.2] = [111])) = goes r o := by
  rw [isRow_len hr, isRow_len ho, decide_eq_true rfl, Bool.true_and]
  have h1 := isRow_mem hr
  have h2 := isRow_mem ho
  unfold goes
  rw [List.not_any_eq_all_not, Bool.eq_iff_iff, List.all_eq_true, List.all_eq_true]
  refine forall_congr' fun p => forall_congr' fun hp => ?_
  have hm := List.of_mem_zip (a := p.1) (b := p.2) hp
  rcases h1 _ hm.1 with e | e <;> rcases h2 _ hm.2 with e' | e' <;> simp [e, e']
theorem dEq_self {rd : Dic} (h : (rd.map (·.1)).Nodup) : dEq rd rd = true := by
  unfold dEq
  rw [beq_self_eq_true, Bool.true_and, List.all_eq_true]
  intro p hp
  rw [look_nodup h p hp]
  simp
theorem TpOk.small {t : List Row} {w : Nat} (h : TpOk t w) : SmT t := fun r hr c hc => by
  rcases isRow_mem (h.row r hr) c hc with e | e <;> omega
/-! ### the law's script -/
def bothRow (r o : Row) : Row := ((r.zip o).map fun p => if decide (111 ∈ [p.1] ++ [p.2]) then [111] else [46]).flatten
def bothT (t o : List Row) : List Row := (t.zip o).map fun p => bothRow p.1 p.2
def spoilRow (r : Row) (n : Int) : Row := (cutG r none (some n) ++ [46]) ++ cutG r (some (n + 1)) none
theorem bothRow_len (r o : Row) : (bothRow r o).length = min r.length o.length := by
  unfold bothRow
  rw [List.length_flatten, List.map_map]
  have : ((r.zip o).map (List.length ∘ fun p => if decide (111 ∈ [p.1] ++ [p.2]) then ([111] : Row) else [46])) = (r.zip o).map fun _ => 1 := List.map_congr_left fun p _ => by
    simp only [Function.comp]
    split <;> rfl
  rw [this, sum_ones, List.length_zip]
theorem bothRow_ok {r o : Row} {w : Nat} (hr : isRow r (w : Int) = true) (ho : isRow o (w : Int) = true) : isRow (bothRow r o) (w : Int) = true := by
  rw [isRow_iff]
  refine ⟨by rw [bothRow_len, isRow_len hr, isRow_len ho]; exact Nat.min_self w, fun c hc => ?_⟩
  obtain ⟨l, hl, hc⟩ := List.mem_flatten.mp hc
  obtain ⟨p, _, rfl⟩ := List.mem_map.mp hl
  split at hc <;> simp at hc <;> simp [hc]
theorem bothT_ok {t o : List Row} {w : Nat} (ht : TpOk t w) (ho : TpOk o w) : TpOk (bothT t o) w := by
  refine ⟨?_, fun r hr => ?_⟩
  · unfold bothT
    rw [List.length_map, List.length_zip]
    have := ht.len
    omega
  · obtain ⟨p, hp, rfl⟩ := List.mem_map.mp hr
    have := List.of_mem_zip (a := p.1) (b := p.2) hp
    exact bothRow_ok (ht.row _ this.1) (ho.row _ this.2)
theorem spoilRow_ok {r : Row} {w : Nat} {n : Int} (h : isRow r (w : Int) = true) (h0 : 0 ≤ n) (h1 : n < (w : Int)) : isRow (spoilRow r n) (w : Int) = true := by
  have hl := isRow_len h
  have hm := isRow_mem h
  rw [isRow_iff]
  unfold spoilRow
  rw [cutG_to _ h0, cutG_from _ (by omega)]
  refine ⟨?_, fun c hc => ?_⟩
  · simp only [List.length_append, List.length_take, List.length_drop, List.length_cons, List.length_nil]
    omega
  · rcases List.mem_append.mp hc with hc | hc
    · rcases List.mem_append.mp hc with hc | hc
      · exact hm c (List.mem_of_mem_take hc)
      · simp at hc
        exact .inr hc
    · exact hm c (List.mem_of_mem_drop hc)
theorem TpOk.set {t : List Row} {w : Nat} (h : TpOk t w) {r : Row} (hr : isRow r (w : Int) = true) (i : Nat) : TpOk (t.set i r) w := by
  refine ⟨by rw [List.length_set]; exact h.len, fun x hx => ?_⟩
  rcases List.mem_or_eq_of_mem_set hx with hx | rfl
  · exact h.row x hx
  · exact hr
/-- a tape in the heap -/
def Tape (K : PySem.W.Frag) (w n : Nat) (H : Hp) (x : V) : Prop := ∃ a t, x = .ref a ∧ SL K H a (Txts t) ∧ TpOk t w ∧ t.length = n
theorem Tape.ex {K : PySem.W.Frag} {w n : Nat} {H H' : Hp} {x : V} (h : Tape K w n H x) (e : Ex H H') : Tape K w n H' x := by
  obtain ⟨a, t, rfl, h1, h2, h3⟩ := h
  exact ⟨a, t, rfl, exl e h1, h2, h3⟩
theorem last_rd : RdOk [([46], [113])] 1 := by
  refine ⟨by simp, by decide, by decide, by simp, ?_, ?_, ?_⟩ <;> (intro p hp; rw [List.mem_singleton.mp hp]; decide)
theorem last_t3 : TpOk [[46], [111], [46]] 1 := by
  refine ⟨by decide, ?_⟩
  intro r hr
  have hr : r = [46] ∨ r = [111] := by simpa [or_comm] using hr
  rcases hr with rfl | rfl <;> decide
theorem last_t1 : TpOk [[111]] 1 := by
  refine ⟨by decide, ?_⟩
  intro r hr
  simp at hr
  rw [hr]
  decide
end Ho
namespace Ho
open PySem PySem.Spec PyProof.Rows L2 Evl
local macro_rules | `(tactic| walk_at "exs") => `(tactic| first | assumption | exact Ex.refl _ | (refine' Ex.trans ?exa ?exb; (case' exb => assumption); walk_at "exs"))
local macro_rules | `(tactic| walk_at "fact") => `(tactic| first | assumption | exact slof (by assumption) | exact stof (by assumption) | (refine' exl ?fe ?fh; (case' fh => first | assumption | exact slof (by assumption)); walk_at "exs") | (refine' ext ?fe ?fh; (case' fh => first | assumption | exact stof (by assumption)); walk_at "exs"))
local macro_rules | `(tactic| walk_at "facth") => `(tactic| first | assumption | (refine' exh ?fe ?fh; (case' fh => assumption); walk_at "exs"))
local macro_rules | `(tactic| walk_at "adm") => `(tactic| first | exact nin0 | exact nin1 (by first | assumption | exact Ne.symm (by assumption)) | exact nin2 (by first | assumption | exact Ne.symm (by assumption)) (by first | assumption | exact Ne.symm (by assumption)))
local macro_rules | `(tactic| walk_at "side") => `(tactic| first | assumption | omega | decide | (simp only [List.length_append, List.length_cons, List.length_nil, List.length_map, List.length_drop, List.length_take, List.length_range, List.mem_range, decide_eq_true_eq, Bool.and_eq_true] at *; omega) | trivial | solve_by_elim)
local macro_rules | `(tactic| walk_at "len") => `(tactic| first | assumption | omega | (simp only [List.length_zip, List.length_map, List.length_range, List.length_zipIdx, List.length_append, List.length_cons, List.length_nil, List.length_drop, List.length_take]; omega) | solve_by_elim)
local macro_rules | `(tactic| walk_at "rng") => `(tactic| first | omega | (constructor <;> omega) | assumption)
local macro_rules | `(tactic| walk_at "cmul") => `(tactic| first | exact .inr ⟨by decide, by decide⟩ | exact .inl ⟨by decide, by decide⟩ | exact .inl ⟨by omega, by omega⟩ | exact .inr ⟨by omega, by omega⟩)
local macro_rules | `(tactic| walk_at "cdiv") => `(tactic| first | exact ⟨by decide, by decide⟩ | exact ⟨by omega, by omega⟩)
local macro_rules | `(tactic| walk_at "cpow") => `(tactic| first | exact ⟨by decide, by decide, by decide⟩ | exact ⟨by omega, by omega, by decide⟩)
def topS (i : Nat) : Stmt := PySem.Challenge.pw_holetape_k01_reading.main.body.getD i (.Pass ⟨0, 0, 0, 0⟩)
abbrev s__law_draw : Stmt := topS 24
abbrev N__law_draw : List Str := ["_law_cell", "_law_k", "_law_many", "_law_primes"]
theorem sc__law_draw : FnScope N__law_draw ["_law_cell", "_law_k", "_law_many"] (defScope s__law_draw) := ⟨rfl, rfl, rfl, by decide +kernel, rfl, by decide +kernel, by decide +kernel⟩
abbrev s__law_cell_at : Stmt := topS 25
abbrev N__law_cell_at : List Str := ["_law_script", "_law_k"]
theorem sc__law_cell_at : FnScope N__law_cell_at ["_law_script", "_law_k"] (defScope s__law_cell_at) := ⟨rfl, rfl, rfl, by decide +kernel, rfl, by decide +kernel, by decide +kernel⟩
abbrev s__law_digits : Stmt := topS 26
abbrev N__law_digits : List Str := ["_law_script", "_law_at", "_law_many", "_law_base", "_law_blend", "_law_cell", "_law_found", "_law_left", "_law_more", "_law_turn"]
theorem sc__law_digits : FnScope N__law_digits ["_law_script", "_law_at", "_law_many", "_law_base"] (defScope s__law_digits) := ⟨rfl, rfl, rfl, by decide +kernel, rfl, by decide +kernel, by decide +kernel⟩
abbrev s__law_pool : Stmt := topS 28
abbrev N__law_pool : List Str := ["_law_script", "_law_at", "_law_one"]
theorem sc__law_pool : FnScope N__law_pool ["_law_script", "_law_at"] (defScope s__law_pool) := ⟨rfl, rfl, rfl, by decide +kernel, rfl, by decide +kernel, by decide +kernel⟩
abbrev s__law_rows : Stmt := topS 27
abbrev N__law_rows : List Str := ["_law_width_here", "_law_found", "_law_number", "_law_at"]
theorem sc__law_rows : FnScope N__law_rows ["_law_width_here"] (defScope s__law_rows) := ⟨rfl, rfl, rfl, by decide +kernel, rfl, by decide +kernel, by decide +kernel⟩
abbrev s__law_reader : Stmt := topS 29
abbrev N__law_reader : List Str := ["_law_script", "_law_at", "_law_pool_here", "_law_least", "_law_begin", "_law_draws", "_law_found", "_law_number", "_law_row", "_law_rows_here", "_law_width_here"]
theorem sc__law_reader : FnScope N__law_reader ["_law_script", "_law_at", "_law_pool_here", "_law_least"] (defScope s__law_reader) := ⟨rfl, rfl, rfl, by decide +kernel, rfl, by decide +kernel, by decide +kernel⟩
abbrev s__law_tape : Stmt := topS 31
abbrev N__law_tape : List Str := ["_law_script", "_law_at", "_law_width_here", "_law_many", "_law_draw_here", "_law_fewer", "_law_found", "_law_rows_here"]
theorem sc__law_tape : FnScope N__law_tape ["_law_script", "_law_at", "_law_width_here", "_law_many"] (defScope s__law_tape) := ⟨rfl, rfl, rfl, by decide +kernel, rfl, by decide +kernel, by decide +kernel⟩
abbrev s__law_width : Stmt := topS 30
abbrev N__law_width : List Str := ["_law_reader_here"]
theorem sc__law_width : FnScope N__law_width ["_law_reader_here"] (defScope s__law_width) := ⟨rfl, rfl, rfl, by decide +kernel, rfl, by decide +kernel, by decide +kernel⟩
abbrev s_is_row : Stmt := topS 11
abbrev N_is_row : List Str := ["thing", "width", "sign"]
theorem sc_is_row : FnScope N_is_row ["thing", "width"] (defScope s_is_row) := ⟨rfl, rfl, rfl, by decide +kernel, rfl, by decide +kernel, by decide +kernel⟩
abbrev s_check_tape : Stmt := topS 14
abbrev N_check_tape : List Str := ["width", "tape", "place", "row"]
theorem sc_check_tape : FnScope N_check_tape ["width", "tape"] (defScope s_check_tape) := ⟨rfl, rfl, rfl, by decide +kernel, rfl, by decide +kernel, by decide +kernel⟩
abbrev s_meaning : Stmt := topS 17
abbrev N_meaning : List Str := ["reader", "row"]
theorem sc_meaning : FnScope N_meaning ["reader", "row"] (defScope s_meaning) := ⟨rfl, rfl, rfl, by decide +kernel, rfl, by decide +kernel, by decide +kernel⟩
abbrev s_text_of : Stmt := topS 18
abbrev N_text_of : List Str := ["reader", "tape", "row"]
theorem sc_text_of : FnScope N_text_of ["reader", "tape"] (defScope s_text_of) := ⟨rfl, rfl, rfl, by decide +kernel, rfl, by decide +kernel, by decide +kernel⟩
abbrev s_is_letter : Stmt := topS 12
abbrev N_is_letter : List Str := ["thing"]
theorem sc_is_letter : FnScope N_is_letter ["thing"] (defScope s_is_letter) := ⟨rfl, rfl, rfl, by decide +kernel, rfl, by decide +kernel, by decide +kernel⟩
abbrev s_width_of : Stmt := topS 13
abbrev N_width_of : List Str := ["reader", "first", "letter", "row", "width"]
theorem sc_width_of : FnScope N_width_of ["reader"] (defScope s_width_of) := ⟨rfl, rfl, rfl, by decide +kernel, rfl, by decide +kernel, by decide +kernel⟩
abbrev s_read_tape : Stmt := topS 20
abbrev N_read_tape : List Str := ["reader", "tape"]
theorem sc_read_tape : FnScope N_read_tape ["reader", "tape"] (defScope s_read_tape) := ⟨rfl, rfl, rfl, by decide +kernel, rfl, by decide +kernel, by decide +kernel⟩
abbrev s_holes : Stmt := topS 21
abbrev N_holes : List Str := ["reader", "tape", "row"]
theorem sc_holes : FnScope N_holes ["reader", "tape"] (defScope s_holes) := ⟨rfl, rfl, rfl, by decide +kernel, rfl, by decide +kernel, by decide +kernel⟩
abbrev s__law_means : Stmt := topS 33
abbrev N__law_means : List Str := ["_law_reader_here", "_law_row"]
theorem sc__law_means : FnScope N__law_means ["_law_reader_here", "_law_row"] (defScope s__law_means) := ⟨rfl, rfl, rfl, by decide +kernel, rfl, by decide +kernel, by decide +kernel⟩
abbrev s__law_reads : Stmt := topS 34
abbrev N__law_reads : List Str := ["_law_reader_here", "_law_tape_here", "_law_row"]
theorem sc__law_reads : FnScope N__law_reads ["_law_reader_here", "_law_tape_here"] (defScope s__law_reads) := ⟨rfl, rfl, rfl, by decide +kernel, rfl, by decide +kernel, by decide +kernel⟩
abbrev s__law_holes : Stmt := topS 35
abbrev N__law_holes : List Str := ["_law_tape_here", "_law_row", "_law_sign"]
theorem sc__law_holes : FnScope N__law_holes ["_law_tape_here"] (defScope s__law_holes) := ⟨rfl, rfl, rfl, by decide +kernel, rfl, by decide +kernel, by decide +kernel⟩
abbrev s__law_one_right : Stmt := topS 38
abbrev N__law_one_right : List Str := ["_law_reader_here", "_law_tape_here", "_law_given", "_law_handed", "_law_many", "_law_text"]
theorem sc__law_one_right : FnScope N__law_one_right ["_law_reader_here", "_law_tape_here"] (defScope s__law_one_right) := ⟨rfl, rfl, rfl, by decide +kernel, rfl, by decide +kernel, by decide +kernel⟩
abbrev s_check_two : Stmt := topS 15
abbrev N_check_two : List Str := ["width", "one", "other"]
theorem sc_check_two : FnScope N_check_two ["width", "one", "other"] (defScope s_check_two) := ⟨rfl, rfl, rfl, by decide +kernel, rfl, by decide +kernel, by decide +kernel⟩
abbrev s_goes_over : Stmt := topS 16
abbrev N_goes_over : List Str := ["row", "other", "one", "new"]
theorem sc_goes_over : FnScope N_goes_over ["row", "other"] (defScope s_goes_over) := ⟨rfl, rfl, rfl, by decide +kernel, rfl, by decide +kernel, by decide +kernel⟩
abbrev s_over : Stmt := topS 19
abbrev N_over : List Str := ["tape", "other", "one", "new"]
theorem sc_over : FnScope N_over ["tape", "other"] (defScope s_over) := ⟨rfl, rfl, rfl, by decide +kernel, rfl, by decide +kernel, by decide +kernel⟩
abbrev s_becomes : Stmt := topS 22
abbrev N_becomes : List Str := ["reader", "tape", "other"]
theorem sc_becomes : FnScope N_becomes ["reader", "tape", "other"] (defScope s_becomes) := ⟨rfl, rfl, rfl, by decide +kernel, rfl, by decide +kernel, by decide +kernel⟩
abbrev s__law_over : Stmt := topS 32
abbrev N__law_over : List Str := ["_law_row", "_law_other", "_law_one", "_law_new"]
theorem sc__law_over : FnScope N__law_over ["_law_row", "_law_other"] (defScope s__law_over) := ⟨rfl, rfl, rfl, by decide +kernel, rfl, by decide +kernel, by decide +kernel⟩
abbrev s__law_can : Stmt := topS 36
abbrev N__law_can : List Str := ["_law_tape_here", "_law_other", "_law_row", "_law_new"]
theorem sc__law_can : FnScope N__law_can ["_law_tape_here", "_law_other"] (defScope s__law_can) := ⟨rfl, rfl, rfl, by decide +kernel, rfl, by decide +kernel, by decide +kernel⟩
abbrev s__law_two_right : Stmt := topS 37
abbrev N__law_two_right : List Str := ["_law_reader_here", "_law_tape_here", "_law_other", "_law_told"]
theorem sc__law_two_right : FnScope N__law_two_right ["_law_reader_here", "_law_tape_here", "_law_other"] (defScope s__law_two_right) := ⟨rfl, rfl, rfl, by decide +kernel, rfl, by decide +kernel, by decide +kernel⟩
abbrev s_law : Stmt := topS 39
abbrev N_law : List Str := ["_law_script", "_law_at", "_law_both", "_law_by", "_law_draws", "_law_more", "_law_one", "_law_other", "_law_pool_here", "_law_reader_here", "_law_spoilt", "_law_spot", "_law_tape_here", "_law_width_here", "_law_a", "_law_b"]
theorem sc_law : FnScope N_law ["_law_script"] (defScope s_law) := ⟨rfl, rfl, rfl, by decide +kernel, rfl, by decide +kernel, by decide +kernel⟩
structure Txt (K : PySem.W.Frag) (mg : Str → Option Value) : Prop where
  z_abs : mg "abs" = none
  z_all : mg "all" = none
  z_any : mg "any" = none
  z_bool : mg "bool" = none
  z_dict : mg "dict" = none
  z_enumerate : mg "enumerate" = none
  z_int : mg "int" = none
  z_isinstance : mg "isinstance" = none
  z_len : mg "len" = none
  z_list : mg "list" = none
  z_max : mg "max" = none
  z_min : mg "min" = none
  z_range : mg "range" = none
  z_str : mg "str" = none
  z_sum : mg "sum" = none
  z_zip : mg "zip" = none
  c_HOLE : ∃ t, mg "HOLE" = some (.str (S [111]) t)
  c_BLANK : ∃ t, mg "BLANK" = some (.str (S [46]) t)
  c_MOST : ∃ t, mg "MOST" = some (.int 30 t)
  c_LETTERS : ∃ t, mg "LETTERS" = some (.str (S [97, 98, 99, 100, 101, 102, 103, 104, 105, 106, 107, 108, 109, 110, 111, 112, 113, 114, 115, 116, 117, 118, 119, 120, 121, 122]) t)
  c_WIDEST : ∃ t, mg "WIDEST" = some (.int 4 t)
  d__law_draw : DefAt K mg "_law_draw" "_law_draw" s__law_draw ["_law_cell", "_law_k", "_law_many"]
  d__law_cell_at : DefAt K mg "_law_cell_at" "_law_cell_at" s__law_cell_at ["_law_script", "_law_k"]
  d__law_digits : DefAt K mg "_law_digits" "_law_digits" s__law_digits ["_law_script", "_law_at", "_law_many", "_law_base"]
  d__law_pool : DefAt K mg "_law_pool" "_law_pool" s__law_pool ["_law_script", "_law_at"]
  d__law_rows : DefAt K mg "_law_rows" "_law_rows" s__law_rows ["_law_width_here"]
  d__law_reader : DefAt K mg "_law_reader" "_law_reader" s__law_reader ["_law_script", "_law_at", "_law_pool_here", "_law_least"]
  d__law_tape : DefAt K mg "_law_tape" "_law_tape" s__law_tape ["_law_script", "_law_at", "_law_width_here", "_law_many"]
  d__law_width : DefAt K mg "_law_width" "_law_width" s__law_width ["_law_reader_here"]
  d_is_row : DefAt K mg "is_row" "is_row" s_is_row ["thing", "width"]
  d_check_tape : DefAt K mg "check_tape" "check_tape" s_check_tape ["width", "tape"]
  d_meaning : DefAt K mg "meaning" "meaning" s_meaning ["reader", "row"]
  d_text_of : DefAt K mg "text_of" "text_of" s_text_of ["reader", "tape"]
  d_is_letter : DefAt K mg "is_letter" "is_letter" s_is_letter ["thing"]
  d_width_of : DefAt K mg "width_of" "width_of" s_width_of ["reader"]
  d_read_tape : DefAt K mg "read_tape" "read_tape" s_read_tape ["reader", "tape"]
  d_holes : DefAt K mg "holes" "holes" s_holes ["reader", "tape"]
  d__law_means : DefAt K mg "_law_means" "_law_means" s__law_means ["_law_reader_here", "_law_row"]
  d__law_reads : DefAt K mg "_law_reads" "_law_reads" s__law_reads ["_law_reader_here", "_law_tape_here"]
  d__law_holes : DefAt K mg "_law_holes" "_law_holes" s__law_holes ["_law_tape_here"]
  d__law_one_right : DefAt K mg "_law_one_right" "_law_one_right" s__law_one_right ["_law_reader_here", "_law_tape_here"]
  d_check_two : DefAt K mg "check_two" "check_two" s_check_two ["width", "one", "other"]
  d_goes_over : DefAt K mg "goes_over" "goes_over" s_goes_over ["row", "other"]
  d_over : DefAt K mg "over" "over" s_over ["tape", "other"]
  d_becomes : DefAt K mg "becomes" "becomes" s_becomes ["reader", "tape", "other"]
  d__law_over : DefAt K mg "_law_over" "_law_over" s__law_over ["_law_row", "_law_other"]
  d__law_can : DefAt K mg "_law_can" "_law_can" s__law_can ["_law_tape_here", "_law_other"]
  d__law_two_right : DefAt K mg "_law_two_right" "_law_two_right" s__law_two_right ["_law_reader_here", "_law_tape_here", "_law_other"]
variable {P : PySem.Program} {w : World} {K : PySem.W.Frag} {mg : Str → Option Value} {base : Heap}
def R__law_draw (K : PySem.W.Frag) : List V → Hp → V → Prop := fun vs H z => ∃ (c m i : Int), AllP [isV (.int c), isV (.int m), isV (.int i)] vs H ∧ ((0 < i) ∧ True) ∧ z = .int (draw c m i)
def sp__law_draw (K : PySem.W.Frag) : Sp := spV 3 (R__law_draw K)
theorem ev__law_draw {K : PySem.W.Frag} {σ : L2.St} {H : Hp} {tr : TA} {E : XK} {c m i : Int} (h : EvAG tr σ H [isV (.int c), isV (.int m), isV (.int i)]) (p0 : 0 < i) : Ev (tCallO (sp__law_draw K) E tr) σ H (.int (draw c m i)) := ev_callG h rfl fun vs H1 e hp => ⟨c, m, i, hp, ⟨p0, trivial⟩, rfl⟩

theorem ok__law_draw (T : Txt K mg) : OkF P w K mg base CX0 "_law_draw" 1 (sp__law_draw K) := by
  refine OkF.of T.d__law_draw sc__law_draw (fun vs H Q E h => h.1) (fun f cdv A outer s H vs Q E hr h => ?_)
  obtain ⟨-, z, H0, e0, ⟨c, m, i, ⟨v0, r0, rfl, rfl, ⟨v1, r1, rfl, rfl, ⟨v2, r2, rfl, rfl, rfl⟩⟩⟩, ⟨p0, -⟩, rfl⟩, k⟩ := h
  clear e0 H0
  have hu := hu_of hr
  refine ⟨_, (pss_cons (ps_set (i := 3) sc__law_draw.nd rfl (.inl rfl) (pe_tup (pa_cons pe_int (pa_cons pe_int (pa_cons pe_int (pa_cons pe_int (pa_cons pe_int (pa_cons pe_int (pa_cons pe_int (pa_cons pe_int (pa_cons pe_int (pa_cons pe_int (pa_cons pe_int (pa_cons pe_int (pa_cons pe_int (pa_cons pe_int (pa_cons pe_int (pa_cons pe_int pa_nil))))))))))))))))))
 (pss_one (ps_ret (pe_op op_mod (pe_op op_mod (pe_op op_add (pe_op op_mul (pv 0) pe_int) (pe_op op_mul (pv 1) pe_int)) (pe_ix (kix_tup (K := K)) (pv 3) (pe_op op_mod (pv 1) pe_int) (fun _ _ => rfl))) (pv 2))))), ?_⟩
  refine q_asgU (eu_tup (ea_cons ev_c (ea_cons ev_c (ea_cons ev_c (ea_cons ev_c (ea_cons ev_c (ea_cons ev_c (ea_cons ev_c (ea_cons ev_c (ea_cons ev_c (ea_cons ev_c (ea_cons ev_c (ea_cons ev_c (ea_cons ev_c (ea_cons ev_c (ea_cons ev_c (ea_cons ev_c ea_nil)))))))))))))))) (by simp)) fun p H1 hp e1 hP => ?_
  have hT : ST K H1 p (Ints primes) := stof hP
  have h16 : 0 ≤ m % 16 ∧ m % 16 < 16 := ⟨Int.emod_nonneg _ (by decide), Int.emod_lt_of_pos _ (by decide)⟩
  have hpos : 0 < primes.getD (m % 16).toNat 0 := primes_pos _ (by omega)
  have h16a := h16.1
  have h16b : m % 16 < (primes.length : Int) := h16.2
  exact s_ret2 (Ev.is (ev_mod (ev_mod (ev_add (ev_mul (ev_var rfl) ev_c (by walk_at "cmul")) (ev_mul (ev_var rfl) ev_c (by walk_at "cmul"))) (ev_ixT (0 : Int) (ev_var rfl) (by walk_at "fact") (ev_mod (ev_var rfl) ev_c (by walk_at "side")) (by walk_at "side") (by walk_at "side")) (by walk_at "side")) (ev_var rfl) (by walk_at "side")) rfl) (RetV.ex k e1)

def R__law_cell_at (K : PySem.W.Frag) : List V → Hp → V → Prop := fun vs H z => ∃ (ns : List Int) (m : Int), AllP [isL K (Ints ns), isV (.int m)] vs H ∧ ((0 ≤ m) ∧ True) ∧ z = .int (cellAt ns m)
def sp__law_cell_at (K : PySem.W.Frag) : Sp := spV 2 (R__law_cell_at K)
theorem ev__law_cell_at {K : PySem.W.Frag} {σ : L2.St} {H : Hp} {tr : TA} {E : XK} {ns : List Int} {m : Int} (h : EvAG tr σ H [isL K (Ints ns), isV (.int m)]) (p0 : 0 ≤ m) : Ev (tCallO (sp__law_cell_at K) E tr) σ H (.int (cellAt ns m)) := ev_callG h rfl fun vs H1 e hp => ⟨ns, m, hp, ⟨p0, trivial⟩, rfl⟩

theorem ok__law_cell_at (T : Txt K mg) : OkF P w K mg base CX0 "_law_cell_at" 2 (sp__law_cell_at K) := by
  have O__law_draw : OkF P w K mg base CX0 "_law_draw" 1 (sp__law_draw K) := ok__law_draw T
  refine OkF.of T.d__law_cell_at sc__law_cell_at (fun vs H Q E h => h.1) (fun f cdv A outer s H vs Q E hr h => ?_)
  obtain ⟨-, z, H0, e0, ⟨ns, m, ⟨v0, r0, rfl, ⟨a0, rfl, q0⟩, ⟨v1, r1, rfl, rfl, rfl⟩⟩, ⟨p0, -⟩, rfl⟩, k⟩ := h
  have h0 := exl e0 q0
  clear q0
  clear e0 H0
  have hu := hu_of hr
  refine ⟨_, (pss_cons (ps_if (pt_cmpR op_lt (pv 1) (pe_callB (kcb_lenQ (K := K)) (by rfl) T.z_len (by decide +kernel) (pa_cons (pv 0) pa_nil)) (nomark _))
  (pss_one (ps_ret (pe_callB cb_abs (by rfl) T.z_abs (by decide +kernel) (pa_cons (pe_ix (kix_list (K := K)) (pv 0) (pv 1) (fun _ _ => rfl)) pa_nil))))
  pss_nil)
 (pss_one (ps_ret (pe_callO O__law_draw hr (by rfl) pass0 (pa_cons (pe_op op_add (pe_callB cb_abs (by rfl) T.z_abs (by decide +kernel) (pa_cons (pe_callB (kcr_sum (K := K) rfl) (by rfl) T.z_sum (by decide +kernel) (pa_cons (pv 0) pa_nil)) pa_nil)) (pe_op op_mul pe_int (pv 1))) (pa_cons (pv 1) (pa_cons pe_int pa_nil))))))), ?_⟩
  refine q_when (et_test (ev_lt (ev_var rfl) (ev_lenQ (q_old (ev_var rfl) (by walk_at "fact"))))) (fun hb H1 e1 => ?_) (fun hb H1 e1 => ?_)
  · have hm : m < (ns.length : Int) := of_decide_eq_true hb
    refine s_ret2 (Ev.is (ev_abs (ev_ixQ (0 : Int) (q_old (ev_var rfl) (by walk_at "fact")) (ev_var rfl) (by walk_at "side") (by walk_at "side"))) ?_) (RetV.ex k e1)
    unfold cellAt
    rw [hb]
    rfl
  · refine s_ret2 (Ev.is (ev__law_draw (ag_V (ev_add (ev_abs (ev_sumV (q_old (ev_var rfl) (by walk_at "fact")))) (ev_mul ev_c (ev_var rfl) (by walk_at "cmul"))) (ag_V (ev_var rfl) (ag_V ev_c ag_nil))) (by walk_at "side")) ?_) (RetV.ex k e1)
    unfold cellAt
    rw [hb]
    rfl

def R__law_digits (K : PySem.W.Frag) : List V → Hp → List V → Prop := fun vs H z => ∃ (ns : List Int) (m n b : Int), AllP [isL K (Ints ns), isV (.int m), isV (.int n), isV (.int b)] vs H ∧ ((0 ≤ m) ∧ (0 ≤ n) ∧ (n ≤ 1000) ∧ (0 < b) ∧ (b < 1073741824) ∧ True) ∧ z = Ints (digits ns m n b)
def sp__law_digits (K : PySem.W.Frag) : Sp := spL 4 (R__law_digits K)
theorem ev__law_digits {K : PySem.W.Frag} {σ : L2.St} {H : Hp} {tr : TA} {E : XK} {ns : List Int} {m n b : Int} (h : EvAG tr σ H [isL K (Ints ns), isV (.int m), isV (.int n), isV (.int b)]) (p0 : 0 ≤ m) (p1 : 0 ≤ n) (p2 : n ≤ 1000) (p3 : 0 < b) (p4 : b < 1073741824) : EvL (tCallO (sp__law_digits K) E tr) σ H (Ints (digits ns m n b)) := el_callG h rfl fun vs H1 e hp => ⟨ns, m, n, b, hp, ⟨p0, p1, p2, p3, p4, trivial⟩, rfl⟩

theorem ok__law_digits (T : Txt K mg) : OkF P w K mg base CX0 "_law_digits" 3 (sp__law_digits K) := by
  have O__law_cell_at : OkF P w K mg base CX0 "_law_cell_at" 2 (sp__law_cell_at K) := ok__law_cell_at T
  have O__law_draw : OkF P w K mg base CX0 "_law_draw" 1 (sp__law_draw K) := ok__law_draw T
  refine OkF.of T.d__law_digits sc__law_digits (fun vs H Q E h => h.1) (fun f cdv A outer s H vs Q E hr h => ?_)
  obtain ⟨-, z, H0, e0, ⟨ns, m, n, b, ⟨v0, r0, rfl, ⟨a0, rfl, q0⟩, ⟨v1, r1, rfl, rfl, ⟨v2, r2, rfl, rfl, ⟨v3, r3, rfl, rfl, rfl⟩⟩⟩⟩, ⟨p0, p1, p2, p3, p4, -⟩, rfl⟩, k⟩ := h
  have h0 := exl e0 q0
  clear q0
  clear e0 H0
  have hu := hu_of hr
  refine ⟨_, (pss_cons (ps_par (i := 5) (j := 6) rfl sc__law_digits.nd rfl rfl (by decide) rfl rfl (pa_cons (pe_callO O__law_cell_at hr (by rfl) pass0 (pa_cons (pv 0) (pa_cons (pv 1) pa_nil))) (pa_cons (pe_lst pa_nil) pa_nil)) (by rfl))
 (pss_cons (ps_set (i := 7) sc__law_digits.nd rfl (.inl rfl) (pe_op op_sub (pv 5) (pe_op op_pow pe_int pe_int)))
 (pss_cons (ps_for PassesOwn.never rfl (pi_range1 rfl T.z_range (pa_cons (pv 2) pa_nil)) (pg_name (i := 9) sc__law_digits.nd rfl (.inl rfl))
  (pss_one (ps_if (pt_cmpR op_ge (pv 5) (pe_op op_pow pe_int pe_int) (nomark _))
  (pss_cons (ps_expr (pe_bm PySem.F.plainAttrs_list PySem.F.slot_list_append PySem.F.type_list_append mt_append (pv 6) (pa_cons (pe_op op_mod (pv 7) (pv 3)) pa_nil)))
 (pss_one (ps_set (i := 7) sc__law_digits.nd rfl (.inl rfl) (pe_op op_fdiv (pv 7) (pv 3)))))
  (pss_cons (ps_set (i := 4) sc__law_digits.nd rfl (.inl rfl) (pe_callO O__law_draw hr (by rfl) pass0 (pa_cons (pe_op op_mul (pe_op op_add (pv 5) (pe_op op_mul pe_int (pv 9))) (pe_op op_add (pe_op op_add (pv 5) (pe_op op_mul pe_int (pv 9))) pe_int)) (pa_cons (pe_op op_add (pe_op op_mod (pv 9) pe_int) pe_int) (pa_cons pe_int pa_nil)))))
 (pss_cons (ps_set (i := 8) sc__law_digits.nd rfl (.inl rfl) (pe_callO O__law_draw hr (by rfl) pass0 (pa_cons (pe_op op_add (pe_op op_mul (pe_op op_add (pv 5) (pe_op op_mul pe_int (pv 9))) (pe_op op_add (pv 5) pe_int)) (pe_op op_mul pe_int (pv 9))) (pa_cons (pe_op op_add (pe_op op_mod (pv 9) pe_int) pe_int) (pa_cons pe_int pa_nil)))))
 (pss_one (ps_expr (pe_bm PySem.F.plainAttrs_list PySem.F.slot_list_append PySem.F.type_list_append mt_append (pv 6) (pa_cons (pe_op op_mod (pe_op op_add (pe_op op_mul (pv 4) pe_int) (pv 8)) (pv 3)) pa_nil)))))))))
 (pss_one (ps_ret (pv 6)))))), ?_⟩
  have hc0 := cellAt_nn ns m
  have hten : (10 : Int) ^ (18 : Int).toNat = 1000000000000000000 := by decide
  refine q_par (ag_V (ev__law_cell_at (ag_L (q_old (ev_var rfl) (by walk_at "fact")) (ag_V (ev_var rfl) ag_nil)) (by walk_at "side")) (ag_NL el_nil ag_nil)) fun v1 v2 H1 e1 h1 h2 => ?_
  obtain rfl := h1
  obtain ⟨p, rfl, hp0, hp⟩ := h2
  refine q_asg (Ev.is (ev_sub (ev_var rfl) (ev_pow ev_c ev_c (by walk_at "cpow"))) (by rw [hten])) fun H2 e2 => ?_
  refine q_for (s := [p]) (i_rng1 (ea_cons (ev_var rfl) ea_nil) (by walk_at "rng")) (by intro a ha; rw [List.mem_singleton.mp ha, e2 _ _ hp]; simp) fun H3 e3 => ⟨fun i σ' H' => ∃ x y z L, σ' = [some (.ref a0), some (.int m), some (.int n), some (.int b), x, some (.int (cellAt ns m)), some (.ref p), some (.int L), y, z] ∧
      (1000000000000000000 ≤ cellAt ns m → L = leftAt (cellAt ns m - 1000000000000000000) b i) ∧ Xb [p] H3 H' ∧ H' p = some (.lst (Ints ((List.range i).map (digit (cellAt ns m) b)))),
    ⟨none, none, none, _, rfl, fun _ => rfl, Xb.refl _ _, e3 _ _ (e2 _ _ hp)⟩, fun i σ' H' ⟨_, _, _, _, _, _, x, _⟩ => x, ?_, ?_⟩
  · rintro i t σ' H4 H5 hi ⟨x, y, z, L, rfl, hL, hx, hq⟩ e5
    have hit : t = i ∧ i < n.toNat := by
      obtain ⟨h1, h2⟩ := List.getElem?_eq_some_iff.mp hi
      rw [List.length_range] at h1
      rw [List.getElem_range] at h2
      exact ⟨h2.symm, h1⟩
    obtain ⟨rfl, hlt⟩ := hit
    have hq5 := e5 _ _ hq
    have hx5 := hx.ex e5
    have step : (List.range (t + 1)).map (digit (cellAt ns m) b) = (List.range t).map (digit (cellAt ns m) b) ++ [digit (cellAt ns m) b t] := by
      rw [List.range_succ, List.map_append]
      rfl
    have hsz : (Ints ((List.range t).map (digit (cellAt ns m) b))).length < 100000 := by
      rw [List.length_map, List.length_map, List.length_range]
      omega
    refine s_if (EvT.is (et_test (ev_ge (ev_var rfl) (ev_pow ev_c ev_c (by walk_at "cpow")))) (by rw [hten])) (fun hb H6 e6 => ?_) (fun hb H6 e6 => ?_)
    · have hbig : 1000000000000000000 ≤ cellAt ns m := of_decide_eq_true hb
      refine q_app (e6 _ _ hq5) (ev_var rfl) (ev_mod (ev_var rfl) (ev_var rfl) (by walk_at "side")) hsz fun H7 e7 => ?_
      refine s_asg (ev_fdiv (ev_var rfl) (ev_var rfl) (by walk_at "cdiv")) fun H8 e8 => ⟨_, _, _, _, rfl, fun _ => by rw [hL hbig]; rfl, ((hx5.ex (e6.trans e7)).upd (by simp)).ex e8, ?_⟩
      rw [step]
      refine e8 _ _ ?_
      rw [upd_same]
      unfold Ints
      rw [List.map_append]
      congr 3
      unfold digit
      rw [if_pos hbig, hL hbig]
      rfl
    · have hsm : ¬ 1000000000000000000 ≤ cellAt ns m := of_decide_eq_false hb
      have hsm' : cellAt ns m < 1000000000000000000 := by omega
      have ht1 : (t : Int) < 1000 := by omega
      refine q_asg (ev__law_draw (ag_V (ev_mul (ev_add (ev_var rfl) (ev_mul ev_c (ev_var rfl) (by walk_at "cmul"))) (ev_add (ev_add (ev_var rfl) (ev_mul ev_c (ev_var rfl) (by walk_at "cmul"))) ev_c) (by walk_at "cmul")) (ag_V (ev_add (ev_mod (ev_var rfl) ev_c (by walk_at "side")) ev_c) (ag_V ev_c ag_nil))) (by walk_at "side")) fun H7 e7 => ?_
      refine q_asg (ev__law_draw (ag_V (ev_add (ev_mul (ev_add (ev_var rfl) (ev_mul ev_c (ev_var rfl) (by walk_at "cmul"))) (ev_add (ev_var rfl) ev_c) (by walk_at "cmul")) (ev_mul ev_c (ev_var rfl) (by walk_at "cmul"))) (ag_V (ev_add (ev_mod (ev_var rfl) ev_c (by walk_at "side")) ev_c) (ag_V ev_c ag_nil))) (by walk_at "side")) fun H8 e8 => ?_
      refine s_app (e8 _ _ (e7 _ _ (e6 _ _ hq5))) (ev_var rfl) (ev_mod (ev_add (ev_mul (ev_var rfl) ev_c (by walk_at "cmul")) (ev_var rfl)) (ev_var rfl) (by walk_at "side")) hsz fun H9 e9 => ⟨_, _, _, _, rfl, fun h => absurd h hsm, (hx5.ex (((e6.trans e7).trans e8).trans e9)).upd (by simp), ?_⟩
      rw [step, upd_same]
      unfold Ints
      rw [List.map_append]
      congr 3
      unfold digit
      rw [if_neg hsm]
      rfl
  · rintro σ' H4 ⟨x, y, z, L, rfl, hL, hx, hq⟩
    have eH : Ex H H4 := Ex.xb0 ((e1.trans e2).trans e3) hx (fun a ha => by rw [List.mem_singleton.mp ha]; exact hp0)
    rw [List.length_range] at hq
    exact s_ret (ev_var rfl) fun H5 e5 => k p H5 hp0 (eH.trans e5) (e5 _ _ hq)

def R__law_pool (K : PySem.W.Frag) : List V → Hp → List V → Prop := fun vs H z => ∃ (ns : List Int) (m : Int), AllP [isL K (Ints ns), isV (.int m)] vs H ∧ ((0 ≤ m) ∧ True) ∧ z = Txts (pool ns m)
def sp__law_pool (K : PySem.W.Frag) : Sp := spL 2 (R__law_pool K)
theorem ev__law_pool {K : PySem.W.Frag} {σ : L2.St} {H : Hp} {tr : TA} {E : XK} {ns : List Int} {m : Int} (h : EvAG tr σ H [isL K (Ints ns), isV (.int m)]) (p0 : 0 ≤ m) : EvL (tCallO (sp__law_pool K) E tr) σ H (Txts (pool ns m)) := el_callG h rfl fun vs H1 e hp => ⟨ns, m, hp, ⟨p0, trivial⟩, rfl⟩

theorem ok__law_pool (T : Txt K mg) : OkF P w K mg base CX0 "_law_pool" 4 (sp__law_pool K) := by
  have O__law_digits : OkF P w K mg base CX0 "_law_digits" 3 (sp__law_digits K) := ok__law_digits T
  refine OkF.of T.d__law_pool sc__law_pool (fun vs H Q E h => h.1) (fun f cdv A outer s H vs Q E hr h => ?_)
  obtain ⟨-, z, H0, e0, ⟨ns, m, ⟨v0, r0, rfl, ⟨a0, rfl, q0⟩, ⟨v1, r1, rfl, rfl, rfl⟩⟩, ⟨p0, -⟩, rfl⟩, k⟩ := h
  have h0 := exl e0 q0
  clear q0
  clear e0 H0
  have hu := hu_of hr
  refine ⟨_, (pss_one (ps_ret (pe_lc (own := [("_law_one", 2)]) (g := gName 2) rfl sc__law_pool.nd (kpi_list (K := K) (pe_callO O__law_digits hr (by rfl) pass0 (pa_cons (pv 0) (pa_cons (pv 1) (pa_cons pe_int (pa_cons pe_int pa_nil)))))) (blkOk_by (N := N__law_pool) (sc := defScope s__law_pool) (by decide +kernel)) (fun _ _ _ _ _ => (pg_name (i := 2) sc__law_pool.nd rfl (.inl rfl))) (fun _ _ _ _ _ => pts_nil) (fun _ _ _ _ _ => (pe_ix ix_str pe_str (pv 2) (fun _ _ => rfl)))))), ?_⟩
  have hd := digits_mem (ns := ns) (k := m) (m := 3) (b := 26) (by decide)
  have hd0 : ∀ d ∈ digits ns m 3 26, 0 ≤ d := fun d h => (hd d h).1
  have hd1 : ∀ d ∈ digits ns m 3 26, d < (([97, 98, 99, 100, 101, 102, 103, 104, 105, 106, 107, 108, 109, 110, 111, 112, 113, 114, 115, 116, 117, 118, 119, 120, 121, 122] : Row).length : Int) := fun d h => (hd d h).2
  have hl : (digits ns m 3 26).length ≤ 40000 := by rw [digits_len]; decide
  refine s_retL2 (EvL.is (el_lc1 (i_list (qa_new (ev__law_digits (ag_L (q_old (ev_var rfl) (by walk_at "fact")) (ag_V (ev_var rfl) (ag_V ev_c (ag_V ev_c ag_nil)))) (by walk_at "side") (by walk_at "side") (by walk_at "side") (by walk_at "side") (by walk_at "side")))) (by walk_at "len") (fun _ => wipe_one _ _ _) (fun x1 hx1 H101 e101 => (ev_ixS (ev_cS (l := [97, 98, 99, 100, 101, 102, 103, 104, 105, 106, 107, 108, 109, 110, 111, 112, 113, 114, 115, 116, 117, 118, 119, 120, 121, 122]) (by decide +kernel)) (ev_var rfl) (by walk_at "side") (by walk_at "side") (by walk_at "side")))) ?_) k
  unfold pool Txts
  rw [List.map_map]
  rfl

def R__law_rows (K : PySem.W.Frag) : List V → Hp → List V → Prop := fun vs H z => ∃ (w : Int), AllP [isV (.int w)] vs H ∧ ((0 ≤ w) ∧ (w ≤ 4) ∧ True) ∧ z = Txts (rowsL w)
def sp__law_rows (K : PySem.W.Frag) : Sp := spL 1 (R__law_rows K)
theorem ev__law_rows {K : PySem.W.Frag} {σ : L2.St} {H : Hp} {tr : TA} {E : XK} {w : Int} (h : EvAG tr σ H [isV (.int w)]) (p0 : 0 ≤ w) (p1 : w ≤ 4) : EvL (tCallO (sp__law_rows K) E tr) σ H (Txts (rowsL w)) := el_callG h rfl fun vs H1 e hp => ⟨w, hp, ⟨p0, p1, trivial⟩, rfl⟩

theorem ok__law_rows (T : Txt K mg) : OkF P w K mg base CX0 "_law_rows" 1 (sp__law_rows K) := by
  refine OkF.of T.d__law_rows sc__law_rows (fun vs H Q E h => h.1) (fun f cdv A outer s H vs Q E hr h => ?_)
  obtain ⟨-, z, H0, e0, ⟨w, ⟨v0, r0, rfl, rfl, rfl⟩, ⟨p0, p1, -⟩, rfl⟩, k⟩ := h
  clear e0 H0
  have hu := hu_of hr
  refine ⟨_, (pss_cons (ps_set (i := 1) sc__law_rows.nd rfl (.inl rfl) (pe_lst pa_nil))
 (pss_cons (ps_for PassesOwn.never rfl (pi_range1 rfl T.z_range (pa_cons (pe_op op_shl pe_int (pv 0)) pa_nil)) (pg_name (i := 2) sc__law_rows.nd rfl (.inr rfl))
  (pss_one (ps_expr (pe_bm PySem.F.plainAttrs_list PySem.F.slot_list_append PySem.F.type_list_append mt_append (pv 1) (pa_cons (kpe_joinQ (K := K) pe_str (pe_lc (own := [("_law_at", 3)]) (g := gName 3) rfl sc__law_rows.nd (pi_range1 rfl T.z_range (pa_cons (pv 0) pa_nil)) (blkOk_by (N := N__law_rows) (sc := defScope s__law_rows) (by decide +kernel)) (fun _ _ _ _ _ => (pg_name (i := 3) sc__law_rows.nd rfl (.inl rfl))) (fun _ _ _ _ _ => pts_nil) (fun _ _ _ _ _ => (pe_ifExp (pt_cmpR op_eq (pe_op op_and (pe_op op_shr (pv 2) (pe_op op_sub (pe_op op_sub (pv 0) pe_int) (pv 3))) pe_int) pe_int (nomark _)) pe_str pe_str)))) pa_nil)))))
 (pss_one (ps_ret (pv 1))))), ?_⟩
  have h2 : (2 : Int) ^ w.toNat ≤ 16 := by
    have : w = 0 ∨ w = 1 ∨ w = 2 ∨ w = 3 ∨ w = 4 := by omega
    rcases this with rfl | rfl | rfl | rfl | rfl <;> decide
  have h2' : (0 : Int) ≤ 2 ^ w.toNat := two_pow_nn _
  have hfl : ∀ n : Nat, (((List.range w.toNat).map (bitC n w)).flatten).length ≤ 100000 := fun n => by
    have := rowN_len w n
    unfold rowN at this
    omega
  refine q_asgL el_nil fun p H1 hp0 e1 hp => ?_
  refine q_for (s := [p]) (i_rng1 (ea_cons (ev_shl ev_c (ev_var rfl) (by walk_at "cpow")) ea_nil) (by walk_at "rng")) (by intro a ha; rw [List.mem_singleton.mp ha, hp]; simp) fun H2 e2 => ⟨fun i σ' H' => ∃ x y, σ' = [some (.int w), some (.ref p), x, y] ∧ Xb [p] H2 H' ∧ H' p = some (.lst (Txts ((List.range i).map (rowN w)))),
    ⟨none, none, rfl, Xb.refl _ _, e2 _ _ hp⟩, fun i σ' H' ⟨_, _, _, x, _⟩ => x, ?_, ?_⟩
  · rintro i t σ' H3 H4 hi ⟨x, y, rfl, hx, hq⟩ e4
    have hit : t = i ∧ i < (1 * 2 ^ w.toNat : Int).toNat := by
      obtain ⟨h1, h2⟩ := List.getElem?_eq_some_iff.mp hi
      rw [List.length_range] at h1
      rw [List.getElem_range] at h2
      exact ⟨h2.symm, h1⟩
    obtain ⟨rfl, hlt⟩ := hit
    have hfl' := hfl t
    refine s_app (e4 _ _ hq) (ev_var rfl) (Ev.is (ev_joinQ (ev_cS lit_nil) (q_new (el_lc1 (i_rng1 (ea_cons (ev_var rfl) ea_nil) (by walk_at "rng")) (by walk_at "len") (fun _ => wipe_one _ _ _) (fun x2 hx2 H102 e102 => (ev_ifS (et_test (ev_eqI (ev_and (ev_shr (ev_var rfl) (ev_sub (ev_sub (ev_var rfl) ev_c) (ev_var rfl)) (by walk_at "side")) ev_c) ev_c)) (fun hb3 => (ev_cS lit_o)) (fun hb3 => (ev_cS lit_dot)))))) (by walk_at "len")) rfl) (by simp only [List.length_map, List.length_range]; omega) fun H5 e5 => ⟨_, _, rfl, ((hx.ex e4).ex e5).upd (by simp), ?_⟩
    rw [upd_same, List.range_succ, List.map_append]
    unfold Txts
    rw [List.map_append]
    rfl
  · rintro σ' H3 ⟨x, y, rfl, hx, hq⟩
    have eH : Ex H H3 := Ex.xb0 (e1.trans e2) hx (fun a ha => by rw [List.mem_singleton.mp ha]; exact hp0)
    rw [List.length_range] at hq
    exact s_ret (ev_var rfl) fun H5 e5 => k p H5 hp0 (eH.trans e5) (e5 _ _ hq)

def R__law_reader (K : PySem.W.Frag) : List V → Hp → List (Key × V) → Prop := fun vs H z => ∃ (ns : List Int) (m : Int) (pl : List Row) (least : Int), AllP [isL K (Ints ns), isV (.int m), isL K (Txts pl), isV (.int least)] vs H ∧ ((0 ≤ m) ∧ (pl.length = 3) ∧ (1 ≤ least) ∧ (least ≤ 4) ∧ True) ∧ z = DS (reader ns m pl least)
def sp__law_reader (K : PySem.W.Frag) : Sp := spD 4 (R__law_reader K)
theorem ev__law_reader {K : PySem.W.Frag} {σ : L2.St} {H : Hp} {tr : TA} {E : XK} {ns : List Int} {m : Int} {pl : List Row} {least : Int} (h : EvAG tr σ H [isL K (Ints ns), isV (.int m), isL K (Txts pl), isV (.int least)]) (p0 : 0 ≤ m) (p1 : pl.length = 3) (p2 : 1 ≤ least) (p3 : least ≤ 4) : EvD (tCallO (sp__law_reader K) E tr) σ H (DS (reader ns m pl least)) := ed_callG h rfl fun vs H1 e hp => ⟨ns, m, pl, least, hp, ⟨p0, p1, p2, p3, trivial⟩, rfl⟩

theorem ok__law_reader (T : Txt K mg) : OkF P w K mg base CX0 "_law_reader" 4 (sp__law_reader K) := by
  have O__law_digits : OkF P w K mg base CX0 "_law_digits" 3 (sp__law_digits K) := ok__law_digits T
  have O__law_rows : OkF P w K mg base CX0 "_law_rows" 1 (sp__law_rows K) := ok__law_rows T
  refine OkF.of T.d__law_reader sc__law_reader (fun vs H Q E h => h.1) (fun f cdv A outer s H vs Q E hr h => ?_)
  obtain ⟨-, z, H0, e0, ⟨ns, m, pl, least, ⟨v0, r0, rfl, ⟨a0, rfl, q0⟩, ⟨v1, r1, rfl, rfl, ⟨v2, r2, rfl, ⟨a2, rfl, q2⟩, ⟨v3, r3, rfl, rfl, rfl⟩⟩⟩⟩, ⟨p0, p1, p2, p3, -⟩, rfl⟩, k⟩ := h
  have h0 := exl e0 q0
  clear q0
  have h2 := exl e0 q2
  clear q2
  clear e0 H0
  have hu := hu_of hr
  refine ⟨_, (pss_cons (ps_par (i := 5) (j := 6) rfl sc__law_reader.nd rfl rfl (by decide) rfl rfl (pa_cons (pe_callO O__law_digits hr (by rfl) pass0 (pa_cons (pv 0) (pa_cons (pv 1) (pa_cons pe_int (pa_cons pe_int pa_nil))))) (pa_cons pe_dnewK pa_nil)) (by rfl))
 (pss_cons (ps_set (i := 10) sc__law_reader.nd rfl (.inl rfl) (pe_op op_add (pv 3) (pe_op op_mod (pe_ix (kix_list (K := K)) (pv 5) pe_int (fun _ _ => rfl)) (pe_op op_sub pe_int (pv 3)))))
 (pss_cons (ps_set (i := 9) sc__law_reader.nd rfl (.inl rfl) (pe_slice (ksl_list (K := K)) (pe_callO O__law_rows hr (by rfl) pass0 (pa_cons (pv 10) pa_nil)) po_none (po_some (pe_un un_neg pe_int))))
 (pss_cons (ps_set (i := 4) sc__law_reader.nd rfl (.inl rfl) (pe_op op_mod (pe_op op_fdiv (pe_ix (kix_list (K := K)) (pv 5) pe_int (fun _ _ => rfl)) pe_int) (pe_callB (kcb_lenQ (K := K)) (by rfl) T.z_len (by decide +kernel) (pa_cons (pv 9) pa_nil))))
 (pss_cons (ps_for PassesOwn.never rfl (kpi_zip (K := K) (by rfl) T.z_zip (pa_cons (pe_slice (ksl_list (K := K)) (pv 5) (po_some pe_int) po_none) (pa_cons (pe_op op_cat (pe_slice (ksl_list (K := K)) (pv 9) (po_some (pv 4)) po_none) (pe_slice (ksl_list (K := K)) (pv 9) po_none (po_some (pv 4)))) pa_nil))) (pg_tup rfl (pgs_cons (pg_name (i := 7) sc__law_reader.nd rfl (.inl rfl)) (pgs_cons (pg_name (i := 8) sc__law_reader.nd rfl (.inl rfl)) pgs_nil)))
  (pss_one (ps_if (pt_cmpR op_lt (pe_op op_mod (pv 7) pe_int) (pe_op op_add pe_int (pe_op op_mod (pe_op op_fdiv (pe_ix (kix_list (K := K)) (pv 5) pe_int (fun _ _ => rfl)) pe_int) pe_int)) (nomark _))
  (pss_one (ps_dput hu (pv 6) (pv 8) (pe_ix (kix_list (K := K)) (pv 2) (pe_op op_mod (pe_op op_fdiv (pv 7) pe_int) pe_int) (fun _ _ => rfl)) rfl))
  pss_nil)))
 (pss_cons (ps_if (pt_cmpR (op_eq_dict hr.units0) (pv 6) pe_dnewK (nomark _))
  (pss_one (ps_dput hu (pv 6) (pe_ix (kix_list (K := K)) (pv 9) (pv 4) (fun _ _ => rfl)) (pe_ix (kix_list (K := K)) (pv 2) pe_int (fun _ _ => rfl)) rfl))
  pss_nil)
 (pss_one (ps_ret (pv 6))))))))), ?_⟩
  refine q_par (ag_NL (ev__law_digits (ag_L (q_old (ev_var rfl) (by walk_at "fact")) (ag_V (ev_var rfl) (ag_V ev_c (ag_V ev_c ag_nil)))) (by walk_at "side") (by walk_at "side") (by walk_at "side") (by walk_at "side") (by walk_at "side")) (ag_ND ed_new ag_nil)) fun v1 v2 H1 e1 g1 g2 => ?_
  obtain ⟨p, rfl, hp0, hp⟩ := g1
  obtain ⟨d, rfl, hd0, hd⟩ := g2
  unfold reader at k
  have hlen : (digits ns m 17 1000).length = 17 := digits_len _ _ _ _
  generalize digits ns m 17 1000 = ds at *
  have hw := rdW_range (ds := ds) p2 p3
  have hw0 : 0 ≤ rdW ds least := by omega
  have hw4 := hw.2
  have hr := rdRows_len (ds := ds) p2 p3
  have hb := rdBegin_range (ds := ds) p2 p3
  have hb0 := hb.1
  have hb1 := hb.2
  have hpd : p ≠ d := ne_of hp hd (by intro z; cases z)
  refine q_asg (Ev.is (ev_add (ev_var rfl) (ev_mod (ev_ixQ (0 : Int) (q_old (ev_var rfl) (by walk_at "fact")) ev_c (by walk_at "side") (by walk_at "side")) (ev_sub ev_c (ev_var rfl)) (by walk_at "side"))) (show _ = V.int (rdW ds least) from rfl)) fun H2 e2 => ?_
  refine q_asgL (EvL.is (el_slQ (q_new (ev__law_rows (ag_V (ev_var rfl) ag_nil) (by walk_at "side") (by walk_at "side"))) eo_none (eo_some (ev_neg ev_c))) (show _ = Txts (rdRows ds least) from rfl)) fun rr H3 hr0 e3 hrr => ?_
  have hrd : rr ≠ d := ne_new (fresh_back e2 hr0) hd
  have hpos : 0 < ((rdRows ds least).length : Int) := by omega
  refine q_asg (Ev.is (ev_mod (ev_fdiv (ev_ixQ (0 : Int) (q_old (ev_var rfl) (by walk_at "fact")) ev_c (by walk_at "side") (by walk_at "side")) ev_c (by walk_at "cdiv")) (ev_lenQ (q_old (ev_var rfl) (by walk_at "fact"))) (by walk_at "side")) (show _ = V.int (rdBegin ds least) from rfl)) fun H4 e4 => ?_
  have hsum : (cutG (rdRows ds least) (some (rdBegin ds least)) none).length + (cutG (rdRows ds least) none (some (rdBegin ds least))).length ≤ 100000 := by
    rw [cutG_from _ hb0, cutG_to _ hb0, List.length_drop, List.length_take]
    omega
  have hd4 : H4 d = some (.dK []) := e4 _ _ (e3 _ _ (e2 _ _ hd))
  refine q_for (s := [d]) (i_zip (qa_new (el_slQ (q_old (ev_var rfl) (by walk_at "fact")) (eo_some ev_c) eo_none)) (qa_new (el_catH (h_new (el_slQ (q_old (ev_var rfl) (by walk_at "fact")) (eo_some (ev_var rfl)) eo_none)) (h_new (el_slQ (q_old (ev_var rfl) (by walk_at "fact")) eo_none (eo_some (ev_var rfl)))) (by walk_at "side")))) (by intro a ha; rw [List.mem_singleton.mp ha, hd4]; simp) fun H5 e5 => ⟨fun i σ' H' => ∃ x y, σ' = [some (.ref a0), some (.int m), some (.ref a2), some (.int least), some (.int (rdBegin ds least)), some (.ref p), some (.ref d), x, y, some (.ref rr), some (.int (rdW ds least))] ∧
      Xb [d] H5 H' ∧ H' d = some (.dK (DS (((rdZip ds least).take i).foldl (rdStep ds pl) []))) ∧ (((rdZip ds least).take i).foldl (rdStep ds pl) []).length ≤ i,
    ⟨none, none, rfl, Xb.refl _ _, e5 _ _ hd4, Nat.le_refl _⟩, fun i σ' H' ⟨_, _, _, x, _⟩ => x, ?_, ?_⟩
  · rintro i ⟨num, row⟩ σ' H6 H7 hi ⟨x, y, rfl, hx, hq, hl⟩ e7
    have hi : (rdZip ds least)[i]? = some (num, row) := hi
    have hmem := List.mem_of_getElem? hi
    have hilt := (List.getElem?_eq_some_iff.mp hi).1
    have hz17 : (rdZip ds least).length ≤ 17 := by
      have := List.length_zip (l₁ := cutG ds (some 1) none) (l₂ := cutG (rdRows ds least) (some (rdBegin ds least)) none ++ cutG (rdRows ds least) none (some (rdBegin ds least)))
      unfold rdZip
      rw [this, cutG_from _ (by decide), List.length_drop]
      omega
    have stp : ((rdZip ds least).take (i + 1)).foldl (rdStep ds pl) [] = rdStep ds pl (((rdZip ds least).take i).foldl (rdStep ds pl) []) (num, row) := by
      rw [List.take_succ, hi, List.foldl_append]
      rfl
    have a2d : a2 ≠ d := h2.ne hd0
    have hx7 := hx.ex e7
    have hpl7 : SL K H7 a2 (Txts pl) := hx7.l (nin1 a2d) (by walk_at "fact")
    have hds7 : SL K H7 p (Ints ds) := hx7.l (nin1 hpd) (by walk_at "fact")
    refine s_when (et_test (ev_lt (ev_mod (ev_var rfl) ev_c (by walk_at "side")) (ev_add ev_c (ev_mod (ev_fdiv (ev_ixQ (0 : Int) (q_old (ev_var rfl) (by walk_at "fact")) ev_c (by walk_at "side") (by walk_at "side")) ev_c (by walk_at "cdiv")) ev_c (by walk_at "side"))))) (fun hb H8 e8 => ?_) (fun hb H8 e8 => ?_)
    · have h3 := Int.emod_nonneg (num / 5) (show (3 : Int) ≠ 0 by decide)
      have h4 := Int.emod_lt_of_pos (num / 5) (show (0 : Int) < 3 by decide)
      refine s_dput (e8 _ _ (e7 _ _ hq)) (ev_ixQ ([] : Row) (q_old (ev_var rfl) (by walk_at "fact")) (ev_mod (ev_fdiv (ev_var rfl) ev_c (by walk_at "cdiv")) ev_c (by walk_at "side")) (by walk_at "side") (by walk_at "side")) (ev_var rfl) (ev_var rfl) (by omega) fun H9 e9 => ⟨_, _, rfl, ((hx7.ex e8).ex e9).upd (by simp), ?_, ?_⟩
      · rw [upd_same, stp, rdStep_T hb]
      · rw [stp, rdStep_T hb]
        exact Nat.le_trans (put_len _ _ _) (by omega)
    · refine ⟨_, _, rfl, hx7.ex e8, ?_, ?_⟩
      · rw [stp, rdStep_F hb]
        exact e8 _ _ (e7 _ _ hq)
      · rw [stp, rdStep_F hb]
        omega
  · rintro σ' H6 ⟨x, y, rfl, hx, hq, hl⟩
    have hq : H6 d = some (.dK (DS (((rdZip ds least).take (rdZip ds least).length).foldl (rdStep ds pl) []))) := hq
    rw [List.take_length] at hq
    have hl : (((rdZip ds least).take (rdZip ds least).length).foldl (rdStep ds pl) []).length ≤ (rdZip ds least).length := hl
    rw [List.take_length] at hl
    have hz17 : (rdZip ds least).length ≤ 17 := by
      have := List.length_zip (l₁ := cutG ds (some 1) none) (l₂ := cutG (rdRows ds least) (some (rdBegin ds least)) none ++ cutG (rdRows ds least) none (some (rdBegin ds least)))
      unfold rdZip
      rw [this, cutG_from _ (by decide), List.length_drop]
      omega
    have a2d : a2 ≠ d := h2.ne hd0
    have hx' : Xb [d] H1 H6 := Xb.ex0 (((e2.trans e3).trans e4).trans e5) hx
    have hpl6 : SL K H6 a2 (Txts pl) := hx'.l (nin1 a2d) (by walk_at "fact")
    have hrr6 : SL K H6 rr (Txts (rdRows ds least)) := (Xb.ex0 (e4.trans e5) hx).l (nin1 hrd) (slof hrr)
    have eH : Ex H H6 := Ex.xb0 e1 hx' (fun a ha => by rw [List.mem_singleton.mp ha]; exact hd0)
    refine q_when (et_test (ev_eqD (g_Dold (ev_var rfl) (by walk_at "facth")) (g_D ed_newS))) (fun hb H7 e7 => ?_) (fun hb H7 e7 => ?_)
    · refine q_dput (e7 _ _ hq) (ev_ixQ ([] : Row) (q_old (ev_var rfl) (by walk_at "fact")) ev_c (by walk_at "side") (by walk_at "side")) (ev_var rfl) (ev_ixQ ([] : Row) (q_old (ev_var rfl) (by walk_at "fact")) (ev_var rfl) (by walk_at "side") (by walk_at "side")) (by omega) fun H8 e8 => ?_
      refine s_ret (ev_var rfl) fun H9 e9 => k d H9 hd0 (Ex.xb0 eH ((Xb.upd (s := [d]) (p := d) (Ex.xb (e7.trans e8)) (by simp)).ex e9) (fun a ha => by rw [List.mem_singleton.mp ha]; exact hd0)) (e9 _ _ ?_)
      have hb : dEq (rdLoop ds pl least) [] = true := hb
      rw [upd_same]
      unfold rdr
      rw [if_pos hb]
      rfl
    · refine s_ret (ev_var rfl) fun H8 e8 => k d H8 hd0 ((eH.trans e7).trans e8) (e8 _ _ (e7 _ _ ?_))
      rw [hq]
      unfold rdr
      rw [if_neg (by rw [show dEq (rdLoop ds pl least) [] = false from hb]; decide)]
      rfl

def R__law_tape (K : PySem.W.Frag) : List V → Hp → List V → Prop := fun vs H z => ∃ (ns : List Int) (m : Int) (w n : Int), AllP [isL K (Ints ns), isV (.int m), isV (.int w), isV (.int n)] vs H ∧ ((0 ≤ m) ∧ (0 ≤ w) ∧ (w ≤ 4) ∧ (0 ≤ n) ∧ (n ≤ 100) ∧ True) ∧ z = Txts (tapeL ns m w n)
def sp__law_tape (K : PySem.W.Frag) : Sp := spL 4 (R__law_tape K)
theorem ev__law_tape {K : PySem.W.Frag} {σ : L2.St} {H : Hp} {tr : TA} {E : XK} {ns : List Int} {m : Int} {w n : Int} (h : EvAG tr σ H [isL K (Ints ns), isV (.int m), isV (.int w), isV (.int n)]) (p0 : 0 ≤ m) (p1 : 0 ≤ w) (p2 : w ≤ 4) (p3 : 0 ≤ n) (p4 : n ≤ 100) : EvL (tCallO (sp__law_tape K) E tr) σ H (Txts (tapeL ns m w n)) := el_callG h rfl fun vs H1 e hp => ⟨ns, m, w, n, hp, ⟨p0, p1, p2, p3, p4, trivial⟩, rfl⟩

theorem ok__law_tape (T : Txt K mg) : OkF P w K mg base CX0 "_law_tape" 4 (sp__law_tape K) := by
  have O__law_digits : OkF P w K mg base CX0 "_law_digits" 3 (sp__law_digits K) := ok__law_digits T
  have O__law_rows : OkF P w K mg base CX0 "_law_rows" 1 (sp__law_rows K) := ok__law_rows T
  refine OkF.of T.d__law_tape sc__law_tape (fun vs H Q E h => h.1) (fun f cdv A outer s H vs Q E hr h => ?_)
  obtain ⟨-, z, H0, e0, ⟨ns, m, w, n, ⟨v0, r0, rfl, ⟨a0, rfl, q0⟩, ⟨v1, r1, rfl, rfl, ⟨v2, r2, rfl, rfl, ⟨v3, r3, rfl, rfl, rfl⟩⟩⟩⟩, ⟨p0, p1, p2, p3, p4, -⟩, rfl⟩, k⟩ := h
  have h0 := exl e0 q0
  clear q0
  clear e0 H0
  have hu := hu_of hr
  refine ⟨_, (pss_cons (ps_par (i := 7) (j := 6) rfl sc__law_tape.nd rfl rfl (by decide) rfl rfl (pa_cons (pe_callO O__law_rows hr (by rfl) pass0 (pa_cons (pv 2) pa_nil)) (pa_cons (pe_lst pa_nil) pa_nil)) (by rfl))
 (pss_cons (ps_for PassesOwn.never rfl (kpi_list (K := K) (pe_callO O__law_digits hr (by rfl) pass0 (pa_cons (pv 0) (pa_cons (pv 1) (pa_cons (pv 3) (pa_cons pe_int pa_nil)))))) (pg_name (i := 4) sc__law_tape.nd rfl (.inl rfl))
  (pss_cons (ps_set (i := 5) sc__law_tape.nd rfl (.inl rfl) (pe_op op_or (pe_op op_mod (pe_op op_fdiv (pv 4) pe_int) pe_int) (pe_op op_mul (pe_op op_mod (pe_op op_fdiv (pv 4) pe_int) pe_int) pe_int)))
 (pss_one (ps_expr (pe_bm PySem.F.plainAttrs_list PySem.F.slot_list_append PySem.F.type_list_append mt_append (pv 6) (pa_cons (pe_ix (kix_list (K := K)) (pv 7) (pe_op op_mod (pe_op op_and (pe_op op_mod (pv 4) pe_int) (pv 5)) (pe_callB (kcb_lenQ (K := K)) (by rfl) T.z_len (by decide +kernel) (pa_cons (pv 7) pa_nil))) (fun _ _ => rfl)) pa_nil))))))
 (pss_one (ps_ret (pv 6))))), ?_⟩
  have hpos := rowsL_pos w
  refine q_par (ag_NL (ev__law_rows (ag_V (ev_var rfl) ag_nil) (by walk_at "side") (by walk_at "side")) (ag_NL el_nil ag_nil)) fun v1 v2 H1 e1 g1 g2 => ?_
  obtain ⟨rr, rfl, hr0, hrr⟩ := g1
  obtain ⟨p, rfl, hp0, hp⟩ := g2
  have hrp : rr ≠ p := ne_of hrr hp (by
    intro z
    have z := congrArg List.length (HO.lst.inj z)
    have z : (Txts (rowsL w)).length = 0 := z
    unfold Txts at z
    rw [List.length_map] at z
    omega)
  refine q_for (s := [p]) (i_list (qa_new (ev__law_digits (ag_L (q_old (ev_var rfl) (by walk_at "fact")) (ag_V (ev_var rfl) (ag_V (ev_var rfl) (ag_V ev_c ag_nil)))) (by walk_at "side") (by walk_at "side") (by walk_at "side") (by walk_at "side") (by walk_at "side")))) (by intro a ha; rw [List.mem_singleton.mp ha, hp]; simp) fun H2 e2 => ⟨fun i σ' H' => ∃ x y, σ' = [some (.ref a0), some (.int m), some (.int w), some (.int n), x, y, some (.ref p), some (.ref rr)] ∧
      Xb [p] H2 H' ∧ H' p = some (.lst (Txts (((digits ns m n 4096).take i).map (tapeRow w)))),
    ⟨none, none, rfl, Xb.refl _ _, e2 _ _ hp⟩, fun i σ' H' ⟨_, _, _, x, _⟩ => x, ?_, ?_⟩
  · rintro i d σ' H3 H4 hi ⟨x, y, rfl, hx, hq⟩ e4
    have hx4 := hx.ex e4
    have hil := (List.getElem?_eq_some_iff.mp hi).1
    rw [digits_len] at hil
    have hrr4 : SL K H4 rr (Txts (rowsL w)) := hx4.l (nin1 hrp) (by walk_at "fact")
    refine q_asg (ev_or (ev_mod (ev_fdiv (ev_var rfl) ev_c (by walk_at "cdiv")) ev_c (by walk_at "side")) (ev_mul (ev_mod (ev_fdiv (ev_var rfl) ev_c (by walk_at "cdiv")) ev_c (by walk_at "side")) ev_c (by walk_at "cmul"))) fun H5 e5 => ?_
    have hix := Int.emod_nonneg (Builtin.bitAnd (d % 16) (Builtin.bitOr (d / 16 % 16) (d / 256 % 2 * 15))) (show ((rowsL w).length : Int) ≠ 0 by omega)
    have hix2 := Int.emod_lt_of_pos (Builtin.bitAnd (d % 16) (Builtin.bitOr (d / 16 % 16) (d / 256 % 2 * 15))) hpos
    refine s_app (e5 _ _ (e4 _ _ hq)) (ev_var rfl) (ev_ixQ ([] : Row) (q_old (ev_var rfl) (by walk_at "fact")) (ev_mod (ev_and (ev_mod (ev_var rfl) ev_c (by walk_at "side")) (ev_var rfl)) (ev_lenQ (q_old (ev_var rfl) (by walk_at "fact"))) (by walk_at "side")) (by walk_at "side") (by walk_at "side")) (by unfold Txts; simp only [List.length_map, List.length_take, digits_len]; omega) fun H6 e6 => ⟨_, _, rfl, ((hx4.ex e5).ex e6).upd (by simp), ?_⟩
    rw [upd_same, List.take_succ, hi, List.map_append]
    unfold Txts
    rw [List.map_append]
    rfl
  · rintro σ' H3 ⟨x, y, rfl, hx, hq⟩
    have eH : Ex H H3 := Ex.xb0 (e1.trans e2) hx (fun a ha => by rw [List.mem_singleton.mp ha]; exact hp0)
    have hq : H3 p = some (.lst (Txts (((digits ns m n 4096).take (digits ns m n 4096).length).map (tapeRow w)))) := hq
    rw [List.take_length] at hq
    exact s_ret (ev_var rfl) fun H5 e5 => k p H5 hp0 (eH.trans e5) (e5 _ _ hq)

def R__law_width (K : PySem.W.Frag) : List V → Hp → V → Prop := fun vs H z => ∃ (rd : Dic) (w : Nat), AllP [isD (DS rd)] vs H ∧ ((RdOk rd w) ∧ True) ∧ z = .int (w : Int)
def sp__law_width (K : PySem.W.Frag) : Sp := spV 1 (R__law_width K)
theorem ev__law_width {K : PySem.W.Frag} {σ : L2.St} {H : Hp} {tr : TA} {E : XK} {rd : Dic} {w : Nat} (h : EvAG tr σ H [isD (DS rd)]) (p0 : RdOk rd w) : Ev (tCallO (sp__law_width K) E tr) σ H (.int (w : Int)) := ev_callG h rfl fun vs H1 e hp => ⟨rd, w, hp, ⟨p0, trivial⟩, rfl⟩

theorem ok__law_width (T : Txt K mg) : OkF P w K mg base CX0 "_law_width" 1 (sp__law_width K) := by
  refine OkF.of T.d__law_width sc__law_width (fun vs H Q E h => h.1) (fun f cdv A outer s H vs Q E hr h => ?_)
  obtain ⟨-, z, H0, e0, ⟨rd, w, ⟨v0, r0, rfl, ⟨a0, rfl, q0⟩, rfl⟩, ⟨p0, -⟩, rfl⟩, k⟩ := h
  have h0 := exh e0 q0
  clear q0
  clear e0 H0
  have hu := hu_of hr
  refine ⟨_, (pss_one (ps_ret (pe_callB cb_lenS (by rfl) T.z_len (by decide +kernel) (pa_cons (pe_ix (kix_list (K := K)) (pe_callTy (call_list_dK rfl) (by rfl) T.z_list (by decide +kernel) (pa_cons (pv 0) pa_nil)) pe_int (fun _ _ => rfl)) pa_nil)))), ?_⟩
  obtain ⟨p, rs, erd⟩ : ∃ p rs, rd = p :: rs := by
    cases rd with
    | nil => exact absurd rfl p0.ne
    | cons p rs => exact ⟨p, rs, rfl⟩
  have hp1 : p.1.length = w := rd_len p0 (by rw [erd]; exact List.mem_cons_self)
  have hw4 := p0.w4
  have h1 : ((rd.map (·.1)).getD (0 : Int).toNat []).length = w := by rw [erd]; exact hp1
  have h2 : ((rd.map (·.1)).getD (0 : Int).toNat []).length ≤ 100000 := by omega
  have h3 : (0 : Int) < ((rd.map (·.1)).length : Int) := by rw [List.length_map, erd, List.length_cons]; omega
  exact s_ret2 (Ev.is (ev_lenS (ev_ixQ ([] : Row) (q_new (el_keys (g_Dold (ev_var rfl) (by walk_at "facth")))) ev_c (by walk_at "side") (by walk_at "side")) (by walk_at "side")) (by rw [h1])) k

def R_is_row (K : PySem.W.Frag) : List V → Hp → V → Prop := fun vs H z => ∃ (r : Row) (w : Int), AllP [isV (VS r), isV (.int w)] vs H ∧ ((r.length ≤ 40000) ∧ True) ∧ z = .bl (isRow r w)
def sp_is_row (K : PySem.W.Frag) : Sp := spV 2 (R_is_row K)
theorem ev_is_row {K : PySem.W.Frag} {σ : L2.St} {H : Hp} {tr : TA} {E : XK} {r : Row} {w : Int} (h : EvAG tr σ H [isV (VS r), isV (.int w)]) (p0 : r.length ≤ 40000) : Ev (tCallO (sp_is_row K) E tr) σ H (.bl (isRow r w)) := ev_callG h rfl fun vs H1 e hp => ⟨r, w, hp, ⟨p0, trivial⟩, rfl⟩

theorem ok_is_row (T : Txt K mg) : OkF P w K mg base CX0 "is_row" 1 (sp_is_row K) := by
  refine OkF.of T.d_is_row sc_is_row (fun vs H Q E h => h.1) (fun f cdv A outer s H vs Q E hr h => ?_)
  obtain ⟨-, z, H0, e0, ⟨r, w, ⟨v0, r0, rfl, rfl, ⟨v1, r1, rfl, rfl, rfl⟩⟩, ⟨p0, -⟩, rfl⟩, k⟩ := h
  clear e0 H0
  have hu := hu_of hr
  refine ⟨_, (pss_one (ps_ret (pe_and (pe_callB (kcall_isi (K := K)) (by rfl) T.z_isinstance (by decide +kernel) (pa_cons (pv 0) (pa_cons (pe_bltn (v := .ty "str") (by rfl) T.z_str (by decide +kernel) rfl) pa_nil))) (pe_and (pe_cmpR op_eq (pe_callB cb_lenS (by rfl) T.z_len (by decide +kernel) (pa_cons (pv 0) pa_nil)) (pv 1) (nomark _)) (pe_one (pe_callB (kcr_all (K := K) rfl) (by rfl) T.z_all (by decide +kernel) (pa_cons (pe_lc (own := [("sign", 2)]) (g := gName 2) rfl sc_is_row.nd (pi_str (pv 0)) (blkOk_by (N := N_is_row) (sc := defScope s_is_row) (by decide +kernel)) (fun _ _ _ _ _ => (pg_name (i := 2) sc_is_row.nd rfl (.inl rfl))) (fun _ _ _ _ _ => pts_nil) (fun _ _ _ _ _ => (pe_cmpR (kop_in (K := K)) (pv 2) (pe_tup (pa_cons (pe_gs (by rfl) T.c_HOLE) (pa_cons (pe_gs (by rfl) T.c_BLANK) pa_nil))) rfl))) pa_nil))))))), ?_⟩
  exact s_ret2 (Ev.is (ev_andV (ev_isiS (b := true) (ev_var rfl) ev_c (by decide +kernel)) (fun hb8 => (ev_andV (ev_eqI (ev_lenS (ev_var rfl) (by walk_at "side")) (ev_var rfl)) (fun hb7 => (ev_allQ (q_new (el_lc1 (i_str (ev_var rfl)) (by walk_at "len") (fun _ => wipe_one _ _ _) (fun x6 hx6 H106 e106 => (ev_inTS (l := [[111], [46]]) (ev_var rfl) (eu_tup (ea_cons ev_c (ea_cons ev_c ea_nil)) (by simp))))))))))) rfl) k

def R_check_tape (K : PySem.W.Frag) : List V → Hp → V → Prop := fun vs H z => ∃ (w : Nat) (t : List Row), AllP [isV (.int (w : Int)), isL K (Txts t)] vs H ∧ ((TpOk t w) ∧ (w ≤ 4) ∧ True) ∧ z = .non
def sp_check_tape (K : PySem.W.Frag) : Sp := spV 2 (R_check_tape K)
theorem ev_check_tape {K : PySem.W.Frag} {σ : L2.St} {H : Hp} {tr : TA} {E : XK} {w : Nat} {t : List Row} (h : EvAG tr σ H [isV (.int (w : Int)), isL K (Txts t)]) (p0 : TpOk t w) (p1 : w ≤ 4) : Ev (tCallO (sp_check_tape K) E tr) σ H (.non) := ev_callG h rfl fun vs H1 e hp => ⟨w, t, hp, ⟨p0, p1, trivial⟩, rfl⟩

theorem ok_check_tape (T : Txt K mg) : OkF P w K mg base CX0 "check_tape" 2 (sp_check_tape K) := by
  have O_is_row : OkF P w K mg base CX0 "is_row" 1 (sp_is_row K) := ok_is_row T
  refine OkF.of T.d_check_tape sc_check_tape (fun vs H Q E h => h.1) (fun f cdv A outer s H vs Q E hr h => ?_)
  obtain ⟨-, z, H0, e0, ⟨w, t, ⟨v0, r0, rfl, rfl, ⟨v1, r1, rfl, ⟨a1, rfl, q1⟩, rfl⟩⟩, ⟨p0, p1, -⟩, rfl⟩, k⟩ := h
  have h1 := exl e0 q1
  clear q1
  clear e0 H0
  have hu := hu_of hr
  refine ⟨_, (pss_cons (ps_if (pt_not (pt_val (pe_callB (kcall_isi (K := K)) (by rfl) T.z_isinstance (by decide +kernel) (pa_cons (pv 1) (pa_cons (pe_bltn (v := .ty "list") (by rfl) T.z_list (by decide +kernel) rfl) pa_nil)))))
  (pss_one ps_never)
  pss_nil)
 (pss_one (ps_for PassesOwn.never rfl (kpi_enum (K := K) (by rfl) T.z_enumerate (pa_cons (pv 1) pa_nil)) (pg_tup rfl (pgs_cons (pg_name (i := 2) sc_check_tape.nd rfl (.inl rfl)) (pgs_cons (pg_name (i := 3) sc_check_tape.nd rfl (.inl rfl)) pgs_nil)))
  (pss_one (ps_if (PW.pt (pw_or (pt_cmpR op_eq (pv 2) (pe_gi (by rfl) T.c_MOST) (nomark _)) (pw_or1 (pt_not (pt_val (pe_callO O_is_row hr (by rfl) pass0 (pa_cons (pv 3) (pa_cons (pv 0) pa_nil))))))))
  (pss_one ps_never)
  pss_nil))))), ?_⟩
  refine q_skip (EvT.is (et_not (et_B (ev_isiL (b := true) (q_old (ev_var rfl) (by walk_at "fact")) ev_c (by decide +kernel)))) rfl) fun H1 e1 => ?_
  refine s_for (s := []) (i_enum (qa_old (ev_var rfl) (by walk_at "fact") (by walk_at "adm"))) (by simp) fun H2 e2 => ⟨fun i σ' H' => Ex H2 H' ∧ ∃ x y, σ' = [some (.int (w : Int)), some (.ref a1), x, y], ⟨Ex.refl _, none, none, rfl⟩, fun i σ' H' p => Ex.xb p.1, ?_, fun σ' H' p => k H' ((e1.trans e2).trans p.1)⟩
  rintro i ⟨row, n⟩ σ' H' H3 hi ⟨hx, x, y, rfl⟩ e3
  obtain ⟨rfl, hi⟩ := zipIdx_at hi
  have hn := (List.getElem?_eq_some_iff.mp hi).1
  have hlen := p0.len
  have hr := p0.row row (List.mem_of_getElem? hi)
  have hrl : row.length ≤ 40000 := by have := isRow_len hr; omega
  refine s_skip (EvT.is (et_or (et_test (ev_eqI (ev_var rfl) ev_c)) (fun hb9 => (et_not (et_B (ev_is_row (ag_V (ev_var rfl) (ag_V (ev_var rfl) ag_nil)) (by walk_at "side")))))) ?_) fun H4 e4 => ⟨(hx.trans e3).trans e4, _, _, rfl⟩
  simp only [hr, decide_eq_false (show ¬ ((n : Int) = 30) by omega)]
  rfl

def R_meaning (K : PySem.W.Frag) : List V → Hp → V → Prop := fun vs H z => ∃ (rd : Dic) (r : Row), AllP [isD (DS rd), isV (VS r)] vs H ∧ (True) ∧ z = VS (mean rd r)
def sp_meaning (K : PySem.W.Frag) : Sp := spV 2 (R_meaning K)
theorem ev_meaning {K : PySem.W.Frag} {σ : L2.St} {H : Hp} {tr : TA} {E : XK} {rd : Dic} {r : Row} (h : EvAG tr σ H [isD (DS rd), isV (VS r)])  : Ev (tCallO (sp_meaning K) E tr) σ H (VS (mean rd r)) := ev_callG h rfl fun vs H1 e hp => ⟨rd, r, hp, trivial, rfl⟩

theorem ok_meaning (T : Txt K mg) : OkF P w K mg base CX0 "meaning" 1 (sp_meaning K) := by
  refine OkF.of T.d_meaning sc_meaning (fun vs H Q E h => h.1) (fun f cdv A outer s H vs Q E hr h => ?_)
  obtain ⟨-, z, H0, e0, ⟨rd, r, ⟨v0, r0, rfl, ⟨a0, rfl, q0⟩, ⟨v1, r1, rfl, rfl, rfl⟩⟩, -, rfl⟩, k⟩ := h
  have h0 := exh e0 q0
  clear q0
  clear e0 H0
  have hu := hu_of hr
  refine ⟨_, (pss_one (ps_ret (pe_dget2 hu (pv 0) (pv 1) pe_str ⟨rfl, rfl, rfl, rfl⟩))), ?_⟩
  exact s_ret2 (Ev.is (ev_get2 (ev_var rfl) (by walk_at "facth") (ev_var rfl) (ev_cS lit_nil)) rfl) k

def R_text_of (K : PySem.W.Frag) : List V → Hp → V → Prop := fun vs H z => ∃ (rd : Dic) (w : Nat) (t : List Row), AllP [isD (DS rd), isL K (Txts t)] vs H ∧ ((RdOk rd w) ∧ (t.length ≤ 40000) ∧ True) ∧ z = VS (textOf rd t)
def sp_text_of (K : PySem.W.Frag) : Sp := spV 2 (R_text_of K)
theorem ev_text_of {K : PySem.W.Frag} {σ : L2.St} {H : Hp} {tr : TA} {E : XK} {rd : Dic} {w : Nat} {t : List Row} (h : EvAG tr σ H [isD (DS rd), isL K (Txts t)]) (p0 : RdOk rd w) (p1 : t.length ≤ 40000) : Ev (tCallO (sp_text_of K) E tr) σ H (VS (textOf rd t)) := ev_callG h rfl fun vs H1 e hp => ⟨rd, w, t, hp, ⟨p0, p1, trivial⟩, rfl⟩

theorem ok_text_of (T : Txt K mg) : OkF P w K mg base CX0 "text_of" 2 (sp_text_of K) := by
  have O_meaning : OkF P w K mg base CX0 "meaning" 1 (sp_meaning K) := ok_meaning T
  refine OkF.of T.d_text_of sc_text_of (fun vs H Q E h => h.1) (fun f cdv A outer s H vs Q E hr h => ?_)
  obtain ⟨-, z, H0, e0, ⟨rd, w, t, ⟨v0, r0, rfl, ⟨a0, rfl, q0⟩, ⟨v1, r1, rfl, ⟨a1, rfl, q1⟩, rfl⟩⟩, ⟨p0, p1, -⟩, rfl⟩, k⟩ := h
  have h0 := exh e0 q0
  clear q0
  have h1 := exl e0 q1
  clear q1
  clear e0 H0
  have hu := hu_of hr
  refine ⟨_, (pss_one (ps_ret (kpe_joinQ (K := K) pe_str (pe_lc (own := [("row", 2)]) (g := gName 2) rfl sc_text_of.nd (kpi_list (K := K) (pv 1)) (blkOk_by (N := N_text_of) (sc := defScope s_text_of) (by decide +kernel)) (fun _ _ _ _ _ => (pg_name (i := 2) sc_text_of.nd rfl (.inl rfl))) (fun _ _ _ _ _ => pts_nil) (fun _ _ _ _ _ => (pe_callO O_meaning hr (by rfl) pass0 (pa_cons (pv 0) (pa_cons (pv 2) pa_nil)))))))), ?_⟩
  have hz : (t.map (mean rd)).flatten.length ≤ 100000 := by have := textOf_len p0 t; omega
  exact s_ret2 (Ev.is (ev_joinQ (ev_cS lit_nil) (q_new (el_lc1 (i_list (qa_old (ev_var rfl) (by walk_at "fact") trivial)) (by walk_at "len") (fun _ => wipe_one _ _ _) (fun x10 hx10 H110 e110 => (ev_meaning (ag_D (g_Dold (ev_var rfl) (by walk_at "facth")) (ag_V (ev_var rfl) ag_nil)))))) (by walk_at "len")) rfl) k

def R_is_letter (K : PySem.W.Frag) : List V → Hp → V → Prop := fun vs H z => ∃ (c : Nat), AllP [isV (VS [c])] vs H ∧ (True) ∧ z = .bl (isLet [c])
def sp_is_letter (K : PySem.W.Frag) : Sp := spV 1 (R_is_letter K)
theorem ev_is_letter {K : PySem.W.Frag} {σ : L2.St} {H : Hp} {tr : TA} {E : XK} {c : Nat} (h : EvAG tr σ H [isV (VS [c])])  : Ev (tCallO (sp_is_letter K) E tr) σ H (.bl (isLet [c])) := ev_callG h rfl fun vs H1 e hp => ⟨c, hp, trivial, rfl⟩

theorem ok_is_letter (T : Txt K mg) : OkF P w K mg base CX0 "is_letter" 1 (sp_is_letter K) := by
  refine OkF.of T.d_is_letter sc_is_letter (fun vs H Q E h => h.1) (fun f cdv A outer s H vs Q E hr h => ?_)
  obtain ⟨-, z, H0, e0, ⟨c, ⟨v0, r0, rfl, rfl, rfl⟩, -, rfl⟩, k⟩ := h
  clear e0 H0
  have hu := hu_of hr
  refine ⟨_, (pss_one (ps_ret (pe_and (pe_callB (kcall_isi (K := K)) (by rfl) T.z_isinstance (by decide +kernel) (pa_cons (pv 0) (pa_cons (pe_bltn (v := .ty "str") (by rfl) T.z_str (by decide +kernel) rfl) pa_nil))) (pe_and (pe_cmpR op_eq (pe_callB cb_lenS (by rfl) T.z_len (by decide +kernel) (pa_cons (pv 0) pa_nil)) pe_int (nomark _)) (pe_one (pe_cmpR op_inC (pv 0) (pe_gs (by rfl) T.c_LETTERS) rfl)))))), ?_⟩
  exact s_ret2 (Ev.is (ev_andV (ev_isiS (b := true) (ev_var rfl) ev_c (by decide +kernel)) (fun hb12 => (ev_andV (ev_eqI (ev_lenS (ev_var rfl) (by walk_at "side")) ev_c) (fun hb11 => (ev_inC (ev_var rfl) ev_c))))) rfl) k

def R_width_of (K : PySem.W.Frag) : List V → Hp → V → Prop := fun vs H z => ∃ (rd : Dic) (w : Nat), AllP [isD (DS rd)] vs H ∧ ((RdOk rd w) ∧ True) ∧ z = .int (w : Int)
def sp_width_of (K : PySem.W.Frag) : Sp := spV 1 (R_width_of K)
theorem ev_width_of {K : PySem.W.Frag} {σ : L2.St} {H : Hp} {tr : TA} {E : XK} {rd : Dic} {w : Nat} (h : EvAG tr σ H [isD (DS rd)]) (p0 : RdOk rd w) : Ev (tCallO (sp_width_of K) E tr) σ H (.int (w : Int)) := ev_callG h rfl fun vs H1 e hp => ⟨rd, w, hp, ⟨p0, trivial⟩, rfl⟩

theorem ok_width_of (T : Txt K mg) : OkF P w K mg base CX0 "width_of" 2 (sp_width_of K) := by
  have O_is_row : OkF P w K mg base CX0 "is_row" 1 (sp_is_row K) := ok_is_row T
  have O_is_letter : OkF P w K mg base CX0 "is_letter" 1 (sp_is_letter K) := ok_is_letter T
  refine OkF.of T.d_width_of sc_width_of (fun vs H Q E h => h.1) (fun f cdv A outer s H vs Q E hr h => ?_)
  obtain ⟨-, z, H0, e0, ⟨rd, w, ⟨v0, r0, rfl, ⟨a0, rfl, q0⟩, rfl⟩, ⟨p0, -⟩, rfl⟩, k⟩ := h
  have h0 := exh e0 q0
  clear q0
  clear e0 H0
  have hu := hu_of hr
  refine ⟨_, (pss_cons (ps_if (PW.pt (pw_or (pt_not (pt_val (pe_callB (kcall_isi (K := K)) (by rfl) T.z_isinstance (by decide +kernel) (pa_cons (pv 0) (pa_cons (pe_bltn (v := .ty "dict") (by rfl) T.z_dict (by decide +kernel) rfl) pa_nil))))) (pw_or1 (pt_cmpR (op_eq_dict hr.units0) (pv 0) pe_dnewK (nomark _)))))
  (pss_one ps_never)
  pss_nil)
 (pss_cons (ps_set (i := 1) sc_width_of.nd rfl (.inl rfl) (pe_ix (kix_list (K := K)) (pe_callTy (call_list_dK rfl) (by rfl) T.z_list (by decide +kernel) (pa_cons (pv 0) pa_nil)) pe_int (fun _ _ => rfl)))
 (pss_cons (ps_set (i := 4) sc_width_of.nd rfl (.inl rfl) (pe_ifExp (pt_val (pe_callB (kcall_isi (K := K)) (by rfl) T.z_isinstance (by decide +kernel) (pa_cons (pv 1) (pa_cons (pe_bltn (v := .ty "str") (by rfl) T.z_str (by decide +kernel) rfl) pa_nil)))) (pe_callB cb_lenS (by rfl) T.z_len (by decide +kernel) (pa_cons (pv 1) pa_nil)) pe_int))
 (pss_cons (ps_lock (ps_for PassesOwn.never rfl (pi_items (pv 0)) (pg_tup rfl (pgs_cons (pg_name (i := 3) sc_width_of.nd rfl (.inl rfl)) (pgs_cons (pg_name (i := 2) sc_width_of.nd rfl (.inl rfl)) pgs_nil)))
  (pss_one (ps_if (PW.pt (pw_or (pt_not (pt_chain op_le op_le pe_int (pv 4) (pe_gi (by rfl) T.c_WIDEST))) (pw_or (pt_not (pt_val (pe_callO O_is_row hr (by rfl) pass0 (pa_cons (pv 3) (pa_cons (pv 4) pa_nil))))) (pw_or (pt_cmpR op_ninC (pe_gs (by rfl) T.c_BLANK) (pv 3) rfl) (pw_or1 (pt_not (pt_val (pe_callO O_is_letter hr (by rfl) pass0 (pa_cons (pv 2) pa_nil)))))))))
  (pss_one ps_never)
  pss_nil))))
 (pss_one (ps_ret (pv 4))))))), ?_⟩
  have hl : 0 < rd.length := List.length_pos_iff.mpr p0.ne
  have hne : rd.map (·.1) ≠ [] := by simpa using p0.ne
  obtain ⟨p, rs, erd⟩ : ∃ p rs, rd = p :: rs := by
    cases rd with
    | nil => exact absurd rfl p0.ne
    | cons p rs => exact ⟨p, rs, rfl⟩
  have hp1 : p.1.length = w := rd_len p0 (by rw [erd]; exact List.mem_cons_self)
  have hw4 := p0.w4
  have h1 : ((rd.map (·.1)).getD (0 : Int).toNat []).length = w := by rw [erd]; exact hp1
  have h2 : ((rd.map (·.1)).getD (0 : Int).toNat []).length ≤ 100000 := by omega
  have h3 : (0 : Int) < ((rd.map (·.1)).length : Int) := by rw [List.length_map]; omega
  have hd0 : dEq rd [] = false := by rw [erd]; rfl
  refine q_skip (EvT.is (et_or (et_not (et_B (ev_isiD (b := true) (g_Dold (ev_var rfl) (by walk_at "facth")) ev_c (by decide +kernel)))) (fun hb13 => (et_test (ev_eqD (g_Dold (ev_var rfl) (by walk_at "facth")) (g_D ed_newS))))) (by rw [hd0]; rfl)) fun H1 e1 => ?_
  refine q_asg (ev_ixQ ([] : Row) (q_new (el_keys (g_Dold (ev_var rfl) (by walk_at "facth")))) ev_c (by walk_at "side") (by walk_at "side")) fun H2 e2 => ?_
  refine q_asg (Ev.is (ev_ifI (et_B (ev_isiS (b := true) (ev_var rfl) ev_c (by decide +kernel))) (fun hb14 => (ev_lenS (ev_var rfl) (by walk_at "side"))) (fun hb14 => ev_c)) (by rw [if_pos rfl, h1])) fun H3 e3 => ?_
  refine q_items (r := rd) (d := a0) (Pv := fun i σ' => ∃ x y, σ' = [some (.ref a0), some (VS ((rd.map (·.1)).getD (0 : Int).toNat [])), x, y, some (.int (w : Int))]) (by walk_at "facth") (fun od => ev_var rfl) ⟨none, none, rfl⟩ ?_ fun σ' H' e4 hp => ?_
  · rintro od i ⟨row, letter⟩ σ' H' hi ⟨x, y, rfl⟩ hx
    have hm := List.mem_of_getElem? hi
    obtain ⟨c, ec, hc1, hc2⟩ := isLet_one (p0.lt _ hm)
    have ec : letter = [c] := ec
    subst ec
    have hr := p0.row _ hm
    have hb : 46 ∈ row := p0.bl _ hm
    have hrl : row.length ≤ 40000 := by have := rd_len p0 hm; simp only at this; omega
    refine s_skip (EvT.is (et_or (et_not (et_test (ev_chain ev_c (ev_var rfl) ev_c))) (fun hb17 => (et_or (et_not (et_B (ev_is_row (ag_V (ev_var rfl) (ag_V (ev_var rfl) ag_nil)) (by walk_at "side")))) (fun hb16 => (et_or (et_test (ev_ninC ev_c (ev_var rfl))) (fun hb15 => (et_not (et_B (ev_is_letter (ag_V (ev_var rfl) ag_nil)))))))))) ?_) fun H4 e4 => ⟨hx.trans e4, some (VS [c]), some (VS row), rfl⟩
    have hw1 := p0.w1
    have hlt := p0.lt _ hm
    simp only at hr hlt
    simp only [hr, hlt, hb, decide_eq_true (show (1 : Int) ≤ (w : Int) by omega), decide_eq_true (show (w : Int) ≤ 4 by omega)]
    rfl
  · obtain ⟨x, y, rfl⟩ := hp
    exact s_ret2 (ev_var rfl) (RetV.ex k (by walk_at "exs"))

def R_read_tape (K : PySem.W.Frag) : List V → Hp → V → Prop := fun vs H z => ∃ (rd : Dic) (w : Nat) (t : List Row), AllP [isD (DS rd), isL K (Txts t)] vs H ∧ ((RdOk rd w) ∧ (TpOk t w) ∧ True) ∧ z = VS (textOf rd t)
def sp_read_tape (K : PySem.W.Frag) : Sp := spV 2 (R_read_tape K)
theorem ev_read_tape {K : PySem.W.Frag} {σ : L2.St} {H : Hp} {tr : TA} {E : XK} {rd : Dic} {w : Nat} {t : List Row} (h : EvAG tr σ H [isD (DS rd), isL K (Txts t)]) (p0 : RdOk rd w) (p1 : TpOk t w) : Ev (tCallO (sp_read_tape K) E tr) σ H (VS (textOf rd t)) := ev_callG h rfl fun vs H1 e hp => ⟨rd, w, t, hp, ⟨p0, p1, trivial⟩, rfl⟩

theorem ok_read_tape (T : Txt K mg) : OkF P w K mg base CX0 "read_tape" 3 (sp_read_tape K) := by
  have O_check_tape : OkF P w K mg base CX0 "check_tape" 2 (sp_check_tape K) := ok_check_tape T
  have O_text_of : OkF P w K mg base CX0 "text_of" 2 (sp_text_of K) := ok_text_of T
  have O_width_of : OkF P w K mg base CX0 "width_of" 2 (sp_width_of K) := ok_width_of T
  refine OkF.of T.d_read_tape sc_read_tape (fun vs H Q E h => h.1) (fun f cdv A outer s H vs Q E hr h => ?_)
  obtain ⟨-, z, H0, e0, ⟨rd, w, t, ⟨v0, r0, rfl, ⟨a0, rfl, q0⟩, ⟨v1, r1, rfl, ⟨a1, rfl, q1⟩, rfl⟩⟩, ⟨p0, p1, -⟩, rfl⟩, k⟩ := h
  have h0 := exh e0 q0
  clear q0
  have h1 := exl e0 q1
  clear q1
  clear e0 H0
  have hu := hu_of hr
  refine ⟨_, (pss_cons (ps_expr (pe_callO O_check_tape hr (by rfl) pass0 (pa_cons (pe_callO O_width_of hr (by rfl) pass0 (pa_cons (pv 0) pa_nil)) (pa_cons (pv 1) pa_nil))))
 (pss_one (ps_ret (pe_callO O_text_of hr (by rfl) pass0 (pa_cons (pv 0) (pa_cons (pv 1) pa_nil)))))), ?_⟩
  have hw := p0.w4
  have hl : t.length ≤ 40000 := by have := p1.len; omega
  refine q_drop (ev_check_tape (ag_V (ev_width_of (ag_D (g_Dold (ev_var rfl) (by walk_at "facth")) ag_nil) (by walk_at "side")) (ag_L (q_old (ev_var rfl) (by walk_at "fact")) ag_nil)) (by walk_at "side") (by walk_at "side")) fun H1 e1 => ?_
  exact s_ret2 (ev_text_of (ag_D (g_Dold (ev_var rfl) (by walk_at "facth")) (ag_L (q_old (ev_var rfl) (by walk_at "fact")) ag_nil)) (by walk_at "side") (by walk_at "side")) (RetV.ex k e1)

def R_holes (K : PySem.W.Frag) : List V → Hp → V → Prop := fun vs H z => ∃ (rd : Dic) (w : Nat) (t : List Row), AllP [isD (DS rd), isL K (Txts t)] vs H ∧ ((RdOk rd w) ∧ (TpOk t w) ∧ True) ∧ z = .int (holesOf t)
def sp_holes (K : PySem.W.Frag) : Sp := spV 2 (R_holes K)
theorem ev_holes {K : PySem.W.Frag} {σ : L2.St} {H : Hp} {tr : TA} {E : XK} {rd : Dic} {w : Nat} {t : List Row} (h : EvAG tr σ H [isD (DS rd), isL K (Txts t)]) (p0 : RdOk rd w) (p1 : TpOk t w) : Ev (tCallO (sp_holes K) E tr) σ H (.int (holesOf t)) := ev_callG h rfl fun vs H1 e hp => ⟨rd, w, t, hp, ⟨p0, p1, trivial⟩, rfl⟩

theorem ok_holes (T : Txt K mg) : OkF P w K mg base CX0 "holes" 3 (sp_holes K) := by
  have O_check_tape : OkF P w K mg base CX0 "check_tape" 2 (sp_check_tape K) := ok_check_tape T
  have O_width_of : OkF P w K mg base CX0 "width_of" 2 (sp_width_of K) := ok_width_of T
  refine OkF.of T.d_holes sc_holes (fun vs H Q E h => h.1) (fun f cdv A outer s H vs Q E hr h => ?_)
  obtain ⟨-, z, H0, e0, ⟨rd, w, t, ⟨v0, r0, rfl, ⟨a0, rfl, q0⟩, ⟨v1, r1, rfl, ⟨a1, rfl, q1⟩, rfl⟩⟩, ⟨p0, p1, -⟩, rfl⟩, k⟩ := h
  have h0 := exh e0 q0
  clear q0
  have h1 := exl e0 q1
  clear q1
  clear e0 H0
  have hu := hu_of hr
  refine ⟨_, (pss_cons (ps_expr (pe_callO O_check_tape hr (by rfl) pass0 (pa_cons (pe_callO O_width_of hr (by rfl) pass0 (pa_cons (pv 0) pa_nil)) (pa_cons (pv 1) pa_nil))))
 (pss_one (ps_ret (pe_callB (kcr_sum (K := K) rfl) (by rfl) T.z_sum (by decide +kernel) (pa_cons (pe_lc (own := [("row", 2)]) (g := gName 2) rfl sc_holes.nd (kpi_list (K := K) (pv 1)) (blkOk_by (N := N_holes) (sc := defScope s_holes) (by decide +kernel)) (fun _ _ _ _ _ => (pg_name (i := 2) sc_holes.nd rfl (.inl rfl))) (fun _ _ _ _ _ => pts_nil) (fun _ _ _ _ _ => (pe_m1 PySem.F.slot_str_count PySem.F.type_str_count mt_countS (pv 2) (pe_gs (by rfl) T.c_HOLE)))) pa_nil))))), ?_⟩
  have hw := p0.w4
  have hl : t.length ≤ 40000 := by have := p1.len; omega
  refine q_drop (ev_check_tape (ag_V (ev_width_of (ag_D (g_Dold (ev_var rfl) (by walk_at "facth")) ag_nil) (by walk_at "side")) (ag_L (q_old (ev_var rfl) (by walk_at "fact")) ag_nil)) (by walk_at "side") (by walk_at "side")) fun H1 e1 => ?_
  exact s_ret2 (Ev.is (ev_sumQ (q_new (el_lc1 (i_list (qa_old (ev_var rfl) (by walk_at "fact") trivial)) (by walk_at "len") (fun _ => wipe_one _ _ _) (fun x18 hx18 H118 e118 => (ev_count (ev_var rfl) ev_c))))) rfl) (RetV.ex k e1)

def R__law_means (K : PySem.W.Frag) : List V → Hp → V → Prop := fun vs H z => ∃ (rd : Dic) (r : Row), AllP [isD (DS rd), isV (VS r)] vs H ∧ (True) ∧ z = VS (mean rd r)
def sp__law_means (K : PySem.W.Frag) : Sp := spV 2 (R__law_means K)
theorem ev__law_means {K : PySem.W.Frag} {σ : L2.St} {H : Hp} {tr : TA} {E : XK} {rd : Dic} {r : Row} (h : EvAG tr σ H [isD (DS rd), isV (VS r)])  : Ev (tCallO (sp__law_means K) E tr) σ H (VS (mean rd r)) := ev_callG h rfl fun vs H1 e hp => ⟨rd, r, hp, trivial, rfl⟩

theorem ok__law_means (T : Txt K mg) : OkF P w K mg base CX0 "_law_means" 1 (sp__law_means K) := by
  refine OkF.of T.d__law_means sc__law_means (fun vs H Q E h => h.1) (fun f cdv A outer s H vs Q E hr h => ?_)
  obtain ⟨-, z, H0, e0, ⟨rd, r, ⟨v0, r0, rfl, ⟨a0, rfl, q0⟩, ⟨v1, r1, rfl, rfl, rfl⟩⟩, -, rfl⟩, k⟩ := h
  have h0 := exh e0 q0
  clear q0
  clear e0 H0
  have hu := hu_of hr
  refine ⟨_, (pss_one (ps_ret (pe_ifExp (pt_cmp (pc_din hu (pv 1) (pv 0))) (pe_dget hu (pv 0) (pv 1) (fun _ _ => rfl)) pe_str))), ?_⟩
  refine s_ret2 (Ev.is (ev_ifS (et_B (ev_din (ev_var rfl) (ev_var rfl) (by walk_at "facth"))) (fun hb19 => (ev_dget (ev_var rfl) (by walk_at "facth") (ev_var rfl) (by walk_at "side"))) (fun hb19 => (ev_cS lit_nil))) ?_) k
  unfold mean
  cases look rd r <;> rfl

def R__law_reads (K : PySem.W.Frag) : List V → Hp → V → Prop := fun vs H z => ∃ (rd : Dic) (w : Nat) (t : List Row), AllP [isD (DS rd), isL K (Txts t)] vs H ∧ ((RdOk rd w) ∧ (t.length ≤ 30) ∧ True) ∧ z = VS (textOf rd t)
def sp__law_reads (K : PySem.W.Frag) : Sp := spV 2 (R__law_reads K)
theorem ev__law_reads {K : PySem.W.Frag} {σ : L2.St} {H : Hp} {tr : TA} {E : XK} {rd : Dic} {w : Nat} {t : List Row} (h : EvAG tr σ H [isD (DS rd), isL K (Txts t)]) (p0 : RdOk rd w) (p1 : t.length ≤ 30) : Ev (tCallO (sp__law_reads K) E tr) σ H (VS (textOf rd t)) := ev_callG h rfl fun vs H1 e hp => ⟨rd, w, t, hp, ⟨p0, p1, trivial⟩, rfl⟩

theorem ok__law_reads (T : Txt K mg) : OkF P w K mg base CX0 "_law_reads" 2 (sp__law_reads K) := by
  have O__law_means : OkF P w K mg base CX0 "_law_means" 1 (sp__law_means K) := ok__law_means T
  refine OkF.of T.d__law_reads sc__law_reads (fun vs H Q E h => h.1) (fun f cdv A outer s H vs Q E hr h => ?_)
  obtain ⟨-, z, H0, e0, ⟨rd, w, t, ⟨v0, r0, rfl, ⟨a0, rfl, q0⟩, ⟨v1, r1, rfl, ⟨a1, rfl, q1⟩, rfl⟩⟩, ⟨p0, p1, -⟩, rfl⟩, k⟩ := h
  have h0 := exh e0 q0
  clear q0
  have h1 := exl e0 q1
  clear q1
  clear e0 H0
  have hu := hu_of hr
  refine ⟨_, (pss_one (ps_ret (kpe_joinQ (K := K) pe_str (pe_lc (own := [("_law_row", 2)]) (g := gName 2) rfl sc__law_reads.nd (kpi_list (K := K) (pv 1)) (blkOk_by (N := N__law_reads) (sc := defScope s__law_reads) (by decide +kernel)) (fun _ _ _ _ _ => (pg_name (i := 2) sc__law_reads.nd rfl (.inl rfl))) (fun _ _ _ _ _ => pts_nil) (fun _ _ _ _ _ => (pe_callO O__law_means hr (by rfl) pass0 (pa_cons (pv 0) (pa_cons (pv 2) pa_nil)))))))), ?_⟩
  have hz : (t.map (mean rd)).flatten.length ≤ 100000 := by have := textOf_len p0 t; omega
  exact s_ret2 (Ev.is (ev_joinQ (ev_cS lit_nil) (q_new (el_lc1 (i_list (qa_old (ev_var rfl) (by walk_at "fact") trivial)) (by walk_at "len") (fun _ => wipe_one _ _ _) (fun x20 hx20 H120 e120 => (ev__law_means (ag_D (g_Dold (ev_var rfl) (by walk_at "facth")) (ag_V (ev_var rfl) ag_nil)))))) (by walk_at "len")) rfl) k

def R__law_holes (K : PySem.W.Frag) : List V → Hp → V → Prop := fun vs H z => ∃ (t : List Row) (w : Nat), AllP [isL K (Txts t)] vs H ∧ ((TpOk t w) ∧ (w ≤ 4) ∧ True) ∧ z = .int (holesOf t)
def sp__law_holes (K : PySem.W.Frag) : Sp := spV 1 (R__law_holes K)
theorem ev__law_holes {K : PySem.W.Frag} {σ : L2.St} {H : Hp} {tr : TA} {E : XK} {t : List Row} {w : Nat} (h : EvAG tr σ H [isL K (Txts t)]) (p0 : TpOk t w) (p1 : w ≤ 4) : Ev (tCallO (sp__law_holes K) E tr) σ H (.int (holesOf t)) := ev_callG h rfl fun vs H1 e hp => ⟨t, w, hp, ⟨p0, p1, trivial⟩, rfl⟩

theorem ok__law_holes (T : Txt K mg) : OkF P w K mg base CX0 "_law_holes" 1 (sp__law_holes K) := by
  refine OkF.of T.d__law_holes sc__law_holes (fun vs H Q E h => h.1) (fun f cdv A outer s H vs Q E hr h => ?_)
  obtain ⟨-, z, H0, e0, ⟨t, w, ⟨v0, r0, rfl, ⟨a0, rfl, q0⟩, rfl⟩, ⟨p0, p1, -⟩, rfl⟩, k⟩ := h
  have h0 := exl e0 q0
  clear q0
  clear e0 H0
  have hu := hu_of hr
  refine ⟨_, (pss_one (ps_ret (pe_callB (kcr_sum (K := K) rfl) (by rfl) T.z_sum (by decide +kernel) (pa_cons (pe_lc (own := [("_law_row", 1)]) (g := gName 1) rfl sc__law_holes.nd (kpi_list (K := K) (pv 0)) (blkOk_by (N := N__law_holes) (sc := defScope s__law_holes) (by decide +kernel)) (fun _ _ _ _ _ => (pg_name (i := 1) sc__law_holes.nd rfl (.inl rfl))) (fun _ _ _ _ _ => pts_nil) (fun _ _ _ _ _ => (pe_callB (kcb_lenQ (K := K)) (by rfl) T.z_len (by decide +kernel) (pa_cons (pe_lc (own := [("_law_sign", 2)]) (g := gName 2) rfl sc__law_holes.nd (pi_str (pv 1)) (blkOk_by (N := N__law_holes) rfl) (fun _ _ _ _ _ => (pg_name (i := 2) sc__law_holes.nd rfl (.inl rfl))) (fun _ _ _ _ _ => (pts_one (pt_cmpR op_eq (pv 2) pe_str (nomark _)))) (fun _ _ _ _ _ => (pv 2))) pa_nil)))) pa_nil)))), ?_⟩
  have hl : t.length ≤ 30 := p0.len
  have hr : ∀ r ∈ t, r.length ≤ 40000 := fun r h => by have := isRow_len (p0.row r h); omega
  refine s_ret2 (Ev.is (ev_sumQ (q_new (el_lc1 (i_list (qa_old (ev_var rfl) (by walk_at "fact") trivial)) (by walk_at "len") (fun _ => wipe_one _ _ _) (fun x21 hx21 H121 e121 => (ev_lenQ (q_new (el_lc (i_str (ev_var rfl)) (by walk_at "len") (fun _ => wipe_one _ _ _) (fun x22 hx22 H122 e122 => (et_test (ev_eqS (ev_var rfl) (ev_cS lit_o)))) (fun x22 hx22 hy22 H122 e122 => (ev_var rfl))))))))) ?_) k
  unfold holesOf
  refine congrArg V.int (congrArg List.sum (List.map_congr_left fun r _ => ?_))
  rw [List.count_eq_countP, List.countP_eq_length_filter]
  refine congrArg (fun l : List Nat => (l.length : Int)) (List.filter_congr fun c _ => ?_)
  by_cases h : c = 111 <;> simp [h]

def R__law_one_right (K : PySem.W.Frag) : List V → Hp → V → Prop := fun vs H z => ∃ (rd : Dic) (w : Nat) (t : List Row), AllP [isD (DS rd), isL K (Txts t)] vs H ∧ ((RdOk rd w) ∧ (TpOk t w) ∧ True) ∧ z = .bl true
def sp__law_one_right (K : PySem.W.Frag) : Sp := spV 2 (R__law_one_right K)
theorem ev__law_one_right {K : PySem.W.Frag} {σ : L2.St} {H : Hp} {tr : TA} {E : XK} {rd : Dic} {w : Nat} {t : List Row} (h : EvAG tr σ H [isD (DS rd), isL K (Txts t)]) (p0 : RdOk rd w) (p1 : TpOk t w) : Ev (tCallO (sp__law_one_right K) E tr) σ H (.bl true) := ev_callG h rfl fun vs H1 e hp => ⟨rd, w, t, hp, ⟨p0, p1, trivial⟩, rfl⟩

theorem ok__law_one_right (T : Txt K mg) : OkF P w K mg base CX0 "_law_one_right" 4 (sp__law_one_right K) := by
  have O_read_tape : OkF P w K mg base CX0 "read_tape" 3 (sp_read_tape K) := ok_read_tape T
  have O_holes : OkF P w K mg base CX0 "holes" 3 (sp_holes K) := ok_holes T
  have O__law_reads : OkF P w K mg base CX0 "_law_reads" 2 (sp__law_reads K) := ok__law_reads T
  have O__law_holes : OkF P w K mg base CX0 "_law_holes" 1 (sp__law_holes K) := ok__law_holes T
  refine OkF.of T.d__law_one_right sc__law_one_right (fun vs H Q E h => h.1) (fun f cdv A outer s H vs Q E hr h => ?_)
  obtain ⟨-, z, H0, e0, ⟨rd, w, t, ⟨v0, r0, rfl, ⟨a0, rfl, q0⟩, ⟨v1, r1, rfl, ⟨a1, rfl, q1⟩, rfl⟩⟩, ⟨p0, p1, -⟩, rfl⟩, k⟩ := h
  have h0 := exh e0 q0
  clear q0
  have h1 := exl e0 q1
  clear q1
  clear e0 H0
  have hu := hu_of hr
  refine ⟨_, (pss_cons (ps_par (i := 3) (j := 2) rfl sc__law_one_right.nd rfl rfl (by decide) rfl rfl (pa_cons (pe_callTy (kct_list (K := K)) (by rfl) T.z_list (by decide +kernel) (pa_cons (pv 1) pa_nil)) (pa_cons (pe_callTy ct_dict (by rfl) T.z_dict (by decide +kernel) (pa_cons (pv 0) pa_nil)) pa_nil)) (by rfl))
 (pss_cons (ps_par (i := 5) (j := 4) rfl sc__law_one_right.nd rfl rfl (by decide) rfl rfl (pa_cons (pe_callO O_read_tape hr (by rfl) pass0 (pa_cons (pv 2) (pa_cons (pv 3) pa_nil))) (pa_cons (pe_callO O_holes hr (by rfl) pass0 (pa_cons (pv 2) (pa_cons (pv 3) pa_nil))) pa_nil)) (by rfl))
 (pss_cons (ps_if (PW.pt (pw_or (pt_not (pt_val (pe_callB (kcall_isi (K := K)) (by rfl) T.z_isinstance (by decide +kernel) (pa_cons (pv 5) (pa_cons (pe_bltn (v := .ty "str") (by rfl) T.z_str (by decide +kernel) rfl) pa_nil))))) (pw_or (pt_cmpR op_ne (pv 5) (pe_callO O__law_reads hr (by rfl) pass0 (pa_cons (pv 0) (pa_cons (pv 1) pa_nil))) (nomark _)) (pw_or (pt_cmpR (kop_neD (K := K) hr.units) (pv 3) (pv 1) (nomark _)) (pw_or1 (pt_cmpR (op_ne_dict hr.units0) (pv 2) (pv 0) (nomark _)))))))
  (pss_one (ps_ret pe_bl))
  pss_nil)
 (pss_one (ps_ret (pe_and (pe_callB (kcall_isi (K := K)) (by rfl) T.z_isinstance (by decide +kernel) (pa_cons (pv 4) (pa_cons (pe_bltn (v := .ty "int") (by rfl) T.z_int (by decide +kernel) rfl) pa_nil))) (pe_and (pe_not (pe_callB (kcall_isi (K := K)) (by rfl) T.z_isinstance (by decide +kernel) (pa_cons (pv 4) (pa_cons (pe_bltn (v := .ty "bool") (by rfl) T.z_bool (by decide +kernel) rfl) pa_nil)))) (pe_one (pe_cmpR op_eq (pv 4) (pe_callO O__law_holes hr (by rfl) pass0 (pa_cons (pv 1) pa_nil)) (nomark _)))))))))), ?_⟩
  have hw := p0.w4
  have hl : t.length ≤ 30 := p1.len
  have hsm := p1.small
  have heq := dEq_self p0.nd
  refine q_par (ag_NL (el_listQ (q_old (ev_var rfl) (by walk_at "fact"))) (ag_ND (ed_dict (g_Dold (ev_var rfl) (by walk_at "facth"))) ag_nil)) fun v1 v2 H1 e1 g1 g2 => ?_
  obtain ⟨p, rfl, hp0, hp⟩ := g1
  obtain ⟨d, rfl, hd0, hd⟩ := g2
  refine q_par (ag_V (ev_read_tape (ag_D (g_Dold (ev_var rfl) (by walk_at "facth")) (ag_L (q_old (ev_var rfl) (by walk_at "fact")) ag_nil)) (by walk_at "side") (by walk_at "side")) (ag_V (ev_holes (ag_D (g_Dold (ev_var rfl) (by walk_at "facth")) (ag_L (q_old (ev_var rfl) (by walk_at "fact")) ag_nil)) (by walk_at "side") (by walk_at "side")) ag_nil)) fun v1 v2 H2 e2 g1 g2 => ?_
  obtain rfl := g1
  obtain rfl := g2
  refine q_skip (EvT.is (et_or (et_not (et_B (ev_isiS (b := true) (ev_var rfl) ev_c (by decide +kernel)))) (fun hb25 => (et_or (et_test (ev_neS (ev_var rfl) (ev__law_reads (ag_D (g_Dold (ev_var rfl) (by walk_at "facth")) (ag_L (q_old (ev_var rfl) (by walk_at "fact")) ag_nil)) (by walk_at "side") (by walk_at "side")))) (fun hb24 => (et_or (et_test (ev_neLS (q_old (ev_var rfl) (by walk_at "fact")) (q_old (ev_var rfl) (by walk_at "fact")) (by walk_at "side") (by walk_at "side"))) (fun hb23 => (et_test (ev_neD (g_Dold (ev_var rfl) (by walk_at "facth")) (g_Dold (ev_var rfl) (by walk_at "facth")))))))))) (by simp [heq])) fun H3 e3 => ?_
  exact s_ret2 (Ev.is (ev_andV (ev_isiI (b := true) (ev_var rfl) ev_c (by decide +kernel)) (fun hb27 => (ev_andV (ev_notV (ev_isiI (b := false) (ev_var rfl) ev_c (by decide +kernel))) (fun hb26 => (ev_eqI (ev_var rfl) (ev__law_holes (ag_L (q_old (ev_var rfl) (by walk_at "fact")) ag_nil) (by walk_at "side") (by walk_at "side"))))))) (by simp)) (RetV.ex k ((e1.trans e2).trans e3))

def R_check_two (K : PySem.W.Frag) : List V → Hp → V → Prop := fun vs H z => ∃ (w : Nat) (t o : List Row), AllP [isV (.int (w : Int)), isL K (Txts t), isL K (Txts o)] vs H ∧ ((TpOk t w) ∧ (TpOk o w) ∧ (w ≤ 4) ∧ (t.length = o.length) ∧ True) ∧ z = .non
def sp_check_two (K : PySem.W.Frag) : Sp := spV 3 (R_check_two K)
theorem ev_check_two {K : PySem.W.Frag} {σ : L2.St} {H : Hp} {tr : TA} {E : XK} {w : Nat} {t o : List Row} (h : EvAG tr σ H [isV (.int (w : Int)), isL K (Txts t), isL K (Txts o)]) (p0 : TpOk t w) (p1 : TpOk o w) (p2 : w ≤ 4) (p3 : t.length = o.length) : Ev (tCallO (sp_check_two K) E tr) σ H (.non) := ev_callG h rfl fun vs H1 e hp => ⟨w, t, o, hp, ⟨p0, p1, p2, p3, trivial⟩, rfl⟩

theorem ok_check_two (T : Txt K mg) : OkF P w K mg base CX0 "check_two" 3 (sp_check_two K) := by
  have O_check_tape : OkF P w K mg base CX0 "check_tape" 2 (sp_check_tape K) := ok_check_tape T
  refine OkF.of T.d_check_two sc_check_two (fun vs H Q E h => h.1) (fun f cdv A outer s H vs Q E hr h => ?_)
  obtain ⟨-, z, H0, e0, ⟨w, t, o, ⟨v0, r0, rfl, rfl, ⟨v1, r1, rfl, ⟨a1, rfl, q1⟩, ⟨v2, r2, rfl, ⟨a2, rfl, q2⟩, rfl⟩⟩⟩, ⟨p0, p1, p2, p3, -⟩, rfl⟩, k⟩ := h
  have h1 := exl e0 q1
  clear q1
  have h2 := exl e0 q2
  clear q2
  clear e0 H0
  have hu := hu_of hr
  refine ⟨_, (pss_cons (ps_expr (pe_callO O_check_tape hr (by rfl) pass0 (pa_cons (pv 0) (pa_cons (pv 1) pa_nil))))
 (pss_cons (ps_expr (pe_callO O_check_tape hr (by rfl) pass0 (pa_cons (pv 0) (pa_cons (pv 2) pa_nil))))
 (pss_one (ps_if (pt_cmpR op_ne (pe_callB (kcb_lenQ (K := K)) (by rfl) T.z_len (by decide +kernel) (pa_cons (pv 1) pa_nil)) (pe_callB (kcb_lenQ (K := K)) (by rfl) T.z_len (by decide +kernel) (pa_cons (pv 2) pa_nil)) (nomark _))
  (pss_one ps_never)
  pss_nil)))), ?_⟩
  refine q_drop (ev_check_tape (ag_V (ev_var rfl) (ag_L (q_old (ev_var rfl) (by walk_at "fact")) ag_nil)) (by walk_at "side") (by walk_at "side")) fun H1 e1 => ?_
  refine q_drop (ev_check_tape (ag_V (ev_var rfl) (ag_L (q_old (ev_var rfl) (by walk_at "fact")) ag_nil)) (by walk_at "side") (by walk_at "side")) fun H2 e2 => ?_
  refine s_skip (EvT.is (et_test (ev_neI (ev_lenQ (q_old (ev_var rfl) (by walk_at "fact"))) (ev_lenQ (q_old (ev_var rfl) (by walk_at "fact"))))) ?_) fun H3 e3 => k H3 ((e1.trans e2).trans e3)
  rw [p3]
  simp

def R_goes_over (K : PySem.W.Frag) : List V → Hp → V → Prop := fun vs H z => ∃ (r o : Row), AllP [isV (VS r), isV (VS o)] vs H ∧ ((r.length ≤ 40000) ∧ True) ∧ z = .bl (goes r o)
def sp_goes_over (K : PySem.W.Frag) : Sp := spV 2 (R_goes_over K)
theorem ev_goes_over {K : PySem.W.Frag} {σ : L2.St} {H : Hp} {tr : TA} {E : XK} {r o : Row} (h : EvAG tr σ H [isV (VS r), isV (VS o)]) (p0 : r.length ≤ 40000) : Ev (tCallO (sp_goes_over K) E tr) σ H (.bl (goes r o)) := ev_callG h rfl fun vs H1 e hp => ⟨r, o, hp, ⟨p0, trivial⟩, rfl⟩

theorem ok_goes_over (T : Txt K mg) : OkF P w K mg base CX0 "goes_over" 1 (sp_goes_over K) := by
  refine OkF.of T.d_goes_over sc_goes_over (fun vs H Q E h => h.1) (fun f cdv A outer s H vs Q E hr h => ?_)
  obtain ⟨-, z, H0, e0, ⟨r, o, ⟨v0, r0, rfl, rfl, ⟨v1, r1, rfl, rfl, rfl⟩⟩, ⟨p0, -⟩, rfl⟩, k⟩ := h
  clear e0 H0
  have hu := hu_of hr
  refine ⟨_, (pss_one (ps_ret (pe_not (pe_callB (kcr_any (K := K) rfl) (by rfl) T.z_any (by decide +kernel) (pa_cons (pe_lc (own := [("one", 2), ("new", 3)]) (g := gTup K 2 (gCons (gName 2) (gCons (gName 3) gNil))) rfl sc_goes_over.nd (pi_zipSS (by rfl) T.z_zip (pa_cons (pv 0) (pa_cons (pv 1) pa_nil))) (blkOk_by (N := N_goes_over) (sc := defScope s_goes_over) (by decide +kernel)) (fun _ _ _ _ _ => (pg_tup rfl (pgs_cons (pg_name (i := 2) sc_goes_over.nd rfl (.inl rfl)) (pgs_cons (pg_name (i := 3) sc_goes_over.nd rfl (.inl rfl)) pgs_nil)))) (fun _ _ _ _ _ => pts_nil) (fun _ _ _ _ _ => (pe_and (pe_cmpR op_eq (pv 2) (pe_gs (by rfl) T.c_HOLE) (nomark _)) (pe_one (pe_cmpR op_eq (pv 3) (pe_gs (by rfl) T.c_BLANK) (nomark _)))))) pa_nil))))), ?_⟩
  exact s_ret2 (Ev.is (ev_notV (ev_anyQ (q_new (el_lc1 (i_zipSS (ev_var rfl) (ev_var rfl)) (by walk_at "len") (fun _ => wipe_two _ (by decide) _ _) (fun x28 hx28 H128 e128 => (ev_andV (ev_eqS (ev_var rfl) ev_c) (fun hb29 => (ev_eqS (ev_var rfl) ev_c)))))))) rfl) k

def R_over (K : PySem.W.Frag) : List V → Hp → V → Prop := fun vs H z => ∃ (t o : List Row), AllP [isL K (Txts t), isL K (Txts o)] vs H ∧ ((t.length ≤ 40000) ∧ (∀ r ∈ t, r.length ≤ 40000) ∧ True) ∧ z = .bl (overB t o)
def sp_over (K : PySem.W.Frag) : Sp := spV 2 (R_over K)
theorem ev_over {K : PySem.W.Frag} {σ : L2.St} {H : Hp} {tr : TA} {E : XK} {t o : List Row} (h : EvAG tr σ H [isL K (Txts t), isL K (Txts o)]) (p0 : t.length ≤ 40000) (p1 : ∀ r ∈ t, r.length ≤ 40000) : Ev (tCallO (sp_over K) E tr) σ H (.bl (overB t o)) := ev_callG h rfl fun vs H1 e hp => ⟨t, o, hp, ⟨p0, p1, trivial⟩, rfl⟩

theorem ok_over (T : Txt K mg) : OkF P w K mg base CX0 "over" 2 (sp_over K) := by
  have O_goes_over : OkF P w K mg base CX0 "goes_over" 1 (sp_goes_over K) := ok_goes_over T
  refine OkF.of T.d_over sc_over (fun vs H Q E h => h.1) (fun f cdv A outer s H vs Q E hr h => ?_)
  obtain ⟨-, z, H0, e0, ⟨t, o, ⟨v0, r0, rfl, ⟨a0, rfl, q0⟩, ⟨v1, r1, rfl, ⟨a1, rfl, q1⟩, rfl⟩⟩, ⟨p0, p1, -⟩, rfl⟩, k⟩ := h
  have h0 := exl e0 q0
  clear q0
  have h1 := exl e0 q1
  clear q1
  clear e0 H0
  have hu := hu_of hr
  refine ⟨_, (pss_one (ps_ret (pe_and (pe_cmpR op_eq (pe_callB (kcb_lenQ (K := K)) (by rfl) T.z_len (by decide +kernel) (pa_cons (pv 0) pa_nil)) (pe_callB (kcb_lenQ (K := K)) (by rfl) T.z_len (by decide +kernel) (pa_cons (pv 1) pa_nil)) (nomark _)) (pe_one (pe_callB (kcr_all (K := K) rfl) (by rfl) T.z_all (by decide +kernel) (pa_cons (pe_lc (own := [("one", 2), ("new", 3)]) (g := gTup K 2 (gCons (gName 2) (gCons (gName 3) gNil))) rfl sc_over.nd (kpi_zip (K := K) (by rfl) T.z_zip (pa_cons (pv 0) (pa_cons (pv 1) pa_nil))) (blkOk_by (N := N_over) (sc := defScope s_over) (by decide +kernel)) (fun _ _ _ _ _ => (pg_tup rfl (pgs_cons (pg_name (i := 2) sc_over.nd rfl (.inl rfl)) (pgs_cons (pg_name (i := 3) sc_over.nd rfl (.inl rfl)) pgs_nil)))) (fun _ _ _ _ _ => pts_nil) (fun _ _ _ _ _ => (pe_callO O_goes_over hr (by rfl) pass0 (pa_cons (pv 2) (pa_cons (pv 3) pa_nil))))) pa_nil)))))), ?_⟩
  have hz : ∀ p ∈ t.zip o, p.1.length ≤ 40000 := fun p h => p1 _ (List.of_mem_zip h).1
  exact s_ret2 (Ev.is (ev_andV (ev_eqI (ev_lenQ (q_old (ev_var rfl) (by walk_at "fact"))) (ev_lenQ (q_old (ev_var rfl) (by walk_at "fact")))) (fun hb31 => (ev_allQ (q_new (el_lc1 (i_zip (qa_old (ev_var rfl) (by walk_at "fact") trivial) (qa_old (ev_var rfl) (by walk_at "fact") trivial)) (by walk_at "len") (fun _ => wipe_two _ (by decide) _ _) (fun x30 hx30 H130 e130 => (ev_goes_over (ag_V (ev_var rfl) (ag_V (ev_var rfl) ag_nil)) (by walk_at "side")))))))) rfl) k

def R_becomes (K : PySem.W.Frag) : List V → Hp → V → Prop := fun vs H z => ∃ (rd : Dic) (w : Nat) (t o : List Row), AllP [isD (DS rd), isL K (Txts t), isL K (Txts o)] vs H ∧ ((RdOk rd w) ∧ (TpOk t w) ∧ (TpOk o w) ∧ (t.length = o.length) ∧ True) ∧ z = .bl (overB t o)
def sp_becomes (K : PySem.W.Frag) : Sp := spV 3 (R_becomes K)
theorem ev_becomes {K : PySem.W.Frag} {σ : L2.St} {H : Hp} {tr : TA} {E : XK} {rd : Dic} {w : Nat} {t o : List Row} (h : EvAG tr σ H [isD (DS rd), isL K (Txts t), isL K (Txts o)]) (p0 : RdOk rd w) (p1 : TpOk t w) (p2 : TpOk o w) (p3 : t.length = o.length) : Ev (tCallO (sp_becomes K) E tr) σ H (.bl (overB t o)) := ev_callG h rfl fun vs H1 e hp => ⟨rd, w, t, o, hp, ⟨p0, p1, p2, p3, trivial⟩, rfl⟩

theorem ok_becomes (T : Txt K mg) : OkF P w K mg base CX0 "becomes" 4 (sp_becomes K) := by
  have O_check_two : OkF P w K mg base CX0 "check_two" 3 (sp_check_two K) := ok_check_two T
  have O_over : OkF P w K mg base CX0 "over" 2 (sp_over K) := ok_over T
  have O_width_of : OkF P w K mg base CX0 "width_of" 2 (sp_width_of K) := ok_width_of T
  refine OkF.of T.d_becomes sc_becomes (fun vs H Q E h => h.1) (fun f cdv A outer s H vs Q E hr h => ?_)
  obtain ⟨-, z, H0, e0, ⟨rd, w, t, o, ⟨v0, r0, rfl, ⟨a0, rfl, q0⟩, ⟨v1, r1, rfl, ⟨a1, rfl, q1⟩, ⟨v2, r2, rfl, ⟨a2, rfl, q2⟩, rfl⟩⟩⟩, ⟨p0, p1, p2, p3, -⟩, rfl⟩, k⟩ := h
  have h0 := exh e0 q0
  clear q0
  have h1 := exl e0 q1
  clear q1
  have h2 := exl e0 q2
  clear q2
  clear e0 H0
  have hu := hu_of hr
  refine ⟨_, (pss_cons (ps_expr (pe_callO O_check_two hr (by rfl) pass0 (pa_cons (pe_callO O_width_of hr (by rfl) pass0 (pa_cons (pv 0) pa_nil)) (pa_cons (pv 1) (pa_cons (pv 2) pa_nil)))))
 (pss_one (ps_ret (pe_callO O_over hr (by rfl) pass0 (pa_cons (pv 1) (pa_cons (pv 2) pa_nil)))))), ?_⟩
  have hw := p0.w4
  have hl : t.length ≤ 40000 := by have := p1.len; omega
  have hr : ∀ r ∈ t, r.length ≤ 40000 := fun r h => by have := isRow_len (p1.row r h); omega
  refine q_drop (ev_check_two (ag_V (ev_width_of (ag_D (g_Dold (ev_var rfl) (by walk_at "facth")) ag_nil) (by walk_at "side")) (ag_L (q_old (ev_var rfl) (by walk_at "fact")) (ag_L (q_old (ev_var rfl) (by walk_at "fact")) ag_nil))) (by walk_at "side") (by walk_at "side") (by walk_at "side") (by walk_at "side")) fun H1 e1 => ?_
  exact s_ret2 (ev_over (ag_L (q_old (ev_var rfl) (by walk_at "fact")) (ag_L (q_old (ev_var rfl) (by walk_at "fact")) ag_nil)) (by walk_at "side") (by walk_at "side")) (RetV.ex k e1)

def R__law_over (K : PySem.W.Frag) : List V → Hp → V → Prop := fun vs H z => ∃ (r o : Row) (w : Nat), AllP [isV (VS r), isV (VS o)] vs H ∧ ((isRow r (w : Int) = true) ∧ (isRow o (w : Int) = true) ∧ (w ≤ 4) ∧ True) ∧ z = .bl (goes r o)
def sp__law_over (K : PySem.W.Frag) : Sp := spV 2 (R__law_over K)
theorem ev__law_over {K : PySem.W.Frag} {σ : L2.St} {H : Hp} {tr : TA} {E : XK} {r o : Row} {w : Nat} (h : EvAG tr σ H [isV (VS r), isV (VS o)]) (p0 : isRow r (w : Int) = true) (p1 : isRow o (w : Int) = true) (p2 : w ≤ 4) : Ev (tCallO (sp__law_over K) E tr) σ H (.bl (goes r o)) := ev_callG h rfl fun vs H1 e hp => ⟨r, o, w, hp, ⟨p0, p1, p2, trivial⟩, rfl⟩

theorem ok__law_over (T : Txt K mg) : OkF P w K mg base CX0 "_law_over" 1 (sp__law_over K) := by
  refine OkF.of T.d__law_over sc__law_over (fun vs H Q E h => h.1) (fun f cdv A outer s H vs Q E hr h => ?_)
  obtain ⟨-, z, H0, e0, ⟨r, o, w, ⟨v0, r0, rfl, rfl, ⟨v1, r1, rfl, rfl, rfl⟩⟩, ⟨p0, p1, p2, -⟩, rfl⟩, k⟩ := h
  clear e0 H0
  have hu := hu_of hr
  refine ⟨_, (pss_one (ps_ret (pe_and (pe_cmpR op_eq (pe_callB cb_lenS (by rfl) T.z_len (by decide +kernel) (pa_cons (pv 0) pa_nil)) (pe_callB cb_lenS (by rfl) T.z_len (by decide +kernel) (pa_cons (pv 1) pa_nil)) (nomark _)) (pe_one (pe_callB (kcr_all (K := K) rfl) (by rfl) T.z_all (by decide +kernel) (pa_cons (pe_lc (own := [("_law_one", 2), ("_law_new", 3)]) (g := gTup K 2 (gCons (gName 2) (gCons (gName 3) gNil))) rfl sc__law_over.nd (pi_zipSS (by rfl) T.z_zip (pa_cons (pv 0) (pa_cons (pv 1) pa_nil))) (blkOk_by (N := N__law_over) (sc := defScope s__law_over) (by decide +kernel)) (fun _ _ _ _ _ => (pg_tup rfl (pgs_cons (pg_name (i := 2) sc__law_over.nd rfl (.inl rfl)) (pgs_cons (pg_name (i := 3) sc__law_over.nd rfl (.inl rfl)) pgs_nil)))) (fun _ _ _ _ _ => pts_nil) (fun _ _ _ _ _ => (pe_or (pe_cmpR op_eq (pv 2) pe_str (nomark _)) (pe_one (pe_cmpR op_eq (pv 3) pe_str (nomark _)))))) pa_nil)))))), ?_⟩
  have h1 := isRow_len p0
  have h2 := isRow_len p1
  exact s_ret2 (Ev.is (ev_andV (ev_eqI (ev_lenS (ev_var rfl) (by walk_at "side")) (ev_lenS (ev_var rfl) (by walk_at "side"))) (fun hb34 => (ev_allQ (q_new (el_lc1 (i_zipSS (ev_var rfl) (ev_var rfl)) (by walk_at "len") (fun _ => wipe_two _ (by decide) _ _) (fun x32 hx32 H132 e132 => (ev_orV (ev_eqS (ev_var rfl) (ev_cS lit_dot)) (fun hb33 => (ev_eqS (ev_var rfl) (ev_cS lit_o)))))))))) (by rw [← goes_alt p0 p1])) k

def R__law_can (K : PySem.W.Frag) : List V → Hp → V → Prop := fun vs H z => ∃ (t o : List Row) (w : Nat), AllP [isL K (Txts t), isL K (Txts o)] vs H ∧ ((TpOk t w) ∧ (TpOk o w) ∧ (w ≤ 4) ∧ True) ∧ z = .bl (overB t o)
def sp__law_can (K : PySem.W.Frag) : Sp := spV 2 (R__law_can K)
theorem ev__law_can {K : PySem.W.Frag} {σ : L2.St} {H : Hp} {tr : TA} {E : XK} {t o : List Row} {w : Nat} (h : EvAG tr σ H [isL K (Txts t), isL K (Txts o)]) (p0 : TpOk t w) (p1 : TpOk o w) (p2 : w ≤ 4) : Ev (tCallO (sp__law_can K) E tr) σ H (.bl (overB t o)) := ev_callG h rfl fun vs H1 e hp => ⟨t, o, w, hp, ⟨p0, p1, p2, trivial⟩, rfl⟩

theorem ok__law_can (T : Txt K mg) : OkF P w K mg base CX0 "_law_can" 2 (sp__law_can K) := by
  have O__law_over : OkF P w K mg base CX0 "_law_over" 1 (sp__law_over K) := ok__law_over T
  refine OkF.of T.d__law_can sc__law_can (fun vs H Q E h => h.1) (fun f cdv A outer s H vs Q E hr h => ?_)
  obtain ⟨-, z, H0, e0, ⟨t, o, w, ⟨v0, r0, rfl, ⟨a0, rfl, q0⟩, ⟨v1, r1, rfl, ⟨a1, rfl, q1⟩, rfl⟩⟩, ⟨p0, p1, p2, -⟩, rfl⟩, k⟩ := h
  have h0 := exl e0 q0
  clear q0
  have h1 := exl e0 q1
  clear q1
  clear e0 H0
  have hu := hu_of hr
  refine ⟨_, (pss_one (ps_ret (pe_and (pe_cmpR op_eq (pe_callB (kcb_lenQ (K := K)) (by rfl) T.z_len (by decide +kernel) (pa_cons (pv 0) pa_nil)) (pe_callB (kcb_lenQ (K := K)) (by rfl) T.z_len (by decide +kernel) (pa_cons (pv 1) pa_nil)) (nomark _)) (pe_one (pe_callB (kcr_all (K := K) rfl) (by rfl) T.z_all (by decide +kernel) (pa_cons (pe_lc (own := [("_law_row", 2), ("_law_new", 3)]) (g := gTup K 2 (gCons (gName 2) (gCons (gName 3) gNil))) rfl sc__law_can.nd (kpi_zip (K := K) (by rfl) T.z_zip (pa_cons (pv 0) (pa_cons (pv 1) pa_nil))) (blkOk_by (N := N__law_can) (sc := defScope s__law_can) (by decide +kernel)) (fun _ _ _ _ _ => (pg_tup rfl (pgs_cons (pg_name (i := 2) sc__law_can.nd rfl (.inl rfl)) (pgs_cons (pg_name (i := 3) sc__law_can.nd rfl (.inl rfl)) pgs_nil)))) (fun _ _ _ _ _ => pts_nil) (fun _ _ _ _ _ => (pe_callO O__law_over hr (by rfl) pass0 (pa_cons (pv 2) (pa_cons (pv 3) pa_nil))))) pa_nil)))))), ?_⟩
  have hl : t.length ≤ 30 := p0.len
  have hz1 : ∀ p ∈ t.zip o, isRow p.1 (w : Int) = true := fun p h => p0.row _ (List.of_mem_zip h).1
  have hz2 : ∀ p ∈ t.zip o, isRow p.2 (w : Int) = true := fun p h => p1.row _ (List.of_mem_zip h).2
  exact s_ret2 (Ev.is (ev_andV (ev_eqI (ev_lenQ (q_old (ev_var rfl) (by walk_at "fact"))) (ev_lenQ (q_old (ev_var rfl) (by walk_at "fact")))) (fun hb36 => (ev_allQ (q_new (el_lc1 (i_zip (qa_old (ev_var rfl) (by walk_at "fact") trivial) (qa_old (ev_var rfl) (by walk_at "fact") trivial)) (by walk_at "len") (fun _ => wipe_two _ (by decide) _ _) (fun x35 hx35 H135 e135 => (ev__law_over (ag_V (ev_var rfl) (ag_V (ev_var rfl) ag_nil)) (by walk_at "side") (by walk_at "side") (by walk_at "side")))))))) rfl) k

def R__law_two_right (K : PySem.W.Frag) : List V → Hp → V → Prop := fun vs H z => ∃ (rd : Dic) (w : Nat) (t o : List Row), AllP [isD (DS rd), isL K (Txts t), isL K (Txts o)] vs H ∧ ((RdOk rd w) ∧ (TpOk t w) ∧ (TpOk o w) ∧ (t.length = o.length) ∧ True) ∧ z = .bl true
def sp__law_two_right (K : PySem.W.Frag) : Sp := spV 3 (R__law_two_right K)
theorem ev__law_two_right {K : PySem.W.Frag} {σ : L2.St} {H : Hp} {tr : TA} {E : XK} {rd : Dic} {w : Nat} {t o : List Row} (h : EvAG tr σ H [isD (DS rd), isL K (Txts t), isL K (Txts o)]) (p0 : RdOk rd w) (p1 : TpOk t w) (p2 : TpOk o w) (p3 : t.length = o.length) : Ev (tCallO (sp__law_two_right K) E tr) σ H (.bl true) := ev_callG h rfl fun vs H1 e hp => ⟨rd, w, t, o, hp, ⟨p0, p1, p2, p3, trivial⟩, rfl⟩

theorem ok__law_two_right (T : Txt K mg) : OkF P w K mg base CX0 "_law_two_right" 5 (sp__law_two_right K) := by
  have O_becomes : OkF P w K mg base CX0 "becomes" 4 (sp_becomes K) := ok_becomes T
  have O__law_can : OkF P w K mg base CX0 "_law_can" 2 (sp__law_can K) := ok__law_can T
  refine OkF.of T.d__law_two_right sc__law_two_right (fun vs H Q E h => h.1) (fun f cdv A outer s H vs Q E hr h => ?_)
  obtain ⟨-, z, H0, e0, ⟨rd, w, t, o, ⟨v0, r0, rfl, ⟨a0, rfl, q0⟩, ⟨v1, r1, rfl, ⟨a1, rfl, q1⟩, ⟨v2, r2, rfl, ⟨a2, rfl, q2⟩, rfl⟩⟩⟩, ⟨p0, p1, p2, p3, -⟩, rfl⟩, k⟩ := h
  have h0 := exh e0 q0
  clear q0
  have h1 := exl e0 q1
  clear q1
  have h2 := exl e0 q2
  clear q2
  clear e0 H0
  have hu := hu_of hr
  refine ⟨_, (pss_cons (ps_set (i := 3) sc__law_two_right.nd rfl (.inl rfl) (pe_callO O_becomes hr (by rfl) pass0 (pa_cons (pe_callTy ct_dict (by rfl) T.z_dict (by decide +kernel) (pa_cons (pv 0) pa_nil)) (pa_cons (pe_callTy (kct_list (K := K)) (by rfl) T.z_list (by decide +kernel) (pa_cons (pv 1) pa_nil)) (pa_cons (pe_callTy (kct_list (K := K)) (by rfl) T.z_list (by decide +kernel) (pa_cons (pv 2) pa_nil)) pa_nil)))))
 (pss_one (ps_ret (pe_and (pe_callB (kcall_isi (K := K)) (by rfl) T.z_isinstance (by decide +kernel) (pa_cons (pv 3) (pa_cons (pe_bltn (v := .ty "bool") (by rfl) T.z_bool (by decide +kernel) rfl) pa_nil))) (pe_one (pe_cmpR op_eq (pv 3) (pe_callO O__law_can hr (by rfl) pass0 (pa_cons (pv 1) (pa_cons (pv 2) pa_nil))) (nomark _))))))), ?_⟩
  have hw := p0.w4
  refine q_asg (ev_becomes (ag_D (g_D (ed_dict (g_Dold (ev_var rfl) (by walk_at "facth")))) (ag_L (q_new (el_listQ (q_old (ev_var rfl) (by walk_at "fact")))) (ag_L (q_new (el_listQ (q_old (ev_var rfl) (by walk_at "fact")))) ag_nil))) (by walk_at "side") (by walk_at "side") (by walk_at "side") (by walk_at "side")) fun H1 e1 => ?_
  exact s_ret2 (Ev.is (ev_andV (ev_isiB (b := true) (ev_var rfl) ev_c (by decide +kernel)) (fun hb37 => (ev_eqB (ev_var rfl) (ev__law_can (ag_L (q_old (ev_var rfl) (by walk_at "fact")) (ag_L (q_old (ev_var rfl) (by walk_at "fact")) ag_nil)) (by walk_at "side") (by walk_at "side") (by walk_at "side"))))) (by simp)) (RetV.ex k e1)

def R_law (K : PySem.W.Frag) : List V → Hp → V → Prop := fun vs H z => ∃ (ns : List Int), AllP [isQ K (Ints ns)] vs H ∧ (True) ∧ z = .bl true
def sp_law (K : PySem.W.Frag) : Sp := spV 1 (R_law K)
theorem ev_law {K : PySem.W.Frag} {σ : L2.St} {H : Hp} {tr : TA} {E : XK} {ns : List Int} (h : EvAG tr σ H [isQ K (Ints ns)])  : Ev (tCallO (sp_law K) E tr) σ H (.bl true) := ev_callG h rfl fun vs H1 e hp => ⟨ns, hp, trivial, rfl⟩

theorem ok_law (T : Txt K mg) {fL : Addr} {fdL : FuncData} (F : Fun K "law" "law" s_law fL fdL) : FnOk P w K mg base CX0 6 fL fdL ["_law_script"] (sp_law K) := by
  have O__law_pool : OkF P w K mg base CX0 "_law_pool" 4 (sp__law_pool K) := ok__law_pool T
  have O__law_reader : OkF P w K mg base CX0 "_law_reader" 4 (sp__law_reader K) := ok__law_reader T
  have O__law_tape : OkF P w K mg base CX0 "_law_tape" 4 (sp__law_tape K) := ok__law_tape T
  have O__law_width : OkF P w K mg base CX0 "_law_width" 1 (sp__law_width K) := ok__law_width T
  have O__law_digits : OkF P w K mg base CX0 "_law_digits" 3 (sp__law_digits K) := ok__law_digits T
  have O_read_tape : OkF P w K mg base CX0 "read_tape" 3 (sp_read_tape K) := ok_read_tape T
  have O_holes : OkF P w K mg base CX0 "holes" 3 (sp_holes K) := ok_holes T
  have O__law_one_right : OkF P w K mg base CX0 "_law_one_right" 4 (sp__law_one_right K) := ok__law_one_right T
  have O__law_two_right : OkF P w K mg base CX0 "_law_two_right" 5 (sp__law_two_right K) := ok__law_two_right T
  refine F.ok sc_law (fun vs H Q E h => h.1) (fun cdv A outer s H vs Q E hr h => ?_)
  obtain ⟨-, z, H0, e0, ⟨ns, ⟨v0, r0, rfl, ⟨a0, rfl, q0⟩, rfl⟩, -, rfl⟩, k⟩ := h
  have h0 := Evl.ex_l e0 q0
  clear q0
  clear e0 H0
  have hu := hu_of hr
  refine ⟨_, (pss_cons (ps_set (i := 0) sc_law.nd rfl (.inl rfl) (pe_slice (ksl_list (K := K)) (pv 0) po_none (po_some pe_int)))
 (pss_cons (ps_set (i := 8) sc_law.nd rfl (.inl rfl) (pe_callO O__law_pool hr (by rfl) pass0 (pa_cons (pv 0) (pa_cons pe_int pa_nil))))
 (pss_cons (ps_for PassesOwn.never rfl (pi_range2 rfl T.z_range (pa_cons pe_int (pa_cons (pe_callB (cb_max2 rfl) (by rfl) T.z_max (by decide +kernel) (pa_cons pe_int (pa_cons (pe_callB (cb_min2 rfl) (by rfl) T.z_min (by decide +kernel) (pa_cons pe_int (pa_cons (pe_callB (kcb_lenQ (K := K)) (by rfl) T.z_len (by decide +kernel) (pa_cons (pv 0) pa_nil)) pa_nil))) pa_nil))) pa_nil))) (pg_name (i := 3) sc_law.nd rfl (.inl rfl))
  (pss_cons (ps_set (i := 9) sc_law.nd rfl (.inl rfl) (pe_callO O__law_reader hr (by rfl) pass0 (pa_cons (pv 0) (pa_cons (pv 3) (pa_cons (pv 8) (pa_cons pe_int pa_nil))))))
 (pss_cons (ps_par (i := 13) (j := 4) rfl sc_law.nd rfl rfl (by decide) rfl rfl (pa_cons (pe_callO O__law_width hr (by rfl) pass0 (pa_cons (pv 9) pa_nil)) (pa_cons (pe_callO O__law_digits hr (by rfl) pass0 (pa_cons (pv 0) (pa_cons (pe_op op_add (pv 3) pe_int) (pa_cons pe_int (pa_cons pe_int pa_nil))))) pa_nil)) (by rfl))
 (pss_cons (ps_set (i := 12) sc_law.nd rfl (.inl rfl) (pe_callO O__law_tape hr (by rfl) pass0 (pa_cons (pv 0) (pa_cons (pe_op op_add (pv 3) pe_int) (pa_cons (pv 13) (pa_cons (pe_op op_mod (pe_ix (kix_list (K := K)) (pv 4) pe_int (fun _ _ => rfl)) pe_int) pa_nil))))))
 (pss_cons (ps_set (i := 5) sc_law.nd rfl (.inl rfl) (pe_callO O__law_tape hr (by rfl) pass0 (pa_cons (pv 0) (pa_cons (pe_op op_add (pv 3) pe_int) (pa_cons (pv 13) (pa_cons (pe_callB (kcb_lenQ (K := K)) (by rfl) T.z_len (by decide +kernel) (pa_cons (pv 12) pa_nil)) pa_nil))))))
 (pss_cons (ps_set (i := 2) sc_law.nd rfl (.inl rfl) (pe_lst pa_nil))
 (pss_cons (ps_for PassesOwn.never rfl (kpi_zip (K := K) (by rfl) T.z_zip (pa_cons (pv 12) (pa_cons (pv 5) pa_nil))) (pg_tup rfl (pgs_cons (pg_name (i := 6) sc_law.nd rfl (.inl rfl)) (pgs_cons (pg_name (i := 7) sc_law.nd rfl (.inl rfl)) pgs_nil)))
  (pss_one (ps_expr (pe_bm PySem.F.plainAttrs_list PySem.F.slot_list_append PySem.F.type_list_append mt_append (pv 2) (pa_cons (kpe_joinQ (K := K) pe_str (pe_lc (own := [("_law_a", 14), ("_law_b", 15)]) (g := gTup K 2 (gCons (gName 14) (gCons (gName 15) gNil))) rfl sc_law.nd (pi_zipSS (by rfl) T.z_zip (pa_cons (pv 6) (pa_cons (pv 7) pa_nil))) (blkOk_by (N := N_law) (sc := defScope s_law) (by decide +kernel)) (fun _ _ _ _ _ => (pg_tup rfl (pgs_cons (pg_name (i := 14) sc_law.nd rfl (.inl rfl)) (pgs_cons (pg_name (i := 15) sc_law.nd rfl (.inl rfl)) pgs_nil)))) (fun _ _ _ _ _ => pts_nil) (fun _ _ _ _ _ => (pe_ifExp (pt_cmpR op_inC pe_str (pe_op op_addS (pv 14) (pv 15)) rfl) pe_str pe_str)))) pa_nil)))))
 (pss_cons (ps_set (i := 10) sc_law.nd rfl (.inl rfl) (pe_callTy (kct_list (K := K)) (by rfl) T.z_list (by decide +kernel) (pa_cons (pv 2) pa_nil)))
 (pss_cons (ps_if (pt_cmpR (kop_neD (K := K) hr.units) (pv 12) (pe_lst pa_nil) (nomark _))
  (pss_cons (ps_par (i := 1) (j := 11) rfl sc_law.nd rfl rfl (by decide) rfl rfl (pa_cons (pe_op op_mod (pe_ix (kix_list (K := K)) (pv 4) pe_int (fun _ _ => rfl)) (pe_callB (kcb_lenQ (K := K)) (by rfl) T.z_len (by decide +kernel) (pa_cons (pv 12) pa_nil))) (pa_cons (pe_op op_mod (pe_ix (kix_list (K := K)) (pv 4) pe_int (fun _ _ => rfl)) (pv 13)) pa_nil)) (by rfl))
 (pss_one (ps_asg (pe_op op_addS (pe_op op_addS (pe_slice sl_str (pe_ix (kix_list (K := K)) (pv 10) (pv 1) (fun _ _ => rfl)) po_none (po_some (pv 11))) pe_str) (pe_slice sl_str (pe_ix (kix_list (K := K)) (pv 10) (pv 1) (fun _ _ => rfl)) (po_some (pe_op op_add (pv 11) pe_int)) po_none)) (pg_sub (pv 10) (pv 1) set_list))))
  pss_nil)
 (pss_one (ps_for PassesOwn.never rfl (kpi_tup (K := K) (pe_tup (pa_cons (pv 12) (pa_cons (pv 5) (pa_cons (pv 2) (pa_cons (pv 10) pa_nil)))))) (pg_name (i := 6) sc_law.nd rfl (.inl rfl))
  (pss_cons (ps_if (pt_not (pt_val (pe_callO O__law_one_right hr (by rfl) pass0 (pa_cons (pv 9) (pa_cons (pv 6) pa_nil)))))
  (pss_one (ps_ret pe_bl))
  pss_nil)
 (pss_one (ps_for PassesOwn.never rfl (kpi_tup (K := K) (pe_tup (pa_cons (pv 12) (pa_cons (pv 5) (pa_cons (pv 2) (pa_cons (pv 10) pa_nil)))))) (pg_name (i := 7) sc_law.nd rfl (.inl rfl))
  (pss_one (ps_if (pt_not (pt_val (pe_callO O__law_two_right hr (by rfl) pass0 (pa_cons (pv 9) (pa_cons (pv 6) (pa_cons (pv 7) pa_nil))))))
  (pss_one (ps_ret pe_bl))
  pss_nil))))))))))))))))
 (pss_one (ps_ret (pe_and (pe_cmpR op_eq (pe_callO O_read_tape hr (by rfl) pass0 (pa_cons (pe_disp (pps_cons pe_str pe_str pps_nil) (by rfl) (by rfl) (fun z => by cases z) (by decide)) (pa_cons (pe_lst (pa_cons pe_str (pa_cons pe_str (pa_cons pe_str pa_nil)))) pa_nil))) pe_str (nomark _)) (pe_one (pe_cmpR op_eq (pe_callO O_holes hr (by rfl) pass0 (pa_cons (pe_disp (pps_cons pe_str pe_str pps_nil) (by rfl) (by rfl) (fun z => by cases z) (by decide)) (pa_cons (pe_lst (pa_cons pe_str pa_nil)) pa_nil))) pe_int (nomark _))))))))), ?_⟩
  refine q_asgL (EvL.is (Evl.el_sl (ev_var rfl) eo_none (eo_some ev_c) h0) (cutV_map V.int ns none (some 63))) fun a1 H1 ha0 e1 ha => ?_
  generalize cutG ns none (some 63) = ms at ha
  have ha : SL K H1 a1 (Ints ms) := slof ha
  refine q_asgL (ev__law_pool (ag_L (q_old (ev_var rfl) (by walk_at "fact")) (ag_V ev_c ag_nil)) (by walk_at "side")) fun a2 H2 hb0 e2 hb => ?_
  have hb : SL K H2 a2 (Txts (pool ms 0)) := slof hb
  have hpl := pool_len ms 0
  refine q_for (s := []) (i_rng2 (ea_cons ev_c (ea_cons (ev_mx2 ev_c (ev_mn2 ev_c (ev_lenQ (q_old (ev_var rfl) (by walk_at "fact"))))) ea_nil)) (by walk_at "rng") (by walk_at "rng")) (by simp) fun H3 e3 => ⟨fun i σ' H' => Ex H3 H' ∧ ∃ y1 y2 y3 y4 y5 y6 y7 y8 y9 y10 y11 y12 y13 y14, σ' = [some (.ref a1), y1, y2, y3, y4, y5, y6, y7, some (.ref a2), y8, y9, y10, y11, y12, y13, y14],
    ⟨Ex.refl _, none, none, none, none, none, none, none, none, none, none, none, none, none, none, rfl⟩, fun i σ' H' p => Ex.xb p.1, ?_, ?_⟩
  · rintro i n σ' H4 H5 hi ⟨hX, y1, y2, y3, y4, y5, y6, y7, y8, y9, y10, y11, y12, y13, y14, rfl⟩ e5
    have hn0 : (1 : Int) ≤ 1 + (n : Int) := by omega
    generalize (1 + (n : Int)) = n at hn0 ⊢
    have hx5 : Ex H2 H5 := (e3.trans hX).trans e5
    have ha5 : SL K H5 a1 (Ints ms) := exl hx5 (exl e2 ha)
    have hb5 : SL K H5 a2 (Txts (pool ms 0)) := exl hx5 hb
    refine q_asgD (ev__law_reader (ag_L (q_old (ev_var rfl) (by walk_at "fact")) (ag_V (ev_var rfl) (ag_L (q_old (ev_var rfl) (by walk_at "fact")) (ag_V ev_c ag_nil)))) (by walk_at "side") (by walk_at "side") (by walk_at "side") (by walk_at "side")) fun d H6 hd0 e6 hd => ?_
    have okr : RdOk (reader ms n (pool ms 0) 1) (rdW (digits ms n 17 1000) 1).toNat := rdr_ok (by decide) (by decide) (fun i hi => pool_let ms 0 i hi)
    have hw := rdW_range (ds := digits ms n 17 1000) (least := 1) (by decide) (by decide)
    obtain ⟨w, hwe, hw1, hw4⟩ : ∃ w : Nat, (rdW (digits ms n 17 1000) 1).toNat = w ∧ 1 ≤ w ∧ w ≤ 4 := ⟨_, rfl, by omega, by omega⟩
    rw [hwe] at okr
    generalize reader ms n (pool ms 0) 1 = rd at hd okr
    refine q_par (ag_V (ev__law_width (ag_D (g_Dold (ev_var rfl) (by walk_at "facth")) ag_nil) (by walk_at "side")) (ag_NL (ev__law_digits (ag_L (q_old (ev_var rfl) (by walk_at "fact")) (ag_V (ev_add (ev_var rfl) ev_c) (ag_V ev_c (ag_V ev_c ag_nil)))) (by walk_at "side") (by walk_at "side") (by walk_at "side") (by walk_at "side") (by walk_at "side")) ag_nil)) fun v1 v2 H7 e7 g1 g2 => ?_
    obtain rfl := g1
    obtain ⟨c, rfl, hc0, hc⟩ := g2
    have hc : SL K H7 c (Ints (digits ms (n + 1) 6 1009)) := slof hc
    have hcl : (digits ms (n + 1) 6 1009).length = 6 := digits_len _ _ _ _
    generalize digits ms (n + 1) 6 1009 = ds at hc hcl
    have hm0 := Int.emod_nonneg (ds.getD (0 : Int).toNat 0) (show (31 : Int) ≠ 0 by decide)
    have hm1 := Int.emod_lt_of_pos (ds.getD (0 : Int).toNat 0) (show (0 : Int) < 31 by decide)
    refine q_asgL (ev__law_tape (ag_L (q_old (ev_var rfl) (by walk_at "fact")) (ag_V (ev_add (ev_var rfl) ev_c) (ag_V (ev_var rfl) (ag_V (ev_mod (ev_ixQ (0 : Int) (q_old (ev_var rfl) (by walk_at "fact")) ev_c (by walk_at "side") (by walk_at "side")) ev_c (by walk_at "side")) ag_nil)))) (by walk_at "side") (by walk_at "side") (by walk_at "side") (by walk_at "side") (by walk_at "side")) fun t H8 ht0 e8 ht => ?_
    have okt : TpOk (tapeL ms (n + 2) (w : Int) (ds.getD (0 : Int).toNat 0 % 31)) w := tapeL_ok _ _ _ (by omega)
    generalize tapeL ms (n + 2) (w : Int) (ds.getD (0 : Int).toNat 0 % 31) = tt at ht okt
    have ht : SL K H8 t (Txts tt) := slof ht
    have htl := okt.len
    refine q_asgL (ev__law_tape (ag_L (q_old (ev_var rfl) (by walk_at "fact")) (ag_V (ev_add (ev_var rfl) ev_c) (ag_V (ev_var rfl) (ag_V (ev_lenQ (q_old (ev_var rfl) (by walk_at "fact"))) ag_nil)))) (by walk_at "side") (by walk_at "side") (by walk_at "side") (by walk_at "side") (by walk_at "side")) fun o H9 ho0 e9 ho => ?_
    have oko : TpOk (tapeL ms (n + 3) (w : Int) (tt.length : Int)) w := tapeL_ok _ _ _ (by omega)
    have hol : (tapeL ms (n + 3) (w : Int) (tt.length : Int)).length = tt.length := by rw [tapeL_len]; omega
    generalize tapeL ms (n + 3) (w : Int) (tt.length : Int) = oo at ho oko hol
    have ho : SL K H9 o (Txts oo) := slof ho
    refine q_asgL el_nil fun b H10 hb0 e10 hb => ?_
    have tb : t ≠ b := (exl e9 ht).ne hb0
    have ob : o ≠ b := ho.ne hb0
    refine q_for (s := [b]) (i_zip (qa_old (ev_var rfl) (by walk_at "fact") (by walk_at "adm")) (qa_old (ev_var rfl) (by walk_at "fact") (by walk_at "adm"))) (by intro a ha; rw [List.mem_singleton.mp ha, hb]; simp) fun H11 e11 => ⟨fun i σ' H' => ∃ y1 y2 y3 y4 y5 y6 y7, σ' = [some (.ref a1), y1, some (.ref b), some (.int n), some (.ref c), some (.ref o), y2, y3, some (.ref a2), some (.ref d), y4, y5, some (.ref t), some (.int (w : Int)), y6, y7] ∧
        Xb [b] H11 H' ∧ H' b = some (.lst (Txts (((tt.zip oo).take i).map fun p => bothRow p.1 p.2))),
      ⟨_, _, _, _, _, _, _, rfl, Xb.refl _ _, e11 _ _ hb⟩, fun i σ' H' ⟨_, _, _, _, _, _, _, _, x, _⟩ => x, ?_, ?_⟩
    · rintro i ⟨r, s⟩ σ' H12 H13 hi ⟨y1, y2, y3, y4, y5, y6, y7, rfl, hx, hq⟩ e13
      have hmem := List.mem_of_getElem? hi
      have hil := (List.getElem?_eq_some_iff.mp hi).1
      rw [List.length_zip] at hil
      have hr := isRow_len (okt.row _ (List.of_mem_zip hmem).1)
      have hlen := bothRow_len r s
      unfold bothRow at hlen
      refine s_app (e13 _ _ hq) (ev_var rfl) (ev_joinQ (ev_cS lit_nil) (q_new (el_lc1 (i_zipSS (ev_var rfl) (ev_var rfl)) (by walk_at "len") (fun _ => wipe_two _ (by decide) _ _) (fun x38 hx38 H138 e138 => (ev_ifS (et_test (ev_inC (ev_cS lit_o) (ev_addS (ev_var rfl) (ev_var rfl) (by walk_at "side")))) (fun hb39 => (ev_cS lit_o)) (fun hb39 => (ev_cS lit_dot)))))) (by walk_at "len")) (by unfold Txts; simp only [List.length_map, List.length_take, List.length_zip]; omega) fun H14 e14 => ⟨_, _, _, _, _, _, _, rfl, ((hx.ex e13).ex e14).upd (by simp), ?_⟩
      rw [upd_same, List.take_succ, hi, List.map_append]
      unfold Txts
      rw [List.map_append]
      rfl
    · rintro σ' H12 ⟨y1, y2, y3, y4, y5, y6, y7, rfl, hx, hq⟩
      have hq : H12 b = some (.lst (Txts (((tt.zip oo).take (tt.zip oo).length).map fun p => bothRow p.1 p.2))) := hq
      rw [List.take_length] at hq
      have hq : H12 b = some (.lst (Txts (bothT tt oo))) := hq
      have okb := bothT_ok okt oko
      have hbl : (bothT tt oo).length = tt.length := by unfold bothT; rw [List.length_map, List.length_zip]; omega
      generalize bothT tt oo = bb at hq okb hbl
      have e59 : Ex H5 H9 := ((e6.trans e7).trans e8).trans e9
      have e912 : Ex H9 H12 := Ex.xb0 (e10.trans e11) hx (fun a ha => by rw [List.mem_singleton.mp ha]; exact hb0)
      have ht12 : SL K H12 t (Txts tt) := exl e912 (exl e9 ht)
      have ho12 : SL K H12 o (Txts oo) := exl e912 ho
      have hd12 : H12 d = some (.dK (DS rd)) := exh (((e7.trans e8).trans e9).trans e912) hd
      have hc12 : SL K H12 c (Ints ds) := exl ((e8.trans e9).trans e912) hc
      have hq' : SL K H12 b (Txts bb) := slof hq
      refine q_asgL (el_listQ (q_old (ev_var rfl) (by walk_at "fact"))) fun sp H13 hsp0 e13 hsp => ?_
      have hdone : ∀ (s : Addr) (ss : List Row) (H' : Hp), Ex H12 H' → SL K H' s (Txts ss) → TpOk ss w → ss.length = tt.length → ∀ x ∈ [V.ref t, V.ref o, V.ref b, V.ref s], Tape K w tt.length H' x := by
        intro s ss H' e' hs oks hsl x hx
        simp only [List.mem_cons, List.not_mem_nil, or_false] at hx
        rcases hx with rfl | rfl | rfl | rfl
        · exact ⟨_, _, rfl, exl e' ht12, okt, rfl⟩
        · exact ⟨_, _, rfl, exl e' ho12, oko, hol⟩
        · exact ⟨_, _, rfl, exl e' hq', okb, hbl⟩
        · exact ⟨_, _, rfl, hs, oks, hsl⟩
      have hsm := okt.small
      have hsm0 : SmT [] := fun r h => nomatch h
      refine q_whenJ (b := !decide (tt = [])) (fun σ' H' => Ex H12 H' ∧ (∃ ss, SL K H' sp (Txts ss) ∧ TpOk ss w ∧ ss.length = tt.length) ∧ ∃ y1 y2 y3 y4 y5 y6 y7, σ' = [some (.ref a1), y1, some (.ref b), some (.int n), some (.ref c), some (.ref o), y2, y3, some (.ref a2), some (.ref d), some (.ref sp), y4, some (.ref t), y5, y6, y7]) (et_test (ev_neLS (q_old (ev_var rfl) (by walk_at "fact")) (q_new el_nilM) (by walk_at "side") (by walk_at "side"))) (fun hne H14 e14 fin => ?_) (fun _ H14 e14 => ⟨e13.trans e14, ⟨bb, slof (e14 _ _ hsp), okb, hbl⟩, _, _, _, _, _, _, _, rfl⟩) ?_
      · have hne : tt ≠ [] := by simpa using hne
        have hpos : 0 < tt.length := List.length_pos_iff.mpr hne
        have hc14 : SL K H14 c (Ints ds) := exl (e13.trans e14) hc12
        have ht14 : SL K H14 t (Txts tt) := exl (e13.trans e14) ht12
        have hi0 := Int.emod_nonneg (ds.getD (1 : Int).toNat 0) (show ((tt.length : Nat) : Int) ≠ 0 by omega)
        have hi1 := Int.emod_lt_of_pos (ds.getD (1 : Int).toNat 0) (show (0 : Int) < ((tt.length : Nat) : Int) by omega)
        have hj0 := Int.emod_nonneg (ds.getD (2 : Int).toNat 0) (show (w : Int) ≠ 0 by omega)
        have hj1 := Int.emod_lt_of_pos (ds.getD (2 : Int).toNat 0) (show (0 : Int) < (w : Int) by omega)
        refine q_par (ag_V (ev_mod (ev_ixQ (0 : Int) (q_old (ev_var rfl) (by walk_at "fact")) ev_c (by walk_at "side") (by walk_at "side")) (ev_lenQ (q_old (ev_var rfl) (by walk_at "fact"))) (by walk_at "side")) (ag_V (ev_mod (ev_ixQ (0 : Int) (q_old (ev_var rfl) (by walk_at "fact")) ev_c (by walk_at "side") (by walk_at "side")) (ev_var rfl) (by walk_at "side")) ag_nil)) fun v1 v2 H15 e15 g1 g2 => ?_
        obtain rfl := g1
        obtain rfl := g2
        obtain ⟨j, hj⟩ : ∃ j : Nat, ds.getD (1 : Int).toNat 0 % (tt.length : Int) = (j : Int) := ⟨_, (Int.toNat_of_nonneg hi0).symm⟩
        generalize ds.getD (2 : Int).toNat 0 % (w : Int) = q at hj0 hj1
        rw [hj] at hi1 ⊢
        have hsp15 : H15 sp = some (.lst (Txts bb)) := e15 _ _ (e14 _ _ hsp)
        have hspl : SL K H15 sp (Txts bb) := slof hsp15
        have hrow : isRow (bb.getD (j : Int).toNat []) (w : Int) = true := okb.row _ (by
          rw [List.getD_eq_getElem?_getD, List.getElem?_eq_getElem (show (j : Int).toNat < bb.length by omega)]
          exact List.getElem_mem _)
        have hrl := isRow_len hrow
        have hsl2 := isRow_len (spoilRow_ok hrow hj0 hj1)
        have hjl : (j : Int) < (bb.length : Int) := by omega
        unfold spoilRow at hsl2
        refine s_setL (j := j) hsp15 (ev_addS (ev_addS (ev_slS (ev_ixQ ([] : Row) (q_old (ev_var rfl) (by walk_at "fact")) (ev_var rfl) (by walk_at "side") (by walk_at "side")) eo_none (eo_some (ev_var rfl)) (by walk_at "side")) (ev_cS lit_dot) (by walk_at "side")) (ev_slS (ev_ixQ ([] : Row) (q_old (ev_var rfl) (by walk_at "fact")) (ev_var rfl) (by walk_at "side") (by walk_at "side")) (eo_some (ev_add (ev_var rfl) ev_c)) eo_none (by walk_at "side")) (by walk_at "side")) (ev_var rfl) (ev_var rfl) (by unfold Txts; rw [List.length_map]; omega) fun H16 e16 => fin _ _ ⟨?_, ?_, _, _, _, _, _, _, _, rfl⟩
        · exact Ex.xb0 e13 (Xb.upd (s := [sp]) (Ex.xb ((e14.trans e15).trans e16)) (by simp)) (fun a ha => by rw [List.mem_singleton.mp ha]; exact hsp0)
        · refine ⟨bb.set j (spoilRow (bb.getD (j : Int).toNat []) q), slof ?_, okb.set (spoilRow_ok hrow hj0 hj1) _, by rw [List.length_set]; exact hbl⟩
          rw [upd_same]
          unfold Txts
          rw [List.map_set]
          rfl
      · rintro σ' H14 ⟨e14, ⟨ss, hss, oks, hssl⟩, y1, y2, y3, y4, y5, y6, y7, rfl⟩
        refine s_for (s := []) (i_tupV (qt_new (eu_tup (ea_cons (ev_var rfl) (ea_cons (ev_var rfl) (ea_cons (ev_var rfl) (ea_cons (ev_var rfl) ea_nil)))) (by simp)))) (by simp) fun H15 e15 => ⟨fun i σ' H' => Ex H15 H' ∧ ∃ y1 y2 y3 y4 y5 y6 y7, σ' = [some (.ref a1), y1, some (.ref b), some (.int n), some (.ref c), some (.ref o), y2, y3, some (.ref a2), some (.ref d), some (.ref sp), y4, some (.ref t), y5, y6, y7], ⟨Ex.refl _, _, _, _, _, _, _, _, rfl⟩, fun i σ' H' p => Ex.xb p.1, ?_, ?_⟩
        · rintro i x σ' H16 H17 hi ⟨e16, y1, y2, y3, y4, y5, y6, y7, rfl⟩ e17
          have e1417 := (e15.trans e16).trans e17
          obtain ⟨z, l, rfl, hz, okl, hll⟩ := (hdone sp ss H14 e14 hss oks hssl x (List.mem_of_getElem? hi)).ex e1417
          have hd17 : H17 d = some (.dK (DS rd)) := exh (e14.trans e1417) hd12
          refine q_skip (EvT.is (et_not (et_B (ev__law_one_right (ag_D (g_Dold (ev_var rfl) (by walk_at "facth")) (ag_L (q_old (ev_var rfl) (by walk_at "fact")) ag_nil)) (by walk_at "side") (by walk_at "side")))) rfl) fun H18 e18 => ?_
          refine s_for (s := []) (i_tupV (qt_new (eu_tup (ea_cons (ev_var rfl) (ea_cons (ev_var rfl) (ea_cons (ev_var rfl) (ea_cons (ev_var rfl) ea_nil)))) (by simp)))) (by simp) fun H19 e19 => ⟨fun i σ' H' => Ex H19 H' ∧ ∃ y1 y2 y3 y4 y5 y6, σ' = [some (.ref a1), y1, some (.ref b), some (.int n), some (.ref c), some (.ref o), some (.ref z), y2, some (.ref a2), some (.ref d), some (.ref sp), y3, some (.ref t), y4, y5, y6], ⟨Ex.refl _, _, _, _, _, _, _, rfl⟩, fun i σ' H' p => Ex.xb p.1, ?_, ?_⟩
          · rintro i x σ' H20 H21 hi ⟨e20, y1, y2, y3, y4, y5, y6, rfl⟩ e21
            have e1721 := ((e18.trans e19).trans e20).trans e21
            obtain ⟨z2, l2, rfl, hz2, okl2, hll2⟩ := (hdone sp ss H14 e14 hss oks hssl x (List.mem_of_getElem? hi)).ex (e1417.trans e1721)
            have hd21 : H21 d = some (.dK (DS rd)) := exh e1721 hd17
            have hz21 : SL K H21 z (Txts l) := exl e1721 hz
            have hll3 : l.length = l2.length := by rw [hll, hll2]
            exact s_skip (EvT.is (et_not (et_B (ev__law_two_right (ag_D (g_Dold (ev_var rfl) (by walk_at "facth")) (ag_L (q_old (ev_var rfl) (by walk_at "fact")) (ag_L (q_old (ev_var rfl) (by walk_at "fact")) ag_nil))) (by walk_at "side") (by walk_at "side") (by walk_at "side") (by walk_at "side")))) rfl) fun H22 e22 => ⟨(e20.trans e21).trans e22, _, _, _, _, _, _, rfl⟩
          · rintro σ' H20 ⟨e20, y1, y2, y3, y4, y5, y6, rfl⟩
            exact ⟨((e16.trans e17).trans e18).trans (e19.trans e20), _, _, _, _, _, _, _, rfl⟩
        · rintro σ' H16 ⟨e16, y1, y2, y3, y4, y5, y6, y7, rfl⟩
          exact ⟨(((hX.trans e5).trans (Ex.trans e59 e912)).trans e14).trans (e15.trans e16), _, _, _, _, _, _, _, _, _, _, _, _, _, _, rfl⟩
  · rintro σ' H4 ⟨hx, y1, y2, y3, y4, y5, y6, y7, y8, y9, y10, y11, y12, y13, y14, rfl⟩
    have hz1 := last_rd
    have hz3 := last_t3
    have hz4 := last_t1
    exact s_ret2 (Ev.is (ev_andV (ev_eqS (ev_read_tape (ag_D (g_D (ed_disp (ep_cons (ev_cS lit_dot) (ev_cS (l := [113]) (by decide +kernel)) ep_nil) (by simp))) (ag_L (q_new (el_lst (emS_cons (ev_cS lit_dot) (emS_cons (ev_cS lit_o) (emS_cons (ev_cS lit_dot) emS_nil))) (by simp))) ag_nil)) (by walk_at "side") (by walk_at "side")) (ev_cS (l := [113, 113]) (by decide +kernel))) (fun hb42 => (ev_eqI (ev_holes (ag_D (g_D (ed_disp (ep_cons (ev_cS lit_dot) (ev_cS (l := [113]) (by decide +kernel)) ep_nil) (by simp))) (ag_L (q_new (el_lst (emS_cons (ev_cS lit_o) emS_nil) (by simp))) ag_nil)) (by walk_at "side") (by walk_at "side")) ev_c))) (by decide +kernel)) (RetV.ex k (((e1.trans e2).trans e3).trans hx))
theorem defAt_mk {K : PySem.W.Frag} {h : Heap} {mg : Str → Option Value} {x : Str} {st : Stmt} {f : Addr} {oc kV dc pm cd ct : Value} {od an : Option Addr} {sl : Array (Option Value)} {ps : List Str} (X : K.In h) (G : h.Ns mainGlobals mg)
    (a : PySem.W.nsIn K mainGlobals x = some (some (.ref f))) (l : K.lookup f = some ⟨oc, od, .func (PySem.W.fnOf x x (defArgs st) (defBody st) (defScope st) .none kV dc pm an cd ct), sl⟩) (c : PySem.W.codeIn K cd x = true) (k : PySem.W.keepIn K (.ref f) = true)
    (b : Fun K x x st f (PySem.W.fnOf x x (defArgs st) (defBody st) (defScope st) .none kV dc pm an cd ct) → Binds K (PySem.W.fnOf x x (defArgs st) (defBody st) (defScope st) .none kV dc pm an cd ct) ps []) : DefAt K mg x x st ps :=
  ⟨f, _, PySem.W.mg_of X G a, fun_mk l c k, b (fun_mk l c k)⟩
theorem all_mk {l : PySem.W.OpenLaw} {w : World} {K : PySem.W.Frag} {h : Heap} {mg : Str → Option Value} {fa f0 f1 f2 f3 f4 f5 f6 f7 f8 f9 f10 f11 f12 f13 f14 f15 f16 f17 f18 f19 f20 f21 f22 f23 f24 f25 f26 f27 : Addr} (X : K.In h) (G : h.Ns mainGlobals mg) (hfa : mg "law" = some (.ref fa))
    {od0 an0 od1 an1 od2 an2 od3 an3 od4 an4 od5 an5 od6 an6 od7 an7 od8 an8 od9 an9 od10 an10 od11 an11 od12 an12 od13 an13 od14 an14 od15 an15 od16 an16 od17 an17 od18 an18 od19 an19 od20 an20 od21 an21 od22 an22 od23 an23 od24 an24 od25 an25 od26 an26 od27 an27 : Option Addr} {sl0 sl1 sl2 sl3 sl4 sl5 sl6 sl7 sl8 sl9 sl10 sl11 sl12 sl13 sl14 sl15 sl16 sl17 sl18 sl19 sl20 sl21 sl22 sl23 sl24 sl25 sl26 sl27 : Array (Option Value)} {oc0 kV0 dc0 pm0 cd0 ct0 oc1 kV1 dc1 pm1 cd1 ct1 oc2 kV2 dc2 pm2 cd2 ct2 oc3 kV3 dc3 pm3 cd3 ct3 oc4 kV4 dc4 pm4 cd4 ct4 oc5 kV5 dc5 pm5 cd5 ct5 oc6 kV6 dc6 pm6 cd6 ct6 oc7 kV7 dc7 pm7 cd7 ct7 oc8 kV8 dc8 pm8 cd8 ct8 oc9 kV9 dc9 pm9 cd9 ct9 oc10 kV10 dc10 pm10 cd10 ct10 oc11 kV11 dc11 pm11 cd11 ct11 oc12 kV12 dc12 pm12 cd12 ct12 oc13 kV13 dc13 pm13 cd13 ct13 oc14 kV14 dc14 pm14 cd14 ct14 oc15 kV15 dc15 pm15 cd15 ct15 oc16 kV16 dc16 pm16 cd16 ct16 oc17 kV17 dc17 pm17 cd17 ct17 oc18 kV18 dc18 pm18 cd18 ct18 oc19 kV19 dc19 pm19 cd19 ct19 oc20 kV20 dc20 pm20 cd20 ct20 oc21 kV21 dc21 pm21 cd21 ct21 oc22 kV22 dc22 pm22 cd22 ct22 oc23 kV23 dc23 pm23 cd23 ct23 oc24 kV24 dc24 pm24 cd24 ct24 oc25 kV25 dc25 pm25 cd25 ct25 oc26 kV26 dc26 pm26 cd26 ct26 oc27 kV27 dc27 pm27 cd27 ct27 : Value}
    (a0 : PySem.W.nsIn K mainGlobals "_law_draw" = some (some (.ref f0))) (l0 : K.lookup f0 = some ⟨oc0, od0, .func (PySem.W.fnOf "_law_draw" "_law_draw" (defArgs s__law_draw) (defBody s__law_draw) (defScope s__law_draw) .none kV0 dc0 pm0 an0 cd0 ct0), sl0⟩) (c0 : PySem.W.codeIn K cd0 "_law_draw" = true) (k0 : PySem.W.keepIn K (.ref f0) = true)
    (a1 : PySem.W.nsIn K mainGlobals "_law_cell_at" = some (some (.ref f1))) (l1 : K.lookup f1 = some ⟨oc1, od1, .func (PySem.W.fnOf "_law_cell_at" "_law_cell_at" (defArgs s__law_cell_at) (defBody s__law_cell_at) (defScope s__law_cell_at) .none kV1 dc1 pm1 an1 cd1 ct1), sl1⟩) (c1 : PySem.W.codeIn K cd1 "_law_cell_at" = true) (k1 : PySem.W.keepIn K (.ref f1) = true)
    (a2 : PySem.W.nsIn K mainGlobals "_law_digits" = some (some (.ref f2))) (l2 : K.lookup f2 = some ⟨oc2, od2, .func (PySem.W.fnOf "_law_digits" "_law_digits" (defArgs s__law_digits) (defBody s__law_digits) (defScope s__law_digits) .none kV2 dc2 pm2 an2 cd2 ct2), sl2⟩) (c2 : PySem.W.codeIn K cd2 "_law_digits" = true) (k2 : PySem.W.keepIn K (.ref f2) = true)
    (a3 : PySem.W.nsIn K mainGlobals "_law_pool" = some (some (.ref f3))) (l3 : K.lookup f3 = some ⟨oc3, od3, .func (PySem.W.fnOf "_law_pool" "_law_pool" (defArgs s__law_pool) (defBody s__law_pool) (defScope s__law_pool) .none kV3 dc3 pm3 an3 cd3 ct3), sl3⟩) (c3 : PySem.W.codeIn K cd3 "_law_pool" = true) (k3 : PySem.W.keepIn K (.ref f3) = true)
    (a4 : PySem.W.nsIn K mainGlobals "_law_rows" = some (some (.ref f4))) (l4 : K.lookup f4 = some ⟨oc4, od4, .func (PySem.W.fnOf "_law_rows" "_law_rows" (defArgs s__law_rows) (defBody s__law_rows) (defScope s__law_rows) .none kV4 dc4 pm4 an4 cd4 ct4), sl4⟩) (c4 : PySem.W.codeIn K cd4 "_law_rows" = true) (k4 : PySem.W.keepIn K (.ref f4) = true)
    (a5 : PySem.W.nsIn K mainGlobals "_law_reader" = some (some (.ref f5))) (l5 : K.lookup f5 = some ⟨oc5, od5, .func (PySem.W.fnOf "_law_reader" "_law_reader" (defArgs s__law_reader) (defBody s__law_reader) (defScope s__law_reader) .none kV5 dc5 pm5 an5 cd5 ct5), sl5⟩) (c5 : PySem.W.codeIn K cd5 "_law_reader" = true) (k5 : PySem.W.keepIn K (.ref f5) = true)
    (a6 : PySem.W.nsIn K mainGlobals "_law_tape" = some (some (.ref f6))) (l6 : K.lookup f6 = some ⟨oc6, od6, .func (PySem.W.fnOf "_law_tape" "_law_tape" (defArgs s__law_tape) (defBody s__law_tape) (defScope s__law_tape) .none kV6 dc6 pm6 an6 cd6 ct6), sl6⟩) (c6 : PySem.W.codeIn K cd6 "_law_tape" = true) (k6 : PySem.W.keepIn K (.ref f6) = true)
    (a7 : PySem.W.nsIn K mainGlobals "_law_width" = some (some (.ref f7))) (l7 : K.lookup f7 = some ⟨oc7, od7, .func (PySem.W.fnOf "_law_width" "_law_width" (defArgs s__law_width) (defBody s__law_width) (defScope s__law_width) .none kV7 dc7 pm7 an7 cd7 ct7), sl7⟩) (c7 : PySem.W.codeIn K cd7 "_law_width" = true) (k7 : PySem.W.keepIn K (.ref f7) = true)
    (a8 : PySem.W.nsIn K mainGlobals "is_row" = some (some (.ref f8))) (l8 : K.lookup f8 = some ⟨oc8, od8, .func (PySem.W.fnOf "is_row" "is_row" (defArgs s_is_row) (defBody s_is_row) (defScope s_is_row) .none kV8 dc8 pm8 an8 cd8 ct8), sl8⟩) (c8 : PySem.W.codeIn K cd8 "is_row" = true) (k8 : PySem.W.keepIn K (.ref f8) = true)
    (a9 : PySem.W.nsIn K mainGlobals "check_tape" = some (some (.ref f9))) (l9 : K.lookup f9 = some ⟨oc9, od9, .func (PySem.W.fnOf "check_tape" "check_tape" (defArgs s_check_tape) (defBody s_check_tape) (defScope s_check_tape) .none kV9 dc9 pm9 an9 cd9 ct9), sl9⟩) (c9 : PySem.W.codeIn K cd9 "check_tape" = true) (k9 : PySem.W.keepIn K (.ref f9) = true)
    (a10 : PySem.W.nsIn K mainGlobals "meaning" = some (some (.ref f10))) (l10 : K.lookup f10 = some ⟨oc10, od10, .func (PySem.W.fnOf "meaning" "meaning" (defArgs s_meaning) (defBody s_meaning) (defScope s_meaning) .none kV10 dc10 pm10 an10 cd10 ct10), sl10⟩) (c10 : PySem.W.codeIn K cd10 "meaning" = true) (k10 : PySem.W.keepIn K (.ref f10) = true)
    (a11 : PySem.W.nsIn K mainGlobals "text_of" = some (some (.ref f11))) (l11 : K.lookup f11 = some ⟨oc11, od11, .func (PySem.W.fnOf "text_of" "text_of" (defArgs s_text_of) (defBody s_text_of) (defScope s_text_of) .none kV11 dc11 pm11 an11 cd11 ct11), sl11⟩) (c11 : PySem.W.codeIn K cd11 "text_of" = true) (k11 : PySem.W.keepIn K (.ref f11) = true)
    (a12 : PySem.W.nsIn K mainGlobals "is_letter" = some (some (.ref f12))) (l12 : K.lookup f12 = some ⟨oc12, od12, .func (PySem.W.fnOf "is_letter" "is_letter" (defArgs s_is_letter) (defBody s_is_letter) (defScope s_is_letter) .none kV12 dc12 pm12 an12 cd12 ct12), sl12⟩) (c12 : PySem.W.codeIn K cd12 "is_letter" = true) (k12 : PySem.W.keepIn K (.ref f12) = true)
    (a13 : PySem.W.nsIn K mainGlobals "width_of" = some (some (.ref f13))) (l13 : K.lookup f13 = some ⟨oc13, od13, .func (PySem.W.fnOf "width_of" "width_of" (defArgs s_width_of) (defBody s_width_of) (defScope s_width_of) .none kV13 dc13 pm13 an13 cd13 ct13), sl13⟩) (c13 : PySem.W.codeIn K cd13 "width_of" = true) (k13 : PySem.W.keepIn K (.ref f13) = true)
    (a14 : PySem.W.nsIn K mainGlobals "read_tape" = some (some (.ref f14))) (l14 : K.lookup f14 = some ⟨oc14, od14, .func (PySem.W.fnOf "read_tape" "read_tape" (defArgs s_read_tape) (defBody s_read_tape) (defScope s_read_tape) .none kV14 dc14 pm14 an14 cd14 ct14), sl14⟩) (c14 : PySem.W.codeIn K cd14 "read_tape" = true) (k14 : PySem.W.keepIn K (.ref f14) = true)
    (a15 : PySem.W.nsIn K mainGlobals "holes" = some (some (.ref f15))) (l15 : K.lookup f15 = some ⟨oc15, od15, .func (PySem.W.fnOf "holes" "holes" (defArgs s_holes) (defBody s_holes) (defScope s_holes) .none kV15 dc15 pm15 an15 cd15 ct15), sl15⟩) (c15 : PySem.W.codeIn K cd15 "holes" = true) (k15 : PySem.W.keepIn K (.ref f15) = true)
    (a16 : PySem.W.nsIn K mainGlobals "_law_means" = some (some (.ref f16))) (l16 : K.lookup f16 = some ⟨oc16, od16, .func (PySem.W.fnOf "_law_means" "_law_means" (defArgs s__law_means) (defBody s__law_means) (defScope s__law_means) .none kV16 dc16 pm16 an16 cd16 ct16), sl16⟩) (c16 : PySem.W.codeIn K cd16 "_law_means" = true) (k16 : PySem.W.keepIn K (.ref f16) = true)
    (a17 : PySem.W.nsIn K mainGlobals "_law_reads" = some (some (.ref f17))) (l17 : K.lookup f17 = some ⟨oc17, od17, .func (PySem.W.fnOf "_law_reads" "_law_reads" (defArgs s__law_reads) (defBody s__law_reads) (defScope s__law_reads) .none kV17 dc17 pm17 an17 cd17 ct17), sl17⟩) (c17 : PySem.W.codeIn K cd17 "_law_reads" = true) (k17 : PySem.W.keepIn K (.ref f17) = true)
    (a18 : PySem.W.nsIn K mainGlobals "_law_holes" = some (some (.ref f18))) (l18 : K.lookup f18 = some ⟨oc18, od18, .func (PySem.W.fnOf "_law_holes" "_law_holes" (defArgs s__law_holes) (defBody s__law_holes) (defScope s__law_holes) .none kV18 dc18 pm18 an18 cd18 ct18), sl18⟩) (c18 : PySem.W.codeIn K cd18 "_law_holes" = true) (k18 : PySem.W.keepIn K (.ref f18) = true)
    (a19 : PySem.W.nsIn K mainGlobals "_law_one_right" = some (some (.ref f19))) (l19 : K.lookup f19 = some ⟨oc19, od19, .func (PySem.W.fnOf "_law_one_right" "_law_one_right" (defArgs s__law_one_right) (defBody s__law_one_right) (defScope s__law_one_right) .none kV19 dc19 pm19 an19 cd19 ct19), sl19⟩) (c19 : PySem.W.codeIn K cd19 "_law_one_right" = true) (k19 : PySem.W.keepIn K (.ref f19) = true)
    (a20 : PySem.W.nsIn K mainGlobals "check_two" = some (some (.ref f20))) (l20 : K.lookup f20 = some ⟨oc20, od20, .func (PySem.W.fnOf "check_two" "check_two" (defArgs s_check_two) (defBody s_check_two) (defScope s_check_two) .none kV20 dc20 pm20 an20 cd20 ct20), sl20⟩) (c20 : PySem.W.codeIn K cd20 "check_two" = true) (k20 : PySem.W.keepIn K (.ref f20) = true)
    (a21 : PySem.W.nsIn K mainGlobals "goes_over" = some (some (.ref f21))) (l21 : K.lookup f21 = some ⟨oc21, od21, .func (PySem.W.fnOf "goes_over" "goes_over" (defArgs s_goes_over) (defBody s_goes_over) (defScope s_goes_over) .none kV21 dc21 pm21 an21 cd21 ct21), sl21⟩) (c21 : PySem.W.codeIn K cd21 "goes_over" = true) (k21 : PySem.W.keepIn K (.ref f21) = true)
    (a22 : PySem.W.nsIn K mainGlobals "over" = some (some (.ref f22))) (l22 : K.lookup f22 = some ⟨oc22, od22, .func (PySem.W.fnOf "over" "over" (defArgs s_over) (defBody s_over) (defScope s_over) .none kV22 dc22 pm22 an22 cd22 ct22), sl22⟩) (c22 : PySem.W.codeIn K cd22 "over" = true) (k22 : PySem.W.keepIn K (.ref f22) = true)
    (a23 : PySem.W.nsIn K mainGlobals "becomes" = some (some (.ref f23))) (l23 : K.lookup f23 = some ⟨oc23, od23, .func (PySem.W.fnOf "becomes" "becomes" (defArgs s_becomes) (defBody s_becomes) (defScope s_becomes) .none kV23 dc23 pm23 an23 cd23 ct23), sl23⟩) (c23 : PySem.W.codeIn K cd23 "becomes" = true) (k23 : PySem.W.keepIn K (.ref f23) = true)
    (a24 : PySem.W.nsIn K mainGlobals "_law_over" = some (some (.ref f24))) (l24 : K.lookup f24 = some ⟨oc24, od24, .func (PySem.W.fnOf "_law_over" "_law_over" (defArgs s__law_over) (defBody s__law_over) (defScope s__law_over) .none kV24 dc24 pm24 an24 cd24 ct24), sl24⟩) (c24 : PySem.W.codeIn K cd24 "_law_over" = true) (k24 : PySem.W.keepIn K (.ref f24) = true)
    (a25 : PySem.W.nsIn K mainGlobals "_law_can" = some (some (.ref f25))) (l25 : K.lookup f25 = some ⟨oc25, od25, .func (PySem.W.fnOf "_law_can" "_law_can" (defArgs s__law_can) (defBody s__law_can) (defScope s__law_can) .none kV25 dc25 pm25 an25 cd25 ct25), sl25⟩) (c25 : PySem.W.codeIn K cd25 "_law_can" = true) (k25 : PySem.W.keepIn K (.ref f25) = true)
    (a26 : PySem.W.nsIn K mainGlobals "_law_two_right" = some (some (.ref f26))) (l26 : K.lookup f26 = some ⟨oc26, od26, .func (PySem.W.fnOf "_law_two_right" "_law_two_right" (defArgs s__law_two_right) (defBody s__law_two_right) (defScope s__law_two_right) .none kV26 dc26 pm26 an26 cd26 ct26), sl26⟩) (c26 : PySem.W.codeIn K cd26 "_law_two_right" = true) (k26 : PySem.W.keepIn K (.ref f26) = true)
    (a27 : PySem.W.nsIn K mainGlobals "law" = some (some (.ref f27))) (l27 : K.lookup f27 = some ⟨oc27, od27, .func (PySem.W.fnOf "law" "law" (defArgs s_law) (defBody s_law) (defScope s_law) .none kV27 dc27 pm27 an27 cd27 ct27), sl27⟩) (c27 : PySem.W.codeIn K cd27 "law" = true) (k27 : PySem.W.keepIn K (.ref f27) = true)
    (z0 : PySem.W.nsIn K mainGlobals "abs" = some none)
    (z1 : PySem.W.nsIn K mainGlobals "all" = some none)
    (z2 : PySem.W.nsIn K mainGlobals "any" = some none)
    (z3 : PySem.W.nsIn K mainGlobals "bool" = some none)
    (z4 : PySem.W.nsIn K mainGlobals "dict" = some none)
    (z5 : PySem.W.nsIn K mainGlobals "enumerate" = some none)
    (z6 : PySem.W.nsIn K mainGlobals "int" = some none)
    (z7 : PySem.W.nsIn K mainGlobals "isinstance" = some none)
    (z8 : PySem.W.nsIn K mainGlobals "len" = some none)
    (z9 : PySem.W.nsIn K mainGlobals "list" = some none)
    (z10 : PySem.W.nsIn K mainGlobals "max" = some none)
    (z11 : PySem.W.nsIn K mainGlobals "min" = some none)
    (z12 : PySem.W.nsIn K mainGlobals "range" = some none)
    (z13 : PySem.W.nsIn K mainGlobals "str" = some none)
    (z14 : PySem.W.nsIn K mainGlobals "sum" = some none)
    (z15 : PySem.W.nsIn K mainGlobals "zip" = some none)
    {t0 : _} (n0 : PySem.W.nsIn K mainGlobals "HOLE" = some (some (.str (S [111]) t0)))
    {t1 : _} (n1 : PySem.W.nsIn K mainGlobals "BLANK" = some (some (.str (S [46]) t1)))
    {t2 : _} (n2 : PySem.W.nsIn K mainGlobals "MOST" = some (some (.int 30 t2)))
    {t3 : _} (n3 : PySem.W.nsIn K mainGlobals "LETTERS" = some (some (.str (S [97, 98, 99, 100, 101, 102, 103, 104, 105, 106, 107, 108, 109, 110, 111, 112, 113, 114, 115, 116, 117, 118, 119, 120, 121, 122]) t3)))
    {t4 : _} (n4 : PySem.W.nsIn K mainGlobals "WIDEST" = some (some (.int 4 t4))) :
    ∃ fd : FuncData, (∀ (s : Shared) (v : Value), BindsTo s fd ⟨[v], []⟩ [("_law_script", v)]) ∧ ∀ base : Heap, K.In base → base.Ns mainGlobals mg → FnOk l.prog w K mg base CX0 6 fa fd ["_law_script"] (sp_law K) := by
  have e := hfa.symm.trans (PySem.W.mg_of X G a27)
  cases e
  have T : Txt K mg := {
    z_abs := PySem.W.mg_none_of X G z0
    z_all := PySem.W.mg_none_of X G z1
    z_any := PySem.W.mg_none_of X G z2
    z_bool := PySem.W.mg_none_of X G z3
    z_dict := PySem.W.mg_none_of X G z4
    z_enumerate := PySem.W.mg_none_of X G z5
    z_int := PySem.W.mg_none_of X G z6
    z_isinstance := PySem.W.mg_none_of X G z7
    z_len := PySem.W.mg_none_of X G z8
    z_list := PySem.W.mg_none_of X G z9
    z_max := PySem.W.mg_none_of X G z10
    z_min := PySem.W.mg_none_of X G z11
    z_range := PySem.W.mg_none_of X G z12
    z_str := PySem.W.mg_none_of X G z13
    z_sum := PySem.W.mg_none_of X G z14
    z_zip := PySem.W.mg_none_of X G z15
    c_HOLE := ⟨_, PySem.W.mg_of X G n0⟩
    c_BLANK := ⟨_, PySem.W.mg_of X G n1⟩
    c_MOST := ⟨_, PySem.W.mg_of X G n2⟩
    c_LETTERS := ⟨_, PySem.W.mg_of X G n3⟩
    c_WIDEST := ⟨_, PySem.W.mg_of X G n4⟩
    d__law_draw := defAt_mk X G a0 l0 c0 k0 fun F => F.binds fun _ _ _ _ _ _ us hl => match us, hl with | [_, _, _], _ => rfl
    d__law_cell_at := defAt_mk X G a1 l1 c1 k1 fun F => F.binds fun _ _ _ _ _ _ us hl => match us, hl with | [_, _], _ => rfl
    d__law_digits := defAt_mk X G a2 l2 c2 k2 fun F => F.binds fun _ _ _ _ _ _ us hl => match us, hl with | [_, _, _, _], _ => rfl
    d__law_pool := defAt_mk X G a3 l3 c3 k3 fun F => F.binds fun _ _ _ _ _ _ us hl => match us, hl with | [_, _], _ => rfl
    d__law_rows := defAt_mk X G a4 l4 c4 k4 fun F => F.binds fun _ _ _ _ _ _ us hl => match us, hl with | [_], _ => rfl
    d__law_reader := defAt_mk X G a5 l5 c5 k5 fun F => F.binds fun _ _ _ _ _ _ us hl => match us, hl with | [_, _, _, _], _ => rfl
    d__law_tape := defAt_mk X G a6 l6 c6 k6 fun F => F.binds fun _ _ _ _ _ _ us hl => match us, hl with | [_, _, _, _], _ => rfl
    d__law_width := defAt_mk X G a7 l7 c7 k7 fun F => F.binds fun _ _ _ _ _ _ us hl => match us, hl with | [_], _ => rfl
    d_is_row := defAt_mk X G a8 l8 c8 k8 fun F => F.binds fun _ _ _ _ _ _ us hl => match us, hl with | [_, _], _ => rfl
    d_check_tape := defAt_mk X G a9 l9 c9 k9 fun F => F.binds fun _ _ _ _ _ _ us hl => match us, hl with | [_, _], _ => rfl
    d_meaning := defAt_mk X G a10 l10 c10 k10 fun F => F.binds fun _ _ _ _ _ _ us hl => match us, hl with | [_, _], _ => rfl
    d_text_of := defAt_mk X G a11 l11 c11 k11 fun F => F.binds fun _ _ _ _ _ _ us hl => match us, hl with | [_, _], _ => rfl
    d_is_letter := defAt_mk X G a12 l12 c12 k12 fun F => F.binds fun _ _ _ _ _ _ us hl => match us, hl with | [_], _ => rfl
    d_width_of := defAt_mk X G a13 l13 c13 k13 fun F => F.binds fun _ _ _ _ _ _ us hl => match us, hl with | [_], _ => rfl
    d_read_tape := defAt_mk X G a14 l14 c14 k14 fun F => F.binds fun _ _ _ _ _ _ us hl => match us, hl with | [_, _], _ => rfl
    d_holes := defAt_mk X G a15 l15 c15 k15 fun F => F.binds fun _ _ _ _ _ _ us hl => match us, hl with | [_, _], _ => rfl
    d__law_means := defAt_mk X G a16 l16 c16 k16 fun F => F.binds fun _ _ _ _ _ _ us hl => match us, hl with | [_, _], _ => rfl
    d__law_reads := defAt_mk X G a17 l17 c17 k17 fun F => F.binds fun _ _ _ _ _ _ us hl => match us, hl with | [_, _], _ => rfl
    d__law_holes := defAt_mk X G a18 l18 c18 k18 fun F => F.binds fun _ _ _ _ _ _ us hl => match us, hl with | [_], _ => rfl
    d__law_one_right := defAt_mk X G a19 l19 c19 k19 fun F => F.binds fun _ _ _ _ _ _ us hl => match us, hl with | [_, _], _ => rfl
    d_check_two := defAt_mk X G a20 l20 c20 k20 fun F => F.binds fun _ _ _ _ _ _ us hl => match us, hl with | [_, _, _], _ => rfl
    d_goes_over := defAt_mk X G a21 l21 c21 k21 fun F => F.binds fun _ _ _ _ _ _ us hl => match us, hl with | [_, _], _ => rfl
    d_over := defAt_mk X G a22 l22 c22 k22 fun F => F.binds fun _ _ _ _ _ _ us hl => match us, hl with | [_, _], _ => rfl
    d_becomes := defAt_mk X G a23 l23 c23 k23 fun F => F.binds fun _ _ _ _ _ _ us hl => match us, hl with | [_, _, _], _ => rfl
    d__law_over := defAt_mk X G a24 l24 c24 k24 fun F => F.binds fun _ _ _ _ _ _ us hl => match us, hl with | [_, _], _ => rfl
    d__law_can := defAt_mk X G a25 l25 c25 k25 fun F => F.binds fun _ _ _ _ _ _ us hl => match us, hl with | [_, _], _ => rfl
    d__law_two_right := defAt_mk X G a26 l26 c26 k26 fun F => F.binds fun _ _ _ _ _ _ us hl => match us, hl with | [_, _, _], _ => rfl
  }
  exact ⟨_, fun s v => .of_eq rfl, fun base _ _ => ok_law T (fun_mk (st := s_law) l27 c27 k27)⟩
end Ho
open PySem PySem.W PyProof.Rows in
set_option maxHeartbeats 0 in
theorem PySem.Challenge.cw_holetape_k01_reading_holds : PySem.Challenge.rw_holetape_k01_reading.Holds := by
  w_on; o_law; k_head; (case hw => w_witness2)
  k_fill
  refine L2.walk_of (l := PySem.Challenge.rw_holetape_k01_reading) (n := 63) (k := 6) (x := "_law_script") (CX := fun _ => L2.CX0) (sp := fun w => Ho.sp_law _) rfl (by decide) rfl ⟨rfl, by decide, by decide⟩ (fun w h Y => PySem.W.kIn_of Y) ?F (fun _ H a ns hl _ hS => ⟨rfl, .bl true, H, Evl.Ex.refl _, ⟨ns, ⟨_, _, rfl, ⟨a, rfl, hS⟩, rfl⟩, trivial, rfl⟩, fun H2 e => rfl⟩) (fun _ _ _ _ _ h => h)
  case F =>
    intro w mg fa h KX G hmg
    refine' Ho.all_mk KX G hmg ?a0 ?l0 ?c0 ?k0 ?a1 ?l1 ?c1 ?k1 ?a2 ?l2 ?c2 ?k2 ?a3 ?l3 ?c3 ?k3 ?a4 ?l4 ?c4 ?k4 ?a5 ?l5 ?c5 ?k5 ?a6 ?l6 ?c6 ?k6 ?a7 ?l7 ?c7 ?k7 ?a8 ?l8 ?c8 ?k8 ?a9 ?l9 ?c9 ?k9 ?a10 ?l10 ?c10 ?k10 ?a11 ?l11 ?c11 ?k11 ?a12 ?l12 ?c12 ?k12 ?a13 ?l13 ?c13 ?k13 ?a14 ?l14 ?c14 ?k14 ?a15 ?l15 ?c15 ?k15 ?a16 ?l16 ?c16 ?k16 ?a17 ?l17 ?c17 ?k17 ?a18 ?l18 ?c18 ?k18 ?a19 ?l19 ?c19 ?k19 ?a20 ?l20 ?c20 ?k20 ?a21 ?l21 ?c21 ?k21 ?a22 ?l22 ?c22 ?k22 ?a23 ?l23 ?c23 ?k23 ?a24 ?l24 ?c24 ?k24 ?a25 ?l25 ?c25 ?k25 ?a26 ?l26 ?c26 ?k26 ?a27 ?l27 ?c27 ?k27 ?z0 ?z1 ?z2 ?z3 ?z4 ?z5 ?z6 ?z7 ?z8 ?z9 ?z10 ?z11 ?z12 ?z13 ?z14 ?z15 ?n0 ?n1 ?n2 ?n3 ?n4
    (case a0 => k_is); (case l0 => k_is); (case c0 => k_is); (case k0 => k_is); (case a1 => k_is); (case l1 => k_is); (case c1 => k_is); (case k1 => k_is); (case a2 => k_is); (case l2 => k_is); (case c2 => k_is); (case k2 => k_is); (case a3 => k_is); (case l3 => k_is); (case c3 => k_is); (case k3 => k_is); (case a4 => k_is); (case l4 => k_is); (case c4 => k_is); (case k4 => k_is); (case a5 => k_is); (case l5 => k_is); (case c5 => k_is); (case k5 => k_is); (case a6 => k_is); (case l6 => k_is); (case c6 => k_is); (case k6 => k_is); (case a7 => k_is); (case l7 => k_is); (case c7 => k_is); (case k7 => k_is); (case a8 => k_is); (case l8 => k_is); (case c8 => k_is); (case k8 => k_is); (case a9 => k_is); (case l9 => k_is); (case c9 => k_is); (case k9 => k_is); (case a10 => k_is); (case l10 => k_is); (case c10 => k_is); (case k10 => k_is); (case a11 => k_is); (case l11 => k_is); (case c11 => k_is); (case k11 => k_is); (case a12 => k_is); (case l12 => k_is); (case c12 => k_is); (case k12 => k_is); (case a13 => k_is); (case l13 => k_is); (case c13 => k_is); (case k13 => k_is); (case a14 => k_is); (case l14 => k_is); (case c14 => k_is); (case k14 => k_is); (case a15 => k_is); (case l15 => k_is); (case c15 => k_is); (case k15 => k_is); (case a16 => k_is); (case l16 => k_is); (case c16 => k_is); (case k16 => k_is); (case a17 => k_is); (case l17 => k_is); (case c17 => k_is); (case k17 => k_is); (case a18 => k_is); (case l18 => k_is); (case c18 => k_is); (case k18 => k_is); (case a19 => k_is); (case l19 => k_is); (case c19 => k_is); (case k19 => k_is); (case a20 => k_is); (case l20 => k_is); (case c20 => k_is); (case k20 => k_is); (case a21 => k_is); (case l21 => k_is); (case c21 => k_is); (case k21 => k_is); (case a22 => k_is); (case l22 => k_is); (case c22 => k_is); (case k22 => k_is); (case a23 => k_is); (case l23 => k_is); (case c23 => k_is); (case k23 => k_is); (case a24 => k_is); (case l24 => k_is); (case c24 => k_is); (case k24 => k_is); (case a25 => k_is); (case l25 => k_is); (case c25 => k_is); (case k25 => k_is); (case a26 => k_is); (case l26 => k_is); (case c26 => k_is); (case k26 => k_is); (case a27 => k_is); (case l27 => k_is); (case c27 => k_is); (case k27 => k_is); (case z0 => k_is); (case z1 => k_is); (case z2 => k_is); (case z3 => k_is); (case z4 => k_is); (case z5 => k_is); (case z6 => k_is); (case z7 => k_is); (case z8 => k_is); (case z9 => k_is); (case z10 => k_is); (case z11 => k_is); (case z12 => k_is); (case z13 => k_is); (case z14 => k_is); (case z15 => k_is); (case n0 => k_is); (case n1 => k_is); (case n2 => k_is); (case n3 => k_is); (case n4 => k_is)
