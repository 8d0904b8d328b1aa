import PyProof.Rows.All
import Wide.All
import OpenK.AllK
import Wide.FinOn
import PyProof.EqAt
import PyProof.EqKinds
import PyProof.TupleCall
import HandS.ForMost
import HandS.IsInst
import HandS.Star
import HandS.ClsMeth
import HandS.Property
import HandS.Defaults
import HandS.Wide
import HandS.FStr
import HandS.SlotsOwn
import KE.KMethU
import KE.KCallOwn
import PyProof.Rows.NestShow
import PyProof.FString3
import PyProof.Rows.StrIntSpec
import HandS.Evl
import OpenK.KMeth
import KE.KOpsOwn
import HandS.Text
import HandS.Codes
import HandS.SetFor
import HandS.Strs
import KE.RegKIsAll
import PySem.Challenge.RW_rungback_k06_whole_the_calendar_comes_ro
set_option Elab.async false
set_option linter.all false
set_option maxRecDepth 100000
set_option maxHeartbeats 4000000
namespace Cal
/-! ### the calendar in plain Lean -/
def LEN : List Int := [31, 28, 31, 30, 31, 30, 31, 31, 30, 31, 30, 31]
def leap (y : Int) : Bool := decide (y % 4 = 0) && (!decide (y % 100 = 0) || decide (y % 400 = 0))
def lp (y : Int) : Int := if leap y = true then 1 else 0
def ml (y m : Int) : Int := LEN.getD (m - 1).toNat 0 + (if m = 2 ∧ leap y = true then 1 else 0)
def dA (y : Int) : Int := 365 * (y - 1) + (y - 1) / 4 - (y - 1) / 100 + (y - 1) / 400
/-- the days of the first n months -/
def sm (y : Int) : Nat → Int
  | 0 => 0
  | n + 1 => sm y n + ml y (n + 1)
def dn (y m d : Int) : Int := dA y + sm y (m - 1).toNat + d - 1
theorem leap_iff (y : Int) : leap y = true ↔ y % 4 = 0 ∧ (y % 100 ≠ 0 ∨ y % 400 = 0) := by
  unfold leap
  simp only [Bool.and_eq_true, Bool.or_eq_true, decide_eq_true_eq, Bool.not_eq_true', decide_eq_false_iff_not]
theorem lp_cases (y : Int) : (lp y = 1 ∧ y % 4 = 0 ∧ (y % 100 ≠ 0 ∨ y % 400 = 0)) ∨ (lp y = 0 ∧ ¬ (y % 4 = 0 ∧ (y % 100 ≠ 0 ∨ y % 400 = 0))) := by
  unfold lp
  by_cases h : leap y = true
  · rw [if_pos h]; exact .inl ⟨rfl, (leap_iff y).mp h⟩
  · rw [if_neg h]; exact .inr ⟨rfl, fun z => h ((leap_iff y).mpr z)⟩
theorem dA_succ (y : Int) : dA (y + 1) = dA y + 365 + lp y := by
  unfold dA
  rcases lp_cases y with ⟨e, h1, h2⟩ | ⟨e, h⟩
  · rw [e]; omega
  · rw [e]; omega
theorem dA_one : dA 1 = 0 := by decide
theorem lp_nn (y : Int) : 0 ≤ lp y ∧ lp y ≤ 1 := by rcases lp_cases y with ⟨e, _⟩ | ⟨e, _⟩ <;> rw [e] <;> omega
theorem dA_lo (y : Int) (h : 1 ≤ y) : y - 1 ≤ dA y := by unfold dA; omega
theorem dA_mono {a b : Int} (h : a ≤ b) (h1 : 1 ≤ a) : dA a ≤ dA b := by unfold dA; omega
theorem dA_lt {a b : Int} (h1 : 1 ≤ a) (h2 : 1 ≤ b) (h : dA a < dA b) : a < b := by
  by_cases c : a < b
  · exact c
  · have := dA_mono (a := b) (b := a) (by omega) h2; omega
theorem dA_last : dA 1000000 = 365242134 := by decide
theorem ml1 (y : Int) : ml y 1 = 31 := by unfold ml LEN; simp
theorem ml2 (y : Int) : ml y 2 = 28 + lp y := by unfold ml LEN lp; simp
theorem ml3 (y : Int) : ml y 3 = 31 := by unfold ml LEN; simp
theorem ml4 (y : Int) : ml y 4 = 30 := by unfold ml LEN; simp
theorem ml5 (y : Int) : ml y 5 = 31 := by unfold ml LEN; simp
theorem ml6 (y : Int) : ml y 6 = 30 := by unfold ml LEN; simp
theorem ml7 (y : Int) : ml y 7 = 31 := by unfold ml LEN; simp
theorem ml8 (y : Int) : ml y 8 = 31 := by unfold ml LEN; simp
theorem ml9 (y : Int) : ml y 9 = 30 := by unfold ml LEN; simp
theorem ml10 (y : Int) : ml y 10 = 31 := by unfold ml LEN; simp
theorem ml11 (y : Int) : ml y 11 = 30 := by unfold ml LEN; simp
theorem ml12 (y : Int) : ml y 12 = 31 := by unfold ml LEN; simp
theorem m_cases {P : Int → Prop} {m : Int} (h1 : 1 ≤ m) (h2 : m ≤ 12) (a1 : P 1) (a2 : P 2) (a3 : P 3) (a4 : P 4) (a5 : P 5) (a6 : P 6) (a7 : P 7) (a8 : P 8) (a9 : P 9) (a10 : P 10) (a11 : P 11) (a12 : P 12) : P m := by
  have : m = 1 ∨ m = 2 ∨ m = 3 ∨ m = 4 ∨ m = 5 ∨ m = 6 ∨ m = 7 ∨ m = 8 ∨ m = 9 ∨ m = 10 ∨ m = 11 ∨ m = 12 := by omega
  rcases this with h | h | h | h | h | h | h | h | h | h | h | h <;> rw [h] <;> assumption
theorem ml_bd (y : Int) {m : Int} (h1 : 1 ≤ m) (h2 : m ≤ 12) : 28 ≤ ml y m ∧ ml y m ≤ 31 := by
  have l := lp_nn y
  refine m_cases (P := fun m => 28 ≤ ml y m ∧ ml y m ≤ 31) h1 h2 ?_ ?_ ?_ ?_ ?_ ?_ ?_ ?_ ?_ ?_ ?_ ?_ <;>
    simp only [ml1, ml2, ml3, ml4, ml5, ml6, ml7, ml8, ml9, ml10, ml11, ml12] <;> omega
theorem sm12 (y : Int) : sm y 12 = 365 + lp y := by
  have e : ∀ n : Nat, sm y (n + 1) = sm y n + ml y (n + 1) := fun _ => rfl
  rw [e 11, e 10, e 9, e 8, e 7, e 6, e 5, e 4, e 3, e 2, e 1, e 0]
  show (0 : Int) + ml y 1 + ml y 2 + ml y 3 + ml y 4 + ml y 5 + ml y 6 + ml y 7 + ml y 8 + ml y 9 + ml y 10 + ml y 11 + ml y 12 = _
  rw [ml1, ml2, ml3, ml4, ml5, ml6, ml7, ml8, ml9, ml10, ml11, ml12]
  omega
theorem sm_succ (y : Int) {m : Int} (h : 1 ≤ m) : sm y (m + 1 - 1).toNat = sm y (m - 1).toNat + ml y m := by
  obtain ⟨n, e⟩ : ∃ n : Nat, m = n + 1 := ⟨(m - 1).toNat, by omega⟩
  subst e
  have e1 : ((n : Int) + 1 + 1 - 1).toNat = n + 1 := by omega
  have e2 : ((n : Int) + 1 - 1).toNat = n := by omega
  rw [e1, e2]
  rfl
theorem sm_nn (y : Int) : ∀ n : Nat, n ≤ 12 → 0 ≤ sm y n
  | 0, _ => Int.le_refl _
  | n + 1, h => by
    have a := sm_nn y n (by omega)
    have b := ml_bd y (m := (n : Int) + 1) (by omega) (by omega)
    show 0 ≤ sm y n + ml y (n + 1)
    omega
theorem sm_mono (y : Int) {a : Nat} : ∀ {b : Nat}, a ≤ b → b ≤ 12 → sm y a ≤ sm y b
  | 0, h, _ => by
    have e : a = 0 := by omega
    subst e
    exact Int.le_refl _
  | b + 1, h, h2 => by
    by_cases c : a = b + 1
    · subst c; exact Int.le_refl _
    · have i := sm_mono y (a := a) (b := b) (by omega) (by omega)
      have m := ml_bd y (m := (b : Int) + 1) (by omega) (by omega)
      show sm y a ≤ sm y b + ml y (b + 1)
      omega
/-- a date -/
def Valid (y m d : Int) : Prop := 1 ≤ y ∧ y ≤ 999999 ∧ 1 ≤ m ∧ m ≤ 12 ∧ 1 ≤ d ∧ d ≤ ml y m
theorem dn_lo {y m d : Int} (v : Valid y m d) : 0 ≤ dn y m d := by
  obtain ⟨h1, h2, h3, h4, h5, h6⟩ := v
  have a := dA_lo y h1
  have b := sm_nn y (m - 1).toNat (by omega)
  unfold dn
  omega
theorem dn_hi {y m d : Int} (v : Valid y m d) : dn y m d < dA (y + 1) := by
  obtain ⟨h1, h2, h3, h4, h5, h6⟩ := v
  have a := sm_succ y h3
  have e : (m + 1 - 1).toNat = m.toNat := by omega
  rw [e] at a
  have b := sm_mono y (a := m.toNat) (b := 12) (by omega) (by omega)
  rw [sm12] at b
  have c := dA_succ y
  unfold dn
  omega
theorem dn_hi2 {y m d : Int} (v : Valid y m d) : dn y m d < 365242134 := by
  have a := dn_hi v
  have b := dA_mono (a := y + 1) (b := 1000000) (by have := v.2.1; omega) (by have := v.1; omega)
  rw [dA_last] at b
  omega
end Cal
namespace RB
open PySem PySem.Spec PyProof.Rows L2
/-! ### promises by the number of their arguments -/
abbrev B1 := V → Hp → VK → XK → Prop
abbrev B2 := V → V → Hp → VK → XK → Prop
abbrev B3 := V → V → V → Hp → VK → XK → Prop
abbrev B4 := V → V → V → V → Hp → VK → XK → Prop
abbrev B5 := V → V → V → V → V → Hp → VK → XK → Prop
abbrev B6 := V → V → V → V → V → V → Hp → VK → XK → Prop
abbrev sp0 (b : Hp → VK → XK → Prop) : Sp := fun vs H Q E => vs = [] ∧ b H Q E
abbrev sp1 (b : B1) : Sp := fun vs H Q E => ∃ x, vs = [x] ∧ b x H Q E
abbrev sp2 (b : B2) : Sp := fun vs H Q E => ∃ x y, vs = [x, y] ∧ b x y H Q E
abbrev sp3 (b : B3) : Sp := fun vs H Q E => ∃ x y z, vs = [x, y, z] ∧ b x y z H Q E
abbrev sp4 (b : B4) : Sp := fun vs H Q E => ∃ x y z u, vs = [x, y, z, u] ∧ b x y z u H Q E
abbrev sp5 (b : B5) : Sp := fun vs H Q E => ∃ x y z u v, vs = [x, y, z, u, v] ∧ b x y z u v H Q E
abbrev sp6 (b : B6) : Sp := fun vs H Q E => ∃ x y z u v w, vs = [x, y, z, u, v, w] ∧ b x y z u v w H Q E
section
variable (P : Program) (w : World) (K : PySem.W.Frag) (mg : Str → Option Value) (base : Heap) (CX : CXT)
/-- a def of the module by its name keeps a promise -/
def Has (k : Nat) (x : Str) (ps : List Str) (sp : Sp) : Prop :=
  ∃ (f : Addr) (fd : FuncData), FnOk P w K mg base CX k f fd ps sp ∧ mg x = some (.ref f) ∧ PySem.W.keepIn K (.ref f) = true ∧ Binds K fd ps []
/-- a def of the text stands behind its name -/
def DefIn (x qual : Str) (st : Stmt) (ps : List Str) : Prop :=
  ∃ (f : Addr) (fd : FuncData), Fun K x qual st f fd ∧ mg x = some (.ref f) ∧ Binds K fd ps []
end
section
variable {P : Program} {w : World} {K : PySem.W.Frag} {mg : Str → Option Value} {base : Heap} {CX : CXT}
theorem Has.of {k : Nat} {x : Str} {ps : List Str} {sp : Sp} {f : Addr} {fd : FuncData} {qual : Str} {st : Stmt} (F : Fun K x qual st f fd) (gm : mg x = some (.ref f)) (b : Binds K fd ps [])
    (h : FnOk P w K mg base CX k f fd ps sp) : Has P w K mg base CX k x ps sp := ⟨f, fd, h, gm, F.kp, b⟩
/-- THE RULE for a def of the module, without exceptions -/
theorem has_of {k : Nat} {x qual : Str} {st : Stmt} {N ps : List Str} {sp : Sp} (d : DefIn K mg x qual st ps) (S : FnScope N ps (defScope st)) (len : ∀ vs H Q E, sp vs H Q E → vs.length = ps.length)
    (hbody : ∀ (f : Addr) (cdv : Value) (A : Around) (outer : List Env) (s : Shared) (H : Hp) (vs : List V) (Q : VK) (E : XK), Room k (A.deeper (envOfC qual (defScope st) s.heap.objs.size f cdv)) → sp vs H Q E →
      ∃ t, PSs (cxOf CX0 P w K mg base N qual (defScope st) f cdv A outer s H E).nox (defBody st) t ∧ t { nx := fun _ H' => Q .non H', rt := Q } (start N vs) H) : Has P w K mg base CX0 (k + 1) x ps sp := by
  obtain ⟨f, fd, F, gm, b⟩ := d
  exact ⟨f, fd, F.ok S len (fun cdv A outer s H vs Q E hr h => hbody f cdv A outer s H vs Q E hr h), gm, F.kp, b⟩
theorem Has.imp {k : Nat} {x : Str} {ps : List Str} {sp sp' : Sp} (h : Has P w K mg base CX k x ps sp) (i : ∀ vs H Q E, sp' vs H Q E → sp vs H Q E) : Has P w K mg base CX k x ps sp' := by
  obtain ⟨f, fd, F, r⟩ := h
  exact ⟨f, fd, F.imp i, r⟩
end
/-- a call's reading -/
def tCal (sp : Sp) (E : XK) (t : TA) : TE := fun σ H Q => t σ H fun vs H1 => sp vs H1 Q E
section
variable {X : Cx} {CX : CXT} {k j : Nat} {x : Str} {ps : List Str} {sp : Sp} {E : XK} {p pos : Pos} {e : Expr} {es : List Expr} {t : TA}
theorem pe_callH (h : Has X.prog X.w X.K X.mg X.base CX j x ps sp) (hr : Room k X.A) (hx : Passes CX X E) (ha : PA X (e :: es) t) (hj : j ≤ k := by decide) (hg : Gl X x := by rfl) (hdb : (x == ("__debug__" : Str)) = false := by decide)
    (he : starEach (e :: es) X.env = (false, eval e X.env) :: starEach es X.env := by rfl) (hpl : (backTo pos (starEach es X.env)).any (·.1) = false := by rfl) : PE X (.Call (.Name x p) (e :: es) [] pos) (tCal sp E t) := by
  obtain ⟨f, fd, F, gm, kp, b⟩ := h
  have z := pe_call (pos := pos) (p := p) F (hr.mono hj) hg gm kp b .nil hx ha hdb he hpl
  refine ⟨fun pins s σ H Q I hq => z.run pins s σ H Q I ?_⟩
  show t σ H fun vs H1 => sp (vs ++ []) H1 Q E
  simp only [List.append_nil]
  exact hq
theorem pe_callH0 (h : Has X.prog X.w X.K X.mg X.base CX j x ps sp) (hr : Room k X.A) (hx : Passes CX X E) (hj : j ≤ k := by decide) (hg : Gl X x := by rfl) (hdb : (x == ("__debug__" : Str)) = false := by decide) :
    PE X (.Call (.Name x p) [] [] pos) (tCal sp E tNil) := by
  obtain ⟨f, fd, F, gm, kp, b⟩ := h
  have z := pe_call0 (pos := pos) (p := p) F (hr.mono hj) hg gm kp b .nil hx hdb
  exact ⟨fun pins s σ H Q I hq => z.run pins s σ H Q I hq⟩
/-- a constant of the module -/
def ConstIn (mg : Str → Option Value) (x : Str) (v : V) : Prop := ∃ u, mg x = some u ∧ RelV v u
theorem pe_globC {v : V} (h : ConstIn X.mg x v) (hg : Gl X x) (hd : (x == ("__debug__" : Str)) = false := by decide) : PE X (.Name x pos) (tC v) := by
  obtain ⟨u, hm, r⟩ := h
  exact pe_glob hg hm r hd
end
/-! ### a def that runs where nothing is being shown (repr wants it): A.guards = some [] -/
structure FnG (P : Program) (w : World) (K : PySem.W.Frag) (mg : Str → Option Value) (base : Heap) (CX : CXT) (k : Nat) (f : Addr) (fd : FuncData) (ps : List Str) (sp : Sp) : Prop where
  len : ∀ vs H Q E, sp vs H Q E → vs.length = ps.length
  run : ∀ (A : Around) (outer : List Env) (s : Shared) (H : Hp) (args : Args) (us : List Value) (vs : List V) (Q : VK) (E : XK),
    A.guards = some [] → Room k A → Env0 P w K mg base A outer s H → BindsTo s fd args (ps.zip us) → Vals vs us → sp vs H Q E →
    codeAny (model P w) A (.call (.ref f) args) (CR CX outer P w H s Q E) s
theorem guards_deeper {A : Around} {env : Env} (h : A.guards = some []) : (A.deeper env).guards = some [] := h
end RB
namespace RB
open PySem PySem.Spec PyProof.Rows L2
/-! ### static methods, asked of the class -/
structure SMet (K : PySem.W.Frag) (C : Addr) (mc : Value) (m : Str) (p g : Addr) : Prop where
  rd : PySem.W.readsIn K C mc = true
  ga : PySem.W.specialIn K (.ref C) "__getattribute__" = some (some (.builtin "type.__getattribute__"))
  at_ : PySem.W.findCls K (.ref C) mc m = some (.get (.builtin "staticmethod.__get__") (.ref p) .none (.ref C))
  rc : ∃ rest, PySem.W.recIn K p "staticmethod" = some (.ref g :: rest)
  kp : PySem.W.keepIn K (.ref g) = true
def tSMeth (C : Addr) (sp : Sp) (E : XK) (ta : TE) (t : TA) : TE := fun σ H Q => ta σ H fun x H1 => x = .ref C ∧ t σ H1 fun vs H2 => sp vs H2 Q E
section
variable {X : Cx} {pins : List (Addr × Obj)} {σ : L2.St} {H : Hp} {s : Shared} {C p g : Addr} {mc : Value} {m : Str} {A : Around} {E' : Value → Shared → Prop}
theorem getsm_ok {pl : Sem Bool} {Q : Value × List Value → Shared → Prop} (I : Inv X pins σ H s) (r : SMet X.K C mc m p g) (h : ∀ s', Inv X pins σ H s' → Q (.ref g, []) s') :
    wpAny (model X.prog X.w) A (getMethod (.ref C) m pl) Q E' s := by
  obtain ⟨rest, hp⟩ := r.rc
  refine PySem.W.method_cls I.kIn r.ga (PySem.W.cls_bind I.kIn r.rd r.at_ ?_)
  exact wpAny_call (PySem.W.sm_get (s := { s with toks := s.toks + 1 }) I.kIn hp (PySem.W.handed_on rfl (h _ (I.tok _))))
end
section
variable {X : Cx} {CX : CXT} {k j : Nat} {C p g : Addr} {mc : Value} {fd : FuncData} {ps : List Str} {sp : Sp} {E : XK} {o e : Expr} {es : List Expr} {m : Str} {pos apos : Pos} {ta : TE} {t : TA} {pl : Sem Bool}
theorem pe_smeth (he : PE X o ta) (r : SMet X.K C mc m p g) (F : FnOk X.prog X.w X.K X.mg X.base CX j g fd ps sp) (b : Binds X.K fd ps []) (hr : Room k X.A) (hj : j ≤ k) (hx : Passes CX X E) (ha : PA X (e :: es) t)
    (hst : starEach (e :: es) X.env = (false, eval e X.env) :: starEach es X.env := by rfl) (hpl : (backTo pos (starEach es X.env)).any (·.1) = false := by rfl)
    (ht : eval (.Call (.Attribute o m apos) (e :: es) [] pos) X.env = (do
      let ov ← eval o X.env
      standAt apos.atName
      let (f, first) ← holding [ov] (getMethod ov m pl)
      callWith pos f first (backTo pos (starEach (e :: es) X.env)) (backToKw pos (keywordEach [] X.env))) := by rfl) :
    PE X (.Call (.Attribute o m apos) (e :: es) [] pos) (tSMeth C sp E ta t) := by
  refine ⟨fun pins s σ H Q I h => ?_⟩
  refine PySem.W.methodCall_KW (pl := pl) (thn (he.run pins s σ H _ I h) fun u s1 ⟨x, H1, I1, rx, ex, q⟩ => ?_) ht
  subst ex
  obtain rfl : u = Value.ref C := rx
  refine getsm_ok I1 r fun s2 I2 => ?_
  refine PySem.W.callWith_K (first := []) (h₀ := X.base) I.ok.mod.kin r.kp (thn (ha.run pos pins s2 σ H1 _ I2 q) fun us s3 ⟨vs, H2, I3, rv, q2⟩ => ⟨I3.kIn, ?_⟩) hst hpl
  refine run_fn (us := us) (vs := vs) (F.mono hj) hr b .nil hx I3 rv ?_
  rw [List.append_nil]
  exact q2
theorem pe_smeth0 (he : PE X o ta) (r : SMet X.K C mc m p g) (F : FnOk X.prog X.w X.K X.mg X.base CX j g fd ps sp) (b : Binds X.K fd ps []) (hr : Room k X.A) (hj : j ≤ k) (hx : Passes CX X E)
    (ht : eval (.Call (.Attribute o m apos) [] [] pos) X.env = (do
      let ov ← eval o X.env
      standAt apos.atName
      let (f, first) ← holding [ov] (getMethod ov m pl)
      callWith pos f first (backTo pos (starEach [] X.env)) (backToKw pos (keywordEach [] X.env))) := by rfl) :
    PE X (.Call (.Attribute o m apos) [] [] pos) (tSMeth C sp E ta tNil) := by
  refine ⟨fun pins s σ H Q I h => ?_⟩
  refine PySem.W.methodCall_KW (pl := pl) (thn (he.run pins s σ H _ I h) fun u s1 ⟨x, H1, I1, rx, ex, q⟩ => ?_) ht
  subst ex
  obtain rfl : u = Value.ref C := rx
  refine getsm_ok I1 r fun s2 I2 => ?_
  exact PySem.W.callWith_K0 (first := []) I2.kIn r.kp (run_fn (us := []) (vs := []) (F.mono hj) hr b .nil hx I2 .nil q)
end
/-! ### own comparisons: x an instance whose class has the def, y anything whose type is told -/
structure OwnCmp (P : Program) (w : World) (K : PySem.W.Frag) (mg : Str → Option Value) (base : Heap) (CX : CXT) (k : Nat) (C : Addr) (m : Str) (sp : Sp) : Prop where
  ex : ∃ (g : Addr) (fd : FuncData) (ps : List Str), PySem.W.findIn K (.ref C) m = some (some (.ref g)) ∧ PySem.W.isFn K (.ref g) = true ∧ FnOk P w K mg base CX k g fd ps sp ∧ Binds K fd ps []
theorem looks_ref {M : Model} {h : Heap} {a : Addr} {o : Obj} (e : h.get? a = some o) : PySem.W.Looks M h (typeOf (.ref a)) o.cls := fun _ _ _ _ kp q => wpAny_typeOf_ref (kp _ _ e) q
/-- the type of a value, told as Looks wants it -/
theorem looks_ty {X : Cx} {pins : List (Addr × Obj)} {σ : L2.St} {H : Hp} {s : Shared} {y : V} {u t : Value} (I : Inv X pins σ H s) (ry : RelV y u) (ty : TyX X.K H y t) : PySem.W.Looks (model X.prog X.w) s.heap (typeOf u) t := by
  cases ty with
  | base ty =>
    cases ty with
    | non => cases (show u = Value.none from ry); exact PySem.W.Looks.of_pure rfl
    | bl y => cases (show u = Value.bool y from ry); exact PySem.W.Looks.of_pure rfl
    | int i => obtain ⟨t, q⟩ := (show ∃ t, u = Value.int i t from ry); cases q; exact PySem.W.Looks.of_pure rfl
    | str y => obtain ⟨t, q⟩ := (show ∃ t, u = Value.str y t from ry); cases q; exact PySem.W.Looks.of_pure rfl
    | flt y => obtain ⟨t, q⟩ := (show ∃ t, u = Value.float y t from ry); cases q; exact PySem.W.Looks.of_pure rfl
    | @lst a xs ea =>
      cases (show u = Value.ref a from ry)
      obtain ⟨_, _, n, _, h1⟩ := (show ObjOk X.prog X.w H s.heap a (.lst xs) from I.hok a _ ea)
      exact looks_ref h1
    | @frz a ob xs ea =>
      cases (show u = Value.ref a from ry)
      obtain ⟨_, _, _, n, _, h1⟩ := (show ObjOk X.prog X.w H s.heap a (.frz ob (.lst xs)) from I.hok a _ ea)
      exact looks_ref h1
    | @tup a xs ea =>
      cases (show u = Value.ref a from ry)
      obtain ⟨_, _, _, o, h1, h2, _⟩ := (show ObjOk X.prog X.w H s.heap a (.tup xs) from I.hok a _ ea)
      exact h2 ▸ looks_ref h1
    | @dK a kvs ea =>
      cases (show u = Value.ref a from ry)
      obtain ⟨_, _, vs, _, o, es, ep, h1, h2, _⟩ := (show ObjOk X.prog X.w H s.heap a (.dK kvs) from I.hok a _ ea)
      exact h2.1 ▸ looks_ref h1
    | @dT a kvs ea =>
      cases (show u = Value.ref a from ry)
      obtain ⟨_, _, xs, _, o, es, ep, h1, h2, _⟩ := (show ObjOk X.prog X.w H s.heap a (.dT kvs) from I.hok a _ ea)
      exact h2.1 ▸ looks_ref h1
    | @ins a C dx fs ea cl ha hn htk hm =>
      cases (show u = Value.ref a from ry)
      obtain ⟨mA, O, _⟩ := ins_get I.hok ea
      obtain ⟨od, J, _⟩ := O.look
      exact J.type
  | byt b => obtain ⟨t, q⟩ := (show ∃ t, u = Value.bytes b t from ry); cases q; exact PySem.W.Looks.of_pure rfl
  | @set a S n e =>
    cases (show u = Value.ref a from ry)
    obtain ⟨o, _, _, _, h1, h2, _⟩ := (show ObjOk X.prog X.w H s.heap a (.set S n) from I.hok a _ e)
    exact (show o.cls = Value.type "set" from h2.1) ▸ looks_ref h1
  | @kList a o e c => cases (show u = Value.ref a from ry); exact c ▸ looks_ref (I.kIn a o e)
  | @kTuple a o e c => cases (show u = Value.ref a from ry); exact c ▸ looks_ref (I.kIn a o e)
  | @kDict a o e c => cases (show u = Value.ref a from ry); exact c ▸ looks_ref (I.kIn a o e)
  | @fTuple a ob xs ea =>
    cases (show u = Value.ref a from ry)
    obtain ⟨_, _, _, _, o, h1, h2, _⟩ := (show ObjOk X.prog X.w H s.heap a (.frz ob (.tup xs)) from I.hok a _ ea)
    exact h2 ▸ looks_ref h1
  | @fDict a ob kvs ea =>
    cases (show u = Value.ref a from ry)
    obtain ⟨_, _, _, vs, _, o, es, ep, h1, h2, _⟩ := (show ObjOk X.prog X.w H s.heap a (.frz ob (.dK kvs)) from I.hok a _ ea)
    exact h2.1 ▸ looks_ref h1
/-- x op y by the def of x's class -/
def rOwnC (K : PySem.W.Frag) (C : Addr) (sp : Sp) (E : XK) : R2 := fun x y H Q => ∃ a dx fs t, x = .ref a ∧ H a = some (.ins C dx fs) ∧ TyX K H y t ∧ PySem.W.notFirst K C t = true ∧ sp [x, y] H (fun v H' => (∃ k, v = .bl k) ∧ Q v H') E
theorem op_ownC {X : Cx} {CX : CXT} {op : CmpOp} {k j : Nat} {C : Addr} {sp : Sp} {E : XK} (hop : ∀ a b, compareOp op a b = richCompare op a b) (h : OwnCmp X.prog X.w X.K X.mg X.base CX j C (cmpInfo op).2.1 sp) (hr : Room k X.A) (hj : j ≤ k) (hx : Passes CX X E) :
    OpR X (compareOp op) (rOwnC X.K C sp E) := by
  intro pins s σ H x y v u Q I rx ry hh
  obtain ⟨a, dx, fs, t, rfl, ha, ty, hn, q⟩ := hh
  cases (show v = Value.ref a from rx)
  obtain ⟨mA, O, _⟩ := ins_get I.hok ha
  obtain ⟨od, J, _⟩ := O.look
  obtain ⟨m, hF⟩ := I.fr
  obtain ⟨⟨g, fd, ps, hs, hf, F, b⟩⟩ := h
  rw [hop]
  refine PySem.W.cmp_K (op := op) hr.units0 hF I.ok.mod.kin J (looks_ty I ry ty) hn hs hf ?_
  refine wpAny_mono (run_fn (us := [.ref a, u]) (vs := [.ref a, y]) (F.mono hj) hr b .nil hx I (.cons rfl (.cons ry .nil)) (by rw [List.append_nil]; exact q)) (fun w s' z => ?_) fun _ _ x => x
  obtain ⟨z', H', I', rz, ⟨kk, ek⟩, qz⟩ := z
  subst ek
  cases (show w = Value.bool kk from rz)
  exact ⟨.bl kk, H', I', rfl, qz⟩
section
open PySem.W
variable {prog : Program} {w : World} {M : Model} {A : Around} {E : Value → Shared → Prop} {s : Shared} {K : PySem.W.Frag} {x C f : Addr} {ox : Obj} {od : Option Obj} {b tb : Value}
/-- a special of the class that is a built-in -/
theorem ifBound_B {id : String} {name : Str} {args : List Value} {Q : Option Value → Shared → Prop} (bnd : bindSpecial (.builtin id) (.ref x) = pure (.builtin id, [.ref x])) (X : K.In s.heap) (I : InstAt s.heap x ox C od) (hs : findIn K (.ref C) name = some (some (.builtin id)))
    (h : wpAny M A (call (.builtin id) (.ref x :: args)) (fun v => Q (some v)) E s) : wpAny M A (callSpecialIfBound? (.ref x) name args) Q E s := by
  have fin : wpAny M A (call (.builtin id) ([.ref x] ++ args) >>= fun v => pure (some v)) Q E s := wpAny_bind (wpAny_mono h (fun v s' z => wpAny_pure z) fun _ _ z => z)
  have one := wpAny_of_eq (M := M) (A := A) (E := E) (s := s) bnd (Q := fun p s' => wpAny M A (pure (some p) >>= fun (r : Option (Value × List Value)) => match r with | some (g, first) => (call g (first ++ args) >>= fun v => pure (some v)) | none => pure none) Q E s') (wpAny_bind (wpAny_pure fin))
  simp only [callSpecialIfBound?, bindSpecialIfBound?]
  refine wpAny_holding (wpAny_bind (wpAny_bind (wpAny_bind (I.type.here ((looks_findIn X hs).here (wpAny_bind (wpAny_askSetting (wpAny_ite ?_))))))))
  split
  · exact wpAny_bind (wpAny_of_eq bnd (wpAny_pure (by exact fin)))
  · exact wpAny_tryCatch (wpAny_bind (wpAny_of_eq bnd (wpAny_pure (by exact fin))))
/-- x != y where the class has __eq__ alone -/
theorem ne_own {Q : Value → Shared → Prop}
    (hu : A.units + 1 < cLine) (X : K.In s.heap) (I : InstAt s.heap x ox C od) (hb : Looks (model prog w) s.heap (typeOf b) tb) (hn : notFirst K C tb = true)
    (hne : findIn K (.ref C) "__ne__" = some (some (.builtin "object.__ne__"))) (hm : mroIn K C (.type "object") = some true)
    (hs : findIn K (.ref C) "__eq__" = some (some (.ref f))) (hf : isFn K (.ref f) = true)
    (h : wpAny (model prog w) A.in1 (call (.ref f) [.ref x, b]) (fun v s' => ∃ k, v = .bool k ∧ Q (.bool (!k)) s') E s) : wpAny (model prog w) A (compareOp .NotEq (.ref x) b) Q E s := by
  have core : wpAny (model prog w) A.in1 (Builtin.«object.__ne__» ⟨[.ref x, b], []⟩) (fun r s' => ∃ k, r = .done (.ret (.bool k)) ∧ Q (.bool k) s') E s := by
    unfold Builtin.«object.__ne__»
    have hu1 : A.in1.units < cLine := hu
    repeat (first
      | with_reducible refine wpAny_cRoomFor hu1 ?_
      | (refine wpAny_bind (m := callSpecialIfBound? (.ref x) (Str.ofString "__eq__") [b]) (ifBound_K X I hs hf (wpAny_mono h (fun r s' hr => by
          obtain ⟨k, rfl, hq⟩ := hr
          repeat (first | exact hq | exact ⟨_, rfl, hq⟩ | exact wpAny_pure ⟨_, rfl, hq⟩ | exact wpAny_pure hq | (refine wpAny_bind (m := truthy (.bool _)) (wpAny_truthy_bool ?_)) | wp_step)) fun _ _ e => e)))
      | wp_step)
  have tc : wpAny (model prog w) A (tryCompare (.ref x) "__ne__" b) (fun r s' => ∃ k, r = some (.bool k) ∧ Q (.bool k) s') E s := by
    unfold tryCompare
    refine wpAny_bind (ifBound_B (PySem.F.slot_object_ne.bind _) X I hne (wpAny_call (codeAny_call_builtin PySem.F.slot_object_ne.plain PySem.F.entry_object_ne
      (@PySem.W.check_slot (model prog w) _ _ s "object.__ne__" "object" "__ne__" (.ref x) [b] [] _ (by decide +kernel) (by decide +kernel) (I.type.andThen (looks_mroIn X hm)) (PySem.F.args_object_ne_2 _ _) (wpAny_mono core (fun r s' z => ?_) fun _ _ e => e)))))
    obtain ⟨k, rfl, q⟩ := z
    exact wpAny_pure ⟨k, rfl, q⟩
  unfold compareOp richCompare
  simp only [oneThing_ref]
  refine wpAny_holding (wpAny_bind (wpAny_cRoomFor (Nat.lt_of_succ_lt hu) ?_))
  rw [cmpInfo_NotEq]
  dsimp only
  refine wpAny_bind (I.type.here (wpAny_bind (hb.here ?_)))
  have fin : wpAny (model prog w) A (tryCompare (.ref x) "__ne__" b) (fun r s' => ∃ k, r = some (.bool k) ∧ Q (.bool k) s') E s := tc
  split
  · rename_i q
    have e : subIn K tb (.ref C) = some false := by
      rcases Bool.or_eq_true_iff.mp hn with e | e
      · rw [beq_iff_eq.mp e] at q
        simp at q
      · exact beq_iff_eq.mp e
    refine wpAny_bind ((looks_subIn X e).here ?_)
    simp only [Bool.false_eq_true, if_false]
    refine wpAny_bind (wpAny_mono fin (fun r s' z => ?_) fun _ _ e => e)
    obtain ⟨k, rfl, q⟩ := z
    exact wpAny_pure q
  · refine wpAny_bind (wpAny_pure ?_)
    simp only [Bool.false_eq_true, if_false]
    refine wpAny_bind (wpAny_mono fin (fun r s' z => ?_) fun _ _ e => e)
    obtain ⟨k, rfl, q⟩ := z
    exact wpAny_pure q
end
structure OwnNe (K : PySem.W.Frag) (C : Addr) : Prop where
  ne : PySem.W.findIn K (.ref C) "__ne__" = some (some (.builtin "object.__ne__"))
  mr : PySem.W.mroIn K C (.type "object") = some true
theorem op_neC {X : Cx} {CX : CXT} {k j : Nat} {C : Addr} {sp : Sp} {E : XK} (h : OwnCmp X.prog X.w X.K X.mg X.base CX j C "__eq__" sp) (n : OwnNe X.K C) (hr : Room k X.A) (hj : j + 1 ≤ k) (hx : Passes CX X E) :
    OpR X (compareOp .NotEq) (fun x y H Q => ∃ a dx fs t, x = .ref a ∧ H a = some (.ins C dx fs) ∧ TyX X.K H y t ∧ PySem.W.notFirst X.K C t = true ∧ sp [x, y] H (fun v H' => ∃ k, v = .bl k ∧ Q (.bl (!k)) H') E) := by
  intro pins s σ H x y v u Q I rx ry hh
  obtain ⟨a, dx, fs, t, rfl, ha, ty, hn, q⟩ := hh
  cases (show v = Value.ref a from rx)
  obtain ⟨mA, O, _⟩ := ins_get I.hok ha
  obtain ⟨od, J, _⟩ := O.look
  obtain ⟨⟨g, fd, ps, hs, hf, F, b⟩⟩ := h
  have hr1 : Room j X.A.in1 := (hr.mono hj).in1
  have e0 := I.env0.in1
  have hq : sp ([V.ref a, y] ++ []) H (fun v H' => ∃ k, v = .bl k ∧ Q (.bl (!k)) H') E := by rw [List.append_nil]; exact q
  have hl : ([Value.ref a, u] ++ []).length = ps.length := by
    have z := F.len _ _ _ _ q
    rw [← z]; rfl
  refine ne_own (show X.A.units + 1 < cLine by have := hr.units; omega) I.kIn J (looks_ty I ry ty) hn n.ne n.mr hs hf ?_
  refine wpAny_call (codeAny_mono (F.run X.A.in1 X.stack s H ⟨[.ref a, u], []⟩ ([.ref a, u] ++ []) ([.ref a, y] ++ []) _ E hr1 e0 (b s [.ref a, u] I.kIn hl) (show Vals ([V.ref a, y] ++ []) ([Value.ref a, u] ++ []) from Paired.cons (show RelV (.ref a) (.ref a) from rfl) (Paired.cons ry Paired.nil)) hq) fun r s' hq => ?_)
  cases r with
  | error e => exact hx pins σ H s e s' I hq
  | ok fl =>
    cases fl with
    | ret u' =>
      obtain ⟨z', H', I', rz, kk, ek, qz⟩ := I.after hq
      subst ek
      cases (show u' = Value.bool kk from rz)
      exact ⟨kk, rfl, .bl (!kk), H', I', rfl, qz⟩
    | next => exact False.elim hq
    | brk => exact False.elim hq
    | cont => exact False.elim hq
/-- str(x) by the class's def -/
def rStrC (C : Addr) (sp : Sp) (E : XK) : List V → Hp → VK → Prop := fun xs H Q => ∃ a dx fs, xs = [.ref a] ∧ H a = some (.ins C dx fs) ∧ sp [.ref a] H (fun v H' => (∃ z, v = .str z) ∧ Q v H') E
theorem call_strC {X : Cx} {CX : CXT} {k j : Nat} {C : Addr} {sp : Sp} {E : XK} (h : OwnCmp X.prog X.w X.K X.mg X.base CX j C "__str__" sp) (hr : Room k X.A) (hj : j + 2 ≤ k) (hx : Passes CX X E) : CallR X (.type "str") (rStrC C sp E) := by
  intro pins s σ H xs us Q I r hh
  obtain ⟨a, dx, fs, rfl, ha, q⟩ := hh
  obtain ⟨u, rfl, ru⟩ := r.one
  cases (show u = Value.ref a from ru)
  obtain ⟨mA, O, _⟩ := ins_get I.hok ha
  obtain ⟨od, J, _⟩ := O.look
  obtain ⟨⟨g, fd, ps, hs, hf, F, b⟩⟩ := h
  have hr1 : Room j X.A.in1.in1 := ((hr.mono hj : Room (j + 2) X.A).in1).in1
  have hl : ([Value.ref a] ++ []).length = ps.length := by
    have z := F.len _ _ _ _ q
    rw [← z]; rfl
  refine PySem.W.kso_call (by have := hr.units; show X.A.units + 1 + 1 < cLine; omega) I.kIn J hs hf ?_
  refine wpAny_call (codeAny_mono (F.run X.A.in1.in1 X.stack s H ⟨[.ref a], []⟩ ([.ref a] ++ []) ([.ref a] ++ []) _ E hr1 I.env0.in1.in1 (b s [.ref a] I.kIn hl) (show Vals ([V.ref a] ++ []) ([Value.ref a] ++ []) from Paired.cons (show RelV (.ref a) (.ref a) from rfl) Paired.nil) (by rw [List.append_nil]; exact q)) fun r s' hq => ?_)
  cases r with
  | error e => exact hx pins σ H s e s' I hq
  | ok fl =>
    cases fl with
    | ret u' =>
      obtain ⟨z', H', I', rz, ⟨zz, ez⟩, qz⟩ := I.after hq
      subst ez
      obtain ⟨t, e⟩ := (show ∃ t, u' = Value.str zz t from rz)
      cases e
      exact ⟨.str zz, H', I', ⟨t, rfl⟩, qz⟩
    | next => exact False.elim hq
    | brk => exact False.elim hq
    | cont => exact False.elim hq
end RB
namespace RB
open PySem PySem.Spec PyProof.Rows L2
/-! ### defs that run where nothing is being shown -/
theorem FnG.of {P : Program} {w : World} {K : PySem.W.Frag} {mg : Str → Option Value} {base : Heap} {CX : CXT} {k : Nat} {f : Addr} {fd : FuncData} {ps : List Str} {sp : Sp} (F : FnOk P w K mg base CX k f fd ps sp) : FnG P w K mg base CX k f fd ps sp :=
  ⟨F.len, fun A outer s H args us vs Q E _ hr e0 hb r h => F.run A outer s H args us vs Q E hr e0 hb r h⟩
section
variable {CX : CXT} {P : Program} {w : World} {K : PySem.W.Frag} {mg : Str → Option Value} {base : Heap}
theorem fng_of {k : Nat} {f : Addr} {name qual : Str} {params : Arguments} {body : List Stmt} {scope : Scope} {dV kV doc pm cdv ct oc : Value} {an od : Option Addr} {osl : Array (Option Value)} {N ps : List Str} {sp : Sp}
    (lk : K.lookup f = some ⟨oc, od, .func (PySem.W.fnOf name qual params body scope dV kV doc pm an cdv ct), osl⟩) (hcd : PySem.W.codeIn K cdv qual = true) (S : FnScope N ps scope) (len : ∀ vs H Q E, sp vs H Q E → vs.length = ps.length)
    (hbody : ∀ (A : Around) (outer : List Env) (s : Shared) (H : Hp) (vs : List V) (Q : VK) (E : XK), A.guards = some [] → Room k (A.deeper (envOfC qual scope s.heap.objs.size f cdv)) → sp vs H Q E →
      ∃ t, PSs (cxOf CX P w K mg base N qual scope f cdv A outer s H E) body t ∧ t { nx := fun _ H' => Q .non H', rt := Q } (start N vs) H) :
    FnG P w K mg base CX (k + 1) f (PySem.W.fnOf name qual params body scope dV kV doc pm an cdv ct) ps sp := by
  refine ⟨len, fun A outer s H args us vs Q E hg hr e0 hb r hsp => ?_⟩
  have hl := len _ _ _ _ hsp
  have kp : ∀ b o, base.get? b = some o → s.heap.get? b = some o := fun b o e => (e0.bs b o e).1
  have KX : K.In s.heap := e0.mod.kin.keeps kp
  have kinds : ∀ y ∈ ps.zip us, scope.names.lookup y.1 = some .local ∨ (scope.names.lookup y.1 = some .cell ∧ ((cellsFrom (s.heap.objs.size + 1) scope.names []).lookup y.1).isSome = true) := by
    intro y hy
    have hy1 : y.1 ∈ ps := (List.of_mem_zip (show (y.1, y.2) ∈ ps.zip us from hy)).1
    exact (S.par y.1 hy1).elim (fun q => .inl q) fun q => .inr ⟨q, PySem.W.cellsFrom_some _ _ _ (.inl q)⟩
  refine codeAny_call_function hr.depth (KX _ _ lk) rfl S.co S.gen rfl (PySem.W.codeRec_of KX hcd) (hb _ _ _ _ (wpAny_newFunctionEnv_cells S.kind kinds fun env he s1 x => ?_))
  subst he
  refine ⟨(e0.mod.nolimit.keeps kp).keeps x.toInCall.keep, codeAny_func ?_⟩
  obtain ⟨t, ht, hq⟩ := hbody A outer s H vs Q E hg (hr.deeper _) hsp
  refine wpAny_mono (ht.run [] s1 (start N vs) H _ (inv_start S hr.hd e0 hl r x) hq) (fun fl s' hs => ?_) fun e s' hs => hs
  cases fl with
  | ret u => exact let ⟨v, _, H', J, rv, q⟩ := hs; ⟨v, H', J.os, J.bare, J.base, J.hok, rv, q⟩
  | next => exact let ⟨_, H', J, q⟩ := hs; ⟨V.non, H', J.os, J.bare, J.base, J.hok, rfl, q⟩
  | brk => exact let ⟨_, _, _, q⟩ := hs; False.elim q
  | cont => exact let ⟨_, _, _, q⟩ := hs; False.elim q
def HasG (P : Program) (w : World) (K : PySem.W.Frag) (mg : Str → Option Value) (base : Heap) (CX : CXT) (k : Nat) (x : Str) (ps : List Str) (sp : Sp) : Prop :=
  ∃ (f : Addr) (fd : FuncData), FnG P w K mg base CX k f fd ps sp ∧ mg x = some (.ref f) ∧ PySem.W.keepIn K (.ref f) = true ∧ Binds K fd ps []
theorem hasG_of {k : Nat} {x qual : Str} {st : Stmt} {N ps : List Str} {sp : Sp} (d : DefIn K mg x qual st ps) (S : FnScope N ps (defScope st)) (len : ∀ vs H Q E, sp vs H Q E → vs.length = ps.length)
    (hbody : ∀ (f : Addr) (cdv : Value) (A : Around) (outer : List Env) (s : Shared) (H : Hp) (vs : List V) (Q : VK) (E : XK), A.guards = some [] → Room k (A.deeper (envOfC qual (defScope st) s.heap.objs.size f cdv)) → sp vs H Q E →
      ∃ t, PSs (cxOf CX0 P w K mg base N qual (defScope st) f cdv A outer s H E).nox (defBody st) t ∧ t { nx := fun _ H' => Q .non H', rt := Q } (start N vs) H) : HasG P w K mg base CX0 (k + 1) x ps sp := by
  obtain ⟨f, fd, F, gm, b⟩ := d
  obtain ⟨oc, od, kV, doc, pm, an, cdv, ct, osl, rfl, lk, hcd⟩ := F.ex
  refine ⟨f, _, fng_of lk hcd S len fun A outer s H vs Q E hg hr hsp => ?_, gm, F.kp, b⟩
  obtain ⟨t, h, q⟩ := hbody f cdv A outer s H vs Q E hg hr hsp
  exact ⟨t, h.nox, q⟩
end
section
variable {X : Cx} {CX : CXT} {k j : Nat} {x : Str} {ps : List Str} {sp : Sp} {E : XK} {p pos : Pos} {e : Expr} {es : List Expr} {t : TA}
theorem run_fnG {pins : List (Addr × Obj)} {σ : L2.St} {H : Hp} {s : Shared} {Q : VK} {us : List Value} {vs : List V} {f : Addr} {fd : FuncData} (F : FnG X.prog X.w X.K X.mg X.base CX k f fd ps sp) (hg : X.A.guards = some []) (hr : Room k X.A) (hb : Binds X.K fd ps []) (hx : Passes CX X E)
    (I : Inv X pins σ H s) (r : Vals vs us) (h : sp vs H Q E) : wpAny (model X.prog X.w) X.A (call (.ref f) us) (EP X pins σ Q) X.xe s := by
  have hl : (us ++ []).length = ps.length := by rw [List.append_nil, ← r.length]; exact F.len _ _ _ _ h
  refine wpAny_call (codeAny_mono (F.run X.A X.stack s H ⟨us, []⟩ (us ++ []) vs Q E hg hr I.env0 (hb s us I.kIn hl) (by rw [List.append_nil]; exact r) h) fun r s' hq => ?_)
  cases r with
  | error e => exact hx pins σ H s e s' I hq
  | ok fl => cases fl <;> first | exact I.after hq | exact False.elim hq
theorem pe_callG (h : HasG X.prog X.w X.K X.mg X.base CX j x ps sp) (hG : X.A.guards = some []) (hr : Room k X.A) (hx : Passes CX X E) (ha : PA X (e :: es) t) (hj : j ≤ k := by decide) (hg : Gl X x := by rfl) (hdb : (x == ("__debug__" : Str)) = false := by decide)
    (he : starEach (e :: es) X.env = (false, eval e X.env) :: starEach es X.env := by rfl) (hpl : (backTo pos (starEach es X.env)).any (·.1) = false := by rfl) : PE X (.Call (.Name x p) (e :: es) [] pos) (tCal sp E t) := by
  obtain ⟨f, fd, F, gm, kp, b⟩ := h
  refine ⟨fun pins s σ H Q I h => wpAny_Call_Name_kw (ld_glob I hg gm ?_ hdb)⟩
  refine PySem.W.callWith_K (h₀ := X.base) I.ok.mod.kin kp (thn (ha.run pos pins s σ H _ I h) fun us s1 ⟨vs, H1, I1, r, q⟩ => ⟨I1.kIn, ?_⟩) he hpl
  exact run_fnG F hG (hr.mono hj) b hx I1 r q
end
/-! ### the law's end -/
theorem law_callG {P : Program} {w : World} {K : PySem.W.Frag} {mg mb : Str → Option Value} {k : Nat} {fa a : Addr} {fd : FuncData} {x : Str} {sp : Sp} {s₁ : Shared} {vs : List Value} {ns : List Int}
    (KX : K.In s₁.heap) (hns : s₁.heap.Ns mainGlobals mg) (hb : s₁.heap.Ns builtinsNs mb) (hbb : ∀ x : Str, x ≠ "__name__" → mb x = bootBuiltins x) (hlim : s₁.heap.NoLimit) (hg : s₁.gens = #[])
    (ha : s₁.heap.get? a = some { cls := .type "list", data := .seq vs.toArray }) (hi : IntsAre vs ns) (hl : ns.length ≤ sizeLine) (hr : Room k callerA) (F : ∀ base : Heap, K.In base → base.Ns mainGlobals mg → FnG P w K mg base CX0 k fa fd [x] sp)
    (hbind : ∀ (s : Shared) (u : Value), BindsTo s fd ⟨[u], []⟩ [(x, u)]) (hsp : ∀ H : Hp, Only H → SqL K H a (ns.map V.int) → sp [.ref a] H (fun v _ => v = .bl true) fun _ _ _ => False) :
    codeAny (model P w) callerA (.call (.ref fa) ⟨[.ref a], []⟩) (fun r s' => r = .ok (.ret (.bool true)) ∧ OldK s₁.heap s'.heap ∧ s'.os = s₁.os ∧ AllBare s'.gens) s₁ := by
  have rv := vals_ints hi
  -- the script tracked as locked, or as a written object of the module
  have go : ∀ H : Hp, Only H → SqL K H a (ns.map V.int) → HOk P w H s₁.heap → (∀ b, H b ≠ none → b = a) → (H a ≠ none → K.lookup a = none) →
      codeAny (model P w) callerA (.call (.ref fa) ⟨[.ref a], []⟩) (fun r s' => r = .ok (.ret (.bool true)) ∧ OldK s₁.heap s'.heap ∧ s'.os = s₁.os ∧ AllBare s'.gens) s₁ := by
    intro H hO hS hok hA hK
    have free : ∀ b, b ≠ a → H b = none := fun b hb => by
      cases q : H b with
      | none => rfl
      | some u => exact absurd (hA b (by rw [q]; simp)) hb
    have nsT : ∀ {b : Addr} {m : Str → Option Value}, s₁.heap.Ns b m → (hidT s₁.heap H).Ns b m := by
      rintro b m ⟨o, es, ep, e, d, r⟩
      refine ⟨o, es, ep, hidT_get e (free b fun z => ?_), d, r⟩
      rw [z, ha] at e
      cases e
      cases d
    have kT : K.In (hidT s₁.heap H) := fun b o e => hidT_get (KX b o e) (by
      cases q : H b with
      | none => rfl
      | some u =>
        have z := hA b (by rw [q]; simp)
        rw [z] at q e
        rw [hK (by rw [q]; simp)] at e
        cases e)
    have hM : Mod K mg (hidT s₁.heap H) := ⟨kT, nsT hns, ⟨mb, nsT hb, hbb⟩, hlim.elim fun mc h => ⟨mc, nsT h.1, h.2⟩⟩
    have e0 : Env0 P w K mg (hidT s₁.heap H) callerA [] s₁ H := ⟨rfl, hM, fun b o e => of_hidT e, Nat.le_of_eq (hidT_size _ _), trivial, fun b z => absurd (show b ∈ ([] : List Addr) from z) (by simp), hok, .of_eq hg⟩
    refine codeAny_mono ((F _ kT (nsT hns)).run callerA [] s₁ H ⟨[.ref a], []⟩ [.ref a] [.ref a] _ _ rfl hr e0 (hbind s₁ (.ref a)) (.cons rfl .nil) (hsp H hO hS)) fun r s' h => ?_
    cases r with
    | error e => exact False.elim h
    | ok fl =>
      cases fl with
      | next => exact False.elim h
      | brk => exact False.elim h
      | cont => exact False.elim h
      | ret u =>
        obtain ⟨v, H', os, bare, un, hok', r', q⟩ := h
        subst q
        obtain rfl : u = Value.bool true := r'
        refine ⟨rfl, OldK.of_keep fun b o e => ?_, os, bare⟩
        rcases hO b with z | ⟨ob, xs, z⟩
        · exact un.keep b o e z (fun z => absurd (show b ∈ ([] : List Addr) from z) (by simp)) (by simp)
        · have e1 := (hok b _ z).1
          have e2 := (hok' b _ (un.frzs b ob _ z)).1
          rw [e] at e1
          cases e1
          exact e2
  cases hk : K.lookup a with
  | some o =>
    have e := KX a o hk
    rw [ha] at e
    cases e
    exact go (fun _ => none) (fun _ => .inl rfl) (.inr ⟨_, vs.toArray, _, hk, rfl, rfl, rfl, by have z := hi.length; rw [List.size_toArray]; omega, by simpa using rv⟩) (fun b o q => nomatch q) (fun b q => absurd rfl q) (fun q => absurd rfl q)
  | none =>
    have hx : ∀ b, (fun c : Addr => if c = a then some (HO.frz { cls := .type "list", data := .seq vs.toArray } (.lst (ns.map V.int))) else (none : Option HO)) b ≠ none → b = a := fun b q => by
      by_cases z : b = a
      · exact z
      · exact absurd (if_neg z) q
    refine go (fun c => if c = a then some (.frz { cls := .type "list", data := .seq vs.toArray } (.lst (ns.map V.int))) else none) (fun b => ?_) (.inl (.inr ⟨_, if_pos rfl⟩)) (fun b o q => ?_) hx (fun _ => hk)
    · by_cases z : b = a
      · exact .inr ⟨_, _, if_pos z⟩
      · exact .inl (if_neg z)
    · have z : b = a := hx b (by rw [q]; simp)
      subst z
      have q2 : some (HO.frz { cls := .type "list", data := .seq vs.toArray } (.lst (ns.map V.int))) = some o := by rw [← q]; exact (if_pos rfl).symm
      cases q2
      exact ⟨ha, by rw [List.length_map]; exact hl, vs, _, rv, ha⟩
theorem walk_ofG {l : PySem.W.OpenLaw} {n k : Nat} {q : Program} {loose : List Str} {XP : (Str → Option Value) → Heap → Prop} {YP : World → Heap → Prop} {d : DefRec} {K : Params → PySem.W.Frag} {sp : World → Sp} {x : Str}
    (hn : l.most = some n) (hn2 : n ≤ sizeLine) (hdf : d.params.defaults = []) (hr : Room k callerA) (hY : ∀ (w : World) (h : Heap), YP w h → (K w.params).In h)
    (F : ∀ (w : World) (mg : Str → Option Value) (fa : Addr) (h : Heap), (K w.params).In h → h.Ns mainGlobals mg → mg d.name = some (.ref fa) →
      ∃ fd : FuncData, (∀ (s : Shared) (u : Value), BindsTo s fd ⟨[u], []⟩ [(x, u)]) ∧ ∀ base : Heap, (K w.params).In base → base.Ns mainGlobals mg → FnG l.prog w (K w.params) mg base CX0 k fa fd [x] (sp w))
    (hsp : ∀ (w : World) (H : Hp) (a : Addr) (ns : List Int), ns.length ≤ n → Only H → SqL (K w.params) H a (ns.map V.int) → sp w [.ref a] H (fun v _ => v = .bl true) fun _ _ _ => False) :
    PySem.W.WalkO q loose XP YP l.row.toRowW d [] (fun f vs => PySem.call f vs) := by
  refine Att.attach_call hn hdf fun w s₀ s₁ mg mb fa o pm cd doc a vs ns G Y ho hd hcd hmg hobj hints hlen hg => ?_
  obtain ⟨fd, hb, hF⟩ := F w mg fa _ (hY w _ Y) G.T.g hmg
  exact law_callG (hY w _ Y) G.T.g G.T.b G.T.builtins G.T.nolimit hg hobj hints (Nat.le_trans hlen hn2) hr hF hb fun H hO hS => hsp w H a ns hlen hO hS
/-! ### repr of data -/
def rReprD (K : PySem.W.Frag) : List V → Hp → VK → Prop := fun xs H Q => ∃ a d, xs = [.ref a] ∧ Dp K H (.ref a) d ∧ d.showable = true ∧ d.hasDict = false ∧ d.depth ≤ 60 ∧ d.shown.length ≤ sizeLine ∧ Q (.str d.shown) H
theorem call_reprD {X : Cx} (hg : X.A.guards = some []) (hu : X.A.units + 64 < cLine) : CallR X (.builtin "repr") (rReprD X.K) := by
  intro pins s σ H xs us Q I r h
  obtain ⟨a, d, rfl, hd, h1, h2, h3, h4, q⟩ := h
  obtain ⟨u, rfl, ru⟩ := r.one
  obtain ⟨as, rd⟩ := Dp.reads I d _ u hd ru
  cases (show u = Value.ref a from ru)
  refine repr_of_reads' rd h1 (PyData.noDict_hsm h2) hg (by omega) (fun _ _ e => e) (fun h' t tk hk => ?_) h4
  exact ⟨.str d.shown, H, I.kept (t' := tk) hk, ⟨t, rfl⟩, q⟩
end RB
namespace RB
open PySem PySem.Spec PyProof.Rows L2
section
open Builtin
variable {prog : Program} {w : World} {A : Around} {E : Value → Shared → Prop} {s : Shared}
theorem field_small {a : Int} {t : Tok} {spec : Str} {Q : Value → Shared → Prop} (hd : a.natAbs.log2 < 1920) (hok : intSpecOk spec = true)
    (h : Q (.str (intSpecTextOf spec a) (s.toks + 1)) { s with toks := s.toks + 1 + 1 }) (hsz : spec.length ≤ sizeLine) : wpAny (model prog w) A (formatField (.int a t) spec) Q E s := by
  unfold intSpecOk at hok
  cases hps : Builtin.Float.parseFormatSpec spec.cps.toList "int" 62 with
  | error m => rw [hps] at hok; simp at hok
  | ok f =>
    rw [hps] at hok
    simp only [Bool.and_eq_true, Bool.not_eq_true'] at hok
    obtain ⟨⟨hne, hasc⟩, hg⟩ := hok
    have ht : intSpecTextOf spec a = intSpecText f a := by unfold intSpecTextOf; rw [hps]
    rw [ht] at h
    unfold intSpecGood at hg
    simp only [Bool.and_eq_true] at hg
    obtain ⟨⟨⟨⟨⟨⟨hty, hpr⟩, hz⟩, hal⟩, hw⟩, hgr⟩, hsg⟩ := hg
    have ty := beq_iff_eq.mp hty
    have pr := Option.isNone_iff_eq_none.mp hpr
    have z0 : f.noNeg0 = false := by simpa using hz
    have al : f.alt = false := by simpa using hal
    have wd : ¬ (f.width.getD 0 > 100000) := by have : f.width.getD 0 ≤ 100000 := by simpa using hw
                                                omega
    have gr := Option.isNone_iff_eq_none.mp hgr
    have sg := Option.isNone_iff_eq_none.mp hsg
    have lt : a.natAbs < 2 ^ 1920 := by
      by_cases z : a.natAbs = 0
      · rw [z]; exact Nat.two_pow_pos _
      · exact (Nat.log2_lt z).mp hd
    have hdig : (Nat.toDigits 10 a.natAbs).length ≤ 4300 := by
      have e := (Nat.length_repr_le_iff (n := a.natAbs) (by decide : 0 < 4300)).mpr (Nat.lt_of_lt_of_le lt (by decide))
      rwa [← String.length_toList, Nat.toList_repr] at e
    have hlen : (intSpecText f a).length ≤ sizeLine := by
      have wd' : f.width.getD 0 ≤ 100000 := by omega
      rw [intSpecText_length a gr sg, sizeLine_eq]
      clear h
      split <;> omega
    show wpAny _ _ (holding [.int a t] (pyFormat (.int a t) spec)) Q E s
    unfold pyFormat
    refine wpAny_holding (wpAny_bind (wpAny_mkStr (wpAny_bind (m := callSpecial? (.int a t) (Str.ofString "__format__") [.str spec s.toks]) (wpAny_callSpecial?_slot (name := Str.ofString "__format__") (typeIs_int _ a t) slot_int_format ?_)) hsz))
    refine wpAny_call (codeAny_call_builtin slot_int_format.plain entry_int_format (slot_int_format.check _ _ _ _ _ _ _ _ (typeIs_int _ a t) (args_int_format _ _) ?_))
    unfold Builtin.«int.__format__»
    simp only [selfAndOne, noKeywords, Int.intOfSelf, asInt?, asStr?, List.isEmpty_nil, if_true, pure_bind, bind_pure, bind_assoc, hne, hasc, Bool.false_eq_true, if_false, show (Value.str spec s.toks == Value.none) = false from rfl]
    refine wpAny_bind (wpAny_typeNameOf (T := "str") (typeIs_str _ _ _) (by decide) fun _ => ?_)
    first | refine wpAny_bind (wpAny_typeNameOfCut_int ?_) | refine wpAny_bind (wpAny_typeNameOf_int ?_)
    simp only [hps, ty]
    rw [if_pos (by decide)]
    show wpAny _ _ (if _ then _ else _) _ _ _
    rw [if_neg (by simp [pr])]
    show wpAny _ _ (if _ then _ else _) _ _ _
    rw [if_neg (by simp [z0])]
    show wpAny _ _ (if _ then _ else _) _ _ _
    rw [if_neg (by decide)]
    show wpAny _ _ (do let r ← Builtin.overDigitLimit? a; _) _ _ _
    refine wpAny_bind (wpAny_of_eq (PySem.overDigitLimit_small hd) ?_)
    show wpAny _ _ (if _ then _ else _) _ _ _
    rw [if_neg (by simpa using wd)]
    show wpAny _ _ (retStr _) _ _ _
    unfold retStr
    refine wpAny_bind (wpAny_mkStr (wpAny_pure ?_) ?hs2)
    case hs2 =>
      simp only [al, Bool.false_eq_true, if_false, show ((10 : Nat) == 10) = true by decide, if_true]
      conv => lhs; arg 1; whnf
      simp only [intSpecText, intField', gr, sg, al, Bool.false_eq_true, if_false, show ((10 : Nat) == 10) = true by decide, if_true] at hlen ⊢
      exact hlen
    dsimp only
    refine wpAny_bind (wpAny_isInstance (typeIs_str _ _ _) isSubtype_str_str (wpAny_pure ?_))
    simp only [al, Bool.false_eq_true, if_false, show ((10 : Nat) == 10) = true by decide, if_true]
    conv => arg 1; arg 1; whnf
    simp only [intSpecText, intField', gr, sg, al, Bool.false_eq_true, if_false, show ((10 : Nat) == 10) = true by decide, if_true] at h ⊢
    exact h
end
def tFmtSp (sp : Str) (te : TE) : TE := fun σ H Q => te σ H fun x H1 => ∃ n, x = .int n ∧ n.natAbs.log2 < 1920 ∧ Q (.str (intSpecTextOf sp n)) H1
theorem pe_fmtSp {X : Cx} {e se : Expr} {te : TE} {sp : Str} {pos : Pos} (he : PE X e te) (hs : PE X se (tC (.str sp))) (hok : intSpecOk sp = true) (hz : sp.length ≤ 100) : PE X (.FormattedValue e (-1) (some se) pos) (tFmtSp sp te) := by
  refine ⟨fun pins s σ H Q I h => ?_⟩
  refine wpAny_FormattedValue_spec (thn (he.run pins s σ H _ I h) fun v s1 hh => ?_)
  obtain ⟨x, H1, I1, rx, n, rfl, hd, q⟩ := hh
  refine thn (hs.run pins s1 σ H1 (fun y H2 => y = .str sp ∧ H2 = H1) I1 ⟨rfl, rfl⟩) fun r s2 h2 => ?_
  obtain ⟨y, H2, I2, ry, rfl, rfl⟩ := h2
  obtain ⟨t, rfl⟩ := (show ∃ t, v = Value.int n t from rx)
  obtain ⟨u, rfl⟩ := (show ∃ u, r = Value.str sp u from ry)
  refine ⟨sp, u, rfl, field_small hd hok ?_ (Nat.le_trans hz (by decide))⟩
  exact ⟨.str (intSpecTextOf sp n), H2, (I2.tok _).tok _, ⟨_, rfl⟩, q⟩
end RB
namespace RB
open PySem PySem.Spec PyProof.Rows L2
/-! ### what the written part must show, as k_is shows it -/
def DefAt (K : PySem.W.Frag) (x qual : Str) (st : Stmt) : Prop :=
  ∃ (f : Addr) (oc : Value) (od : Option Addr) (kV doc pm : Value) (an : Option Addr) (cdv ct : Value) (osl : Array (Option Value)), PySem.W.nsIn K mainGlobals x = some (some (.ref f)) ∧
    K.lookup f = some ⟨oc, od, .func (PySem.W.fnOf x qual (defArgs st) (defBody st) (defScope st) .none kV doc pm an cdv ct), osl⟩ ∧ PySem.W.codeIn K cdv qual = true ∧ PySem.W.keepIn K (.ref f) = true
theorem DefAt.mk {K : PySem.W.Frag} {x qual : Str} {st : Stmt} {f : Addr} {oc : Value} {od : Option Addr} {kV doc pm : Value} {an : Option Addr} {cdv ct : Value} {osl : Array (Option Value)} (a : PySem.W.nsIn K mainGlobals x = some (some (.ref f)))
    (l : K.lookup f = some ⟨oc, od, .func (PySem.W.fnOf x qual (defArgs st) (defBody st) (defScope st) .none kV doc pm an cdv ct), osl⟩) (c : PySem.W.codeIn K cdv qual = true) (k : PySem.W.keepIn K (.ref f) = true) : DefAt K x qual st :=
  ⟨f, oc, od, kV, doc, pm, an, cdv, ct, osl, a, l, c, k⟩
/-- a method m of the class at C, name x -/
def MethAt (K : PySem.W.Frag) (C : Addr) (x qual : Str) (st : Stmt) : Prop :=
  ∃ (f : Addr) (oc : Value) (od : Option Addr) (kV doc pm : Value) (an : Option Addr) (cdv ct : Value) (osl : Array (Option Value)), PySem.W.findIn K (.ref C) x = some (some (.ref f)) ∧ PySem.W.isFn K (.ref f) = true ∧
    K.lookup f = some ⟨oc, od, .func (PySem.W.fnOf x qual (defArgs st) (defBody st) (defScope st) .none kV doc pm an cdv ct), osl⟩ ∧ PySem.W.codeIn K cdv qual = true ∧ PySem.W.keepIn K (.ref f) = true
theorem MethAt.mk {K : PySem.W.Frag} {C : Addr} {x qual : Str} {st : Stmt} {f : Addr} {oc : Value} {od : Option Addr} {kV doc pm : Value} {an : Option Addr} {cdv ct : Value} {osl : Array (Option Value)} (a : PySem.W.findIn K (.ref C) x = some (some (.ref f)))
    (i : PySem.W.isFn K (.ref f) = true) (l : K.lookup f = some ⟨oc, od, .func (PySem.W.fnOf x qual (defArgs st) (defBody st) (defScope st) .none kV doc pm an cdv ct), osl⟩) (c : PySem.W.codeIn K cdv qual = true) (k : PySem.W.keepIn K (.ref f) = true) : MethAt K C x qual st :=
  ⟨f, oc, od, kV, doc, pm, an, cdv, ct, osl, a, i, l, c, k⟩
/-- a static method -/
def StatAt (K : PySem.W.Frag) (C : Addr) (x qual : Str) (st : Stmt) : Prop :=
  ∃ (mc : Value) (p f : Addr) (rest : List Value) (oc : Value) (od : Option Addr) (kV doc pm : Value) (an : Option Addr) (cdv ct : Value) (osl : Array (Option Value)), PySem.W.typeIn K (.ref C) = some mc ∧ PySem.W.readsIn K C mc = true ∧
    PySem.W.specialIn K (.ref C) "__getattribute__" = some (some (.builtin "type.__getattribute__")) ∧ PySem.W.findCls K (.ref C) mc x = some (.get (.builtin "staticmethod.__get__") (.ref p) .none (.ref C)) ∧ PySem.W.recIn K p "staticmethod" = some (.ref f :: rest) ∧
    K.lookup f = some ⟨oc, od, .func (PySem.W.fnOf x qual (defArgs st) (defBody st) (defScope st) .none kV doc pm an cdv ct), osl⟩ ∧ PySem.W.codeIn K cdv qual = true ∧ PySem.W.keepIn K (.ref f) = true
theorem StatAt.mk {K : PySem.W.Frag} {C : Addr} {x qual : Str} {st : Stmt} {mc : Value} {p f : Addr} {rest : List Value} {oc : Value} {od : Option Addr} {kV doc pm : Value} {an : Option Addr} {cdv ct : Value} {osl : Array (Option Value)} (t : PySem.W.typeIn K (.ref C) = some mc) (rd : PySem.W.readsIn K C mc = true)
    (ga : PySem.W.specialIn K (.ref C) "__getattribute__" = some (some (.builtin "type.__getattribute__"))) (at_ : PySem.W.findCls K (.ref C) mc x = some (.get (.builtin "staticmethod.__get__") (.ref p) .none (.ref C))) (rc : PySem.W.recIn K p "staticmethod" = some (.ref f :: rest))
    (l : K.lookup f = some ⟨oc, od, .func (PySem.W.fnOf x qual (defArgs st) (defBody st) (defScope st) .none kV doc pm an cdv ct), osl⟩) (c : PySem.W.codeIn K cdv qual = true) (k : PySem.W.keepIn K (.ref f) = true) : StatAt K C x qual st :=
  ⟨mc, p, f, rest, oc, od, kV, doc, pm, an, cdv, ct, osl, t, rd, ga, at_, rc, l, c, k⟩
/-- a constant read off the class -/
def CvAt (K : PySem.W.Frag) (C : Addr) (x : Str) (v : V) : Prop := ∃ (mc u : Value), PySem.W.typeIn K (.ref C) = some mc ∧ PySem.W.readsIn K C mc = true ∧ PySem.W.specialIn K (.ref C) "__getattribute__" = some (some (.builtin "type.__getattribute__")) ∧ PySem.W.findCls K (.ref C) mc x = some (.val u) ∧ RelV v u
theorem CvAt.mk {K : PySem.W.Frag} {C : Addr} {x : Str} {v : V} {mc u : Value} (t : PySem.W.typeIn K (.ref C) = some mc) (rd : PySem.W.readsIn K C mc = true) (ga : PySem.W.specialIn K (.ref C) "__getattribute__" = some (some (.builtin "type.__getattribute__")))
    (at_ : PySem.W.findCls K (.ref C) mc x = some (.val u)) (r : RelV v u) : CvAt K C x v := ⟨mc, u, t, rd, ga, at_, r⟩
/-- a constant of the module -/
def CoAt (K : PySem.W.Frag) (x : Str) (v : V) : Prop := ∃ u, PySem.W.nsIn K mainGlobals x = some (some u) ∧ RelV v u
theorem CoAt.mk {K : PySem.W.Frag} {x : Str} {v : V} {u : Value} (a : PySem.W.nsIn K mainGlobals x = some (some u)) (r : RelV v u) : CoAt K x v := ⟨u, a, r⟩
/-- an __init__ with ints as defaults -/
def InitAt (K : PySem.W.Frag) (C : Addr) (qual : Str) (st : Stmt) (dvs : List V) : Prop :=
  ∃ (f T : Addr) (o : Obj) (its : List Value) (n : Nat) (oc : Value) (od : Option Addr) (kV doc pm : Value) (an : Option Addr) (cdv ct : Value) (osl : Array (Option Value)), PySem.W.findIn K (.ref C) "__init__" = some (some (.ref f)) ∧ PySem.W.isFn K (.ref f) = true ∧
    K.lookup f = some ⟨oc, od, .func (PySem.W.fnOf "__init__" qual (defArgs st) (defBody st) (defScope st) (.ref T) kV doc pm an cdv ct), osl⟩ ∧ PySem.W.codeIn K cdv qual = true ∧ PySem.W.keepIn K (.ref f) = true ∧ PySem.W.makesIn K C = true ∧ PySem.W.keepIn K (.ref C) = true ∧
    K.lookup T = some o ∧ o.data = .seq its.toArray n ∧ Vals dvs its
theorem InitAt.mk {K : PySem.W.Frag} {C : Addr} {qual : Str} {st : Stmt} {dvs : List V} {f T : Addr} {o : Obj} {its : List Value} {n : Nat} {oc : Value} {od : Option Addr} {kV doc pm : Value} {an : Option Addr} {cdv ct : Value} {osl : Array (Option Value)}
    (a : PySem.W.findIn K (.ref C) "__init__" = some (some (.ref f))) (i : PySem.W.isFn K (.ref f) = true) (l : K.lookup f = some ⟨oc, od, .func (PySem.W.fnOf "__init__" qual (defArgs st) (defBody st) (defScope st) (.ref T) kV doc pm an cdv ct), osl⟩) (c : PySem.W.codeIn K cdv qual = true)
    (k : PySem.W.keepIn K (.ref f) = true) (mk : PySem.W.makesIn K C = true) (kc : PySem.W.keepIn K (.ref C) = true) (lT : K.lookup T = some o) (oT : o.data = .seq its.toArray n) (rT : Vals dvs its) : InitAt K C qual st dvs :=
  ⟨f, T, o, its, n, oc, od, kV, doc, pm, an, cdv, ct, osl, a, i, l, c, k, mk, kc, lT, oT, rT⟩
/-- the arity of a def without defaults -/
def Bdg (x qual : Str) (st : Stmt) (ps : List Str) : Prop := ∀ (kV doc pm : Value) (an : Option Addr) (cdv ct : Value) (us : List Value), us.length = ps.length → bindArgs (PySem.W.fnOf x qual (defArgs st) (defBody st) (defScope st) .none kV doc pm an cdv ct) ⟨us, []⟩ = pure (ps.zip us)
section
variable {K : PySem.W.Frag} {mg : Str → Option Value} {h : Heap}
theorem DefAt.to {x qual : Str} {st : Stmt} {ps : List Str} (d : DefAt K x qual st) (X : K.In h) (G : h.Ns mainGlobals mg) (b : Bdg x qual st ps) : DefIn K mg x qual st ps := by
  obtain ⟨f, oc, od, kV, doc, pm, an, cdv, ct, osl, a, l, c, k⟩ := d
  exact ⟨f, _, fun_mk l c k, PySem.W.mg_of X G a, (fun_mk l c k).binds b⟩
theorem CoAt.to {x : Str} {v : V} (d : CoAt K x v) (X : K.In h) (G : h.Ns mainGlobals mg) : ConstIn mg x v := by
  obtain ⟨u, a, r⟩ := d
  exact ⟨u, PySem.W.mg_of X G a, r⟩
variable {P : Program} {w : World} {base : Heap}
/-- THE RULE for a method found in the class -/
theorem own_of {C : Addr} {k : Nat} {x qual : Str} {st : Stmt} {N ps : List Str} {sp : Sp} (d : MethAt K C x qual st) (b : Bdg x qual st ps) (S : FnScope N ps (defScope st)) (len : ∀ vs H Q E, sp vs H Q E → vs.length = ps.length)
    (hbody : ∀ (f : Addr) (cdv : Value) (A : Around) (outer : List Env) (s : Shared) (H : Hp) (vs : List V) (Q : VK) (E : XK), Room k (A.deeper (envOfC qual (defScope st) s.heap.objs.size f cdv)) → sp vs H Q E →
      ∃ t, PSs (cxOf CX0 P w K mg base N qual (defScope st) f cdv A outer s H E).nox (defBody st) t ∧ t { nx := fun _ H' => Q .non H', rt := Q } (start N vs) H) : OwnCmp P w K mg base CX0 (k + 1) C x sp := by
  obtain ⟨f, oc, od, kV, doc, pm, an, cdv, ct, osl, a, i, l, c, kp⟩ := d
  have F := fun_mk l c kp
  exact ⟨⟨f, _, ps, a, i, F.ok S len (fun cdv A outer s H vs Q E hr h => hbody f cdv A outer s H vs Q E hr h), F.binds b⟩⟩
/-- a static method keeps a promise -/
structure HasS (P : Program) (w : World) (K : PySem.W.Frag) (mg : Str → Option Value) (base : Heap) (CX : CXT) (k : Nat) (C : Addr) (m : Str) (sp : Sp) : Prop where
  ex : ∃ (mc : Value) (p g : Addr) (fd : FuncData) (ps : List Str), SMet K C mc m p g ∧ FnOk P w K mg base CX k g fd ps sp ∧ Binds K fd ps []
theorem stat_of {C : Addr} {k : Nat} {x qual : Str} {st : Stmt} {N ps : List Str} {sp : Sp} (d : StatAt K C x qual st) (b : Bdg x qual st ps) (S : FnScope N ps (defScope st)) (len : ∀ vs H Q E, sp vs H Q E → vs.length = ps.length)
    (hbody : ∀ (f : Addr) (cdv : Value) (A : Around) (outer : List Env) (s : Shared) (H : Hp) (vs : List V) (Q : VK) (E : XK), Room k (A.deeper (envOfC qual (defScope st) s.heap.objs.size f cdv)) → sp vs H Q E →
      ∃ t, PSs (cxOf CX0 P w K mg base N qual (defScope st) f cdv A outer s H E).nox (defBody st) t ∧ t { nx := fun _ H' => Q .non H', rt := Q } (start N vs) H) : HasS P w K mg base CX0 (k + 1) C x sp := by
  obtain ⟨mc, p, f, rest, oc, od, kV, doc, pm, an, cdv, ct, osl, t, rd, ga, at_, rc, l, c, kp⟩ := d
  have F := fun_mk l c kp
  exact ⟨⟨mc, p, f, _, ps, ⟨rd, ga, at_, ⟨rest, rc⟩, kp⟩, F.ok S len (fun cdv A outer s H vs Q E hr h => hbody f cdv A outer s H vs Q E hr h), F.binds b⟩⟩
/-- the class is made by an __init__ that keeps a promise (all its arguments handed) -/
structure HasM (P : Program) (w : World) (K : PySem.W.Frag) (mg : Str → Option Value) (base : Heap) (CX : CXT) (k : Nat) (C : Addr) (dvs : List V) (sp : Sp) : Prop where
  ex : ∃ (g : Addr) (fd : FuncData) (ps : List Str) (ds : List Value), Mk K C g ∧ FnOk P w K mg base CX k g fd ps sp ∧ Binds K fd ps ds ∧ Vals dvs ds
end
section
variable {X : Cx} {CX : CXT} {k j : Nat} {C : Addr} {sp : Sp} {E : XK} {o e : Expr} {es : List Expr} {x m : Str} {p pos apos : Pos} {ta : TE} {t : TA} {dvs : List V} {pl : Sem Bool}
theorem pe_smethH (he : PE X o ta) (h : HasS X.prog X.w X.K X.mg X.base CX j C m sp) (hr : Room k X.A) (hx : Passes CX X E) (ha : PA X (e :: es) t) (hj : j ≤ k := by decide)
    (hst : starEach (e :: es) X.env = (false, eval e X.env) :: starEach es X.env := by rfl) (hpl : (backTo pos (starEach es X.env)).any (·.1) = false := by rfl)
    (ht : eval (.Call (.Attribute o m apos) (e :: es) [] pos) X.env = (do
      let ov ← eval o X.env
      standAt apos.atName
      let (f, first) ← holding [ov] (getMethod ov m pl)
      callWith pos f first (backTo pos (starEach (e :: es) X.env)) (backToKw pos (keywordEach [] X.env))) := by rfl) :
    PE X (.Call (.Attribute o m apos) (e :: es) [] pos) (tSMeth C sp E ta t) := by
  obtain ⟨⟨mc, p, g, fd, ps, r, F, b⟩⟩ := h
  exact pe_smeth he r F b hr hj hx ha hst hpl ht
theorem pe_cvalH {v : V} {f : Str} (he : PE X e (tC (.ref C))) (h : CvAt X.K C f v) (hb : attributeBase e f X.env (eval e X.env) = eval e X.env := by rfl) : PE X (.Attribute e f pos) (tC v) := by
  obtain ⟨mc, u, t, rd, ga, at_, r⟩ := h
  have z := ClX.pe_cval (pos := pos) (f := f) he hb
  exact ⟨fun pins s σ H Q I hq => z.run pins s σ H Q I ⟨C, mc, v, u, rfl, ⟨rd, ga⟩, ⟨at_, r⟩, hq⟩⟩
/-- C(..), all but the defaults' values written -/
def tMak (C : Addr) (dvs : List V) (sp : Sp) (E : XK) (t : TA) : TE := fun σ H Q => t σ H fun vs H1 => ∀ x dx, H1 x = none → H1 dx = none → dx ≠ x →
  sp (.ref x :: (vs ++ dvs)) (upd (upd H1 dx (.own x)) x (.ins C dx [])) (fun v H2 => v = .non ∧ Q (.ref x) H2) E
theorem pe_makeH (h : HasM X.prog X.w X.K X.mg X.base CX j C dvs sp) (hm : X.mg x = some (.ref C)) (hr : Room k X.A) (hx : Passes CX X E) (ha : PA X (e :: es) t) (hj : j + 1 ≤ k := by decide) (hg : Gl X x := by rfl) (hdb : (x == ("__debug__" : Str)) = false := by decide)
    (he : starEach (e :: es) X.env = (false, eval e X.env) :: starEach es X.env := by rfl) (hpl : (backTo pos (starEach es X.env)).any (·.1) = false := by rfl) : PE X (.Call (.Name x p) (e :: es) [] pos) (tMak C dvs sp E t) := by
  obtain ⟨⟨g, fd, ps, ds, M, F, b, d⟩⟩ := h
  have z := pe_make (pos := pos) (p := p) M F (hr.mono hj) hg hm b d hx ha hdb he hpl
  exact ⟨fun pins s σ H Q I hq => z.run pins s σ H Q I hq⟩
end
end RB
namespace RB
open PySem PySem.Spec PyProof.Rows L2
theorem st_gen {t u : TS} {D : Ends} {σ : L2.St} {H : Hp} (h : ∀ N : L2.St → Hp → Prop, (∀ σ' H', u D σ' H' → N σ' H') → t { D with nx := N } σ H) : Evl.tCut t u D σ H := ⟨u D, h (u D) fun _ _ h => h, fun _ _ h => h⟩
theorem st_cut {t u : TS} {D : Ends} {σ : L2.St} {H : Hp} (M : L2.St → Hp → Prop) (h : t { D with nx := M } σ H) (k : ∀ σ' H', M σ' H' → u D σ' H') : Evl.tCut t u D σ H := ⟨M, h, k⟩
theorem cxK {CX : CXT} {P : Program} {w : World} {K : PySem.W.Frag} {mg : Str → Option Value} {base : Heap} {N : List Str} {qual : Str} {scope : Scope} {f : Addr} {cd : Value} {A : Around} {outer : List Env} {s : Shared} {H : Hp} {E : XK} : (cxOf CX P w K mg base N qual scope f cd A outer s H E).K = K := rfl
/-- the built-ins are still the built-ins -/
structure Bn (mg : Str → Option Value) : Prop where
  b_int : mg "int" = none
  b_list : mg "list" = none
  b_len : mg "len" = none
  b_abs : mg "abs" = none
  b_range : mg "range" = none
  b_sum : mg "sum" = none
  b_str : mg "str" = none
  b_isinstance : mg "isinstance" = none
  b_bool : mg "bool" = none
  b_max : mg "max" = none
  b_repr : mg "repr" = none
  b_tuple : mg "tuple" = none
  b_all : mg "all" = none
  b_any : mg "any" = none
  b_set : mg "set" = none
  b_sorted : mg "sorted" = none
  b_min : mg "min" = none
/-! ### heaps -/
/-- all that was tracked but p is as it was -/
def But (p : Addr) (H H' : Hp) : Prop := ∀ b o, H b = some o → b ≠ p → H' b = some o
theorem But.refl {p : Addr} {H : Hp} : But p H H := fun _ _ h _ => h
theorem But.trans {p : Addr} {H H1 H2 : Hp} (a : But p H H1) (b : But p H1 H2) : But p H H2 := fun c o h n => b c o (a c o h n) n
theorem But.of {p : Addr} {H H' : Hp} (a : Same H H') : But p H H' := fun c o h _ => a c o h
theorem same_new {H : Hp} {p : Addr} {o : HO} (h : H p = none) : Same H (upd H p o) := fun b x e => by
  rw [upd_ne (ne_of_none e h)]
  exact e
theorem But.new {p q : Addr} {H H' : Hp} {o : HO} (a : But p H H') (h : H' q = none) : But p H (upd H' q o) := a.trans (But.of (same_new h))
theorem But.wr {p : Addr} {H H' : Hp} {o : HO} (a : But p H H') : But p H (upd H' p o) := fun b x e n => by
  rw [upd_ne n]
  exact a b x e n
/-- a write to an object that H does not know -/
theorem But.own {p q : Addr} {H H' : Hp} {o : HO} (a : But p H H') (h : H q = none) : But p H (upd H' q o) := fun b x e n => by
  rw [upd_ne (ne_of_none e h)]
  exact a b x e n
theorem But.free {p q : Addr} {H H' : Hp} (a : But p H H') (h : H' q = none) (n : q ≠ p) : H q = none := by
  cases e : H q with
  | none => rfl
  | some o => rw [a q o e n] at h; cases h
theorem But.sqL {K : PySem.W.Frag} {p a : Addr} {H H' : Hp} {xs : List V} (b : But p H H') (h : SqL K H a xs) (n : a ≠ p) : SqL K H' a xs := by
  rcases h with (h | ⟨o, h⟩) | h
  · exact .inl (.inl (b _ _ h n))
  · exact .inl (.inr ⟨o, b _ _ h n⟩)
  · exact .inr h
theorem But.sqT {K : PySem.W.Frag} {p a : Addr} {H H' : Hp} {xs : List V} (b : But p H H') (h : SqT K H a xs) (n : a ≠ p) : SqT K H' a xs := by
  rcases h with (h | ⟨o, h⟩) | h
  · exact .inl (.inl (b _ _ h n))
  · exact .inl (.inr ⟨o, b _ _ h n⟩)
  · exact .inr h
/-! ### the pen: its cells at c, at most n draws so far -/
structure PenAt (H : Hp) (p c : Addr) (n : Nat) : Prop where
  ex : ∃ (ns : List Int) (k : Nat) (gr : Int), H p = some (.lst [.ref c, .int k, .int gr]) ∧ H c = some (.lst (ns.map V.int)) ∧ ns.length ≤ 63 ∧ k ≤ n ∧ 0 ≤ gr
theorem PenAt.pc {H : Hp} {p c : Addr} {n : Nat} (h : PenAt H p c n) : p ≠ c := by
  obtain ⟨⟨ns, k, gr, h1, h2, _⟩⟩ := h
  intro e
  subst e
  rw [h1] at h2
  have h3 := HO.lst.inj (Option.some.inj h2)
  cases ns with
  | nil => cases h3
  | cons a r => rw [List.map_cons] at h3; cases h3
theorem PenAt.keep {H H' : Hp} {p c : Addr} {n : Nat} (h : PenAt H p c n) (s : Same H H') : PenAt H' p c n := by
  obtain ⟨⟨ns, k, gr, h1, h2, r⟩⟩ := h
  exact ⟨⟨ns, k, gr, s _ _ h1, s _ _ h2, r⟩⟩
theorem PenAt.mono {H : Hp} {p c : Addr} {n m : Nat} (h : PenAt H p c n) (l : n ≤ m) : PenAt H p c m := by
  obtain ⟨⟨ns, k, gr, h1, h2, h3, h4, h5⟩⟩ := h
  exact ⟨⟨ns, k, gr, h1, h2, h3, by omega, h5⟩⟩
theorem PenAt.at {H : Hp} {p c : Addr} {n : Nat} (h : PenAt H p c n) : ∃ o, H p = some o := let ⟨⟨_, _, _, e, _⟩⟩ := h; ⟨_, e⟩
/-! ### attributes -/
theorem putF_new {f : Str} {v : V} : ∀ {fs : List (Str × V)}, (fs.map (·.1)).contains f = false → putF f v fs = fs ++ [(f, v)]
  | [], _ => rfl
  | (g, x) :: r, h => by
    have h2 : (f == g) = false ∧ ((r.map (·.1)).contains f) = false := by
      rw [List.map_cons, List.contains_cons, Bool.or_eq_false_iff] at h
      exact h
    have n : ¬ g = f := fun z => by
      rw [z] at h2
      have := h2.1
      simp at this
    show (if g = f then (g, v) :: r else (g, x) :: putF f v r) = (g, x) :: (r ++ [(f, v)])
    rw [if_neg n, putF_new h2.2]
theorem look_hit {f : Str} {v : V} {r : List (Str × V)} : List.lookup f ((f, v) :: r) = some v := by simp [List.lookup]
theorem look_miss {f g : Str} {v : V} {o : Option V} {r : List (Str × V)} (h : (f == g) = false) (k : List.lookup f r = o) : List.lookup f ((g, v) :: r) = o := by
  simp [List.lookup, h, k]
theorem look_nil {f : Str} : List.lookup f ([] : List (Str × V)) = none := rfl
/-! ### data of ints -/
theorem dp_ints {K : PySem.W.Frag} {H : Hp} : ∀ ns : List Int, DpAll K H (ns.map V.int) (ns.map PyData.int)
  | [] => .nil
  | n :: ns => .cons (.int n) (dp_ints ns)
theorem lay_ints : ∀ ns : List Int, PyData.canLayAll0 (ns.map PyData.int) = true
  | [] => by simp [PyData.canLayAll0]
  | n :: ns => by simp [PyData.canLayAll0, PyData.canLay0, lay_ints ns]
theorem depth_ints : ∀ ns : List Int, PyData.depthAll (ns.map PyData.int) = 0
  | [] => by simp [PyData.depthAll]
  | n :: ns => by simp [PyData.depthAll, PyData.depth, depth_ints ns]
theorem shaped_ints (ns : List Int) : SeqAt.shaped (.list (ns.map PyData.int)) = true := by
  unfold SeqAt.shaped
  simp [PyData.canLay0, lay_ints ns, PyData.depth, depth_ints ns]
theorem eqv_ints : ∀ ns ms : List Int, PyData.eqvAll (ns.map PyData.int) (ms.map PyData.int) = decide (ns = ms)
  | [], [] => by simp [PyData.eqvAll]
  | [], m :: ms => by simp [PyData.eqvAll]
  | n :: ns, [] => by simp [PyData.eqvAll]
  | n :: ns, m :: ms => by
    simp only [List.map_cons, PyData.eqvAll, PyData.eqv, eqv_ints ns ms, List.cons.injEq, Bool.decide_and]
    rfl
theorem rNe_ints {K : PySem.W.Frag} {H : Hp} {a b : Addr} {ns ms : List Int} {Q : VK} (ha : SqL K H a (ns.map V.int)) (hb : SqL K H b (ms.map V.int)) (q : Q (.bl (!decide (ns = ms))) H) : rNeD K (.ref a) (.ref b) H Q :=
  ⟨_, _, .lst ha (dp_ints ns), .lst hb (dp_ints ms), shaped_ints ns, shaped_ints ms, by rw [show PyData.eqv (.list (ns.map PyData.int)) (.list (ms.map PyData.int)) = PyData.eqvAll (ns.map PyData.int) (ms.map PyData.int) by simp [PyData.eqv], eqv_ints]; exact q⟩
theorem rEq_ints {K : PySem.W.Frag} {H : Hp} {a b : Addr} {ns ms : List Int} {Q : VK} (ha : SqL K H a (ns.map V.int)) (hb : SqL K H b (ms.map V.int)) (q : Q (.bl (decide (ns = ms))) H) : rEqD K (.ref a) (.ref b) H Q :=
  ⟨_, _, .lst ha (dp_ints ns), .lst hb (dp_ints ms), shaped_ints ns, shaped_ints ms, by rw [show PyData.eqv (.list (ns.map PyData.int)) (.list (ms.map PyData.int)) = PyData.eqvAll (ns.map PyData.int) (ms.map PyData.int) by simp [PyData.eqv], eqv_ints]; exact q⟩
/-- an item in bounds -/
theorem at_in {xs : List V} {z : Int} (h1 : 0 ≤ z) (h2 : z < (xs.length : Int)) : ∃ v, v ∈ xs ∧ atI xs z = some v := by
  obtain ⟨n, rfl⟩ : ∃ n : Nat, z = n := ⟨z.toNat, by omega⟩
  have h3 : n < xs.length := by omega
  exact ⟨xs[n], List.getElem_mem h3, atI_nat (List.getElem?_eq_getElem h3)⟩
theorem at_mod {xs : List V} {z : Int} (h : xs ≠ []) : ∃ v, v ∈ xs ∧ atI xs (z % (xs.length : Int)) = some v := by
  have hn : 0 < xs.length := List.length_pos_iff.mpr h
  exact at_in (Int.emod_nonneg z (by omega)) (Int.emod_lt_of_pos z (by omega))
/-! ### the draw's numbers -/
theorem pow_ok {x e : Int} (h0 : 0 ≤ e) (h1 : e ≤ 1000000) (hx : 0 ≤ x) (hx1 : x < 18446744073709551616) : CPow x e := ⟨h0, h1, by
  have e : (2 : Nat) ^ 64 = 18446744073709551616 := by decide
  rw [e]
  omega⟩
theorem mul_bd {a b A B : Int} (h1 : 0 ≤ a) (h2 : a ≤ A) (h3 : 0 ≤ b) (h4 : b ≤ B) : 0 ≤ a * b ∧ a * b ≤ A * B := ⟨Int.mul_nonneg h1 h3, Int.mul_le_mul h2 h4 h3 (by omega)⟩
theorem mix_ok {m k c d f : Int} (hm : 0 ≤ m) (hm1 : m ≤ 2147483648) (hk : 0 ≤ k) (hk1 : k ≤ 200000) (hc : 0 ≤ c) (hc1 : c ≤ 10000) (hd : 0 ≤ d) (hd1 : d ≤ 100000) (hf : 0 ≤ f) (hf1 : f ≤ 100000) :
    0 ≤ m * (2 * k + c) + d * k * k + f ∧ m * (2 * k + c) + d * k * k + f < 18446744073709551616 := by
  have a := mul_bd (a := m) (b := 2 * k + c) (A := 2147483648) (B := 410000) hm hm1 (by omega) (by omega)
  have b := mul_bd (a := d) (b := k) (A := 100000) (B := 200000) hd hd1 hk hk1
  have e := mul_bd (a := d * k) (b := k) (A := 20000000000) (B := 200000) b.1 (by omega) hk hk1
  omega
theorem small_mul {i j : Int} (h1 : 0 ≤ i) (h2 : i ≤ 1000000000000) : CMul i j := by
  have e : (2 : Int) ^ 64 = 18446744073709551616 := by decide
  refine .inl ?_
  rw [e]
  omega
/-! ### what the pen's defs promise -/
def bPen (K : PySem.W.Frag) : B1 := fun v H Q _ => ∃ (a : Addr) (ns : List Int), v = .ref a ∧ SqL K H a (ns.map V.int) ∧ ∀ p c H', PenAt H' p c 0 → Same H H' → H p = none → H c = none → Q (.ref p) H'
def bDraw : B2 := fun v u H Q _ => ∃ (p c : Addr) (n : Nat) (many : Int), v = .ref p ∧ u = .int many ∧ PenAt H p c n ∧ n ≤ 100000 ∧ 0 < many ∧ many < 1073741824 ∧
  ∀ r H', 0 ≤ r → r < many → PenAt H' p c (n + 1) → But p H H' → Q (.int r) H'
def bPick (K : PySem.W.Frag) : B2 := fun v u H Q _ => ∃ (p c : Addr) (n : Nat) (a : Addr) (xs : List V), v = .ref p ∧ u = .ref a ∧ PenAt H p c n ∧ n ≤ 100000 ∧ SqL K H a xs ∧ a ≠ p ∧ xs ≠ [] ∧ xs.length ≤ 1000 ∧
  ∀ x H', x ∈ xs → PenAt H' p c (n + 1) → But p H H' → Q x H'
end RB
namespace RB
open PySem PySem.Spec PyProof.Rows L2
/-! ### moments: what the program's defs promise -/
def isI : V → Bool
  | .int _ => true
  | _ => false
def isB (v : V) (lo hi : Int) : Bool := match v with
  | .int n => decide (lo ≤ n) && decide (n ≤ hi)
  | _ => false
def iOf : V → Int
  | .int n => n
  | _ => 0
theorem isB_int {n lo hi : Int} (h1 : lo ≤ n) (h2 : n ≤ hi) : isB (.int n) lo hi = true := by
  unfold isB
  simp [h1, h2]
/-- isinstance of int, bool answers of v -/
def WholeOk (K : PySem.W.Frag) (H : Hp) (v : V) : Prop := ∃ (t : Value) (b1 b2 : Bool), TyX K H v t ∧ PySem.W.kitOne K t (.type "int") = some b1 ∧ PySem.W.kitOne K t (.type "bool") = some b2 ∧ (b1 && !b2) = isI v
theorem whole_int {K : PySem.W.Frag} {H : Hp} {n : Int} : WholeOk K H (.int n) := ⟨_, true, false, .base (.int n), kit_ty (by decide +kernel), kit_ty (by decide +kernel), rfl⟩
def bWhole (K : PySem.W.Frag) : B1 := fun v H Q _ => WholeOk K H v ∧ Q (.bl (isI v)) H
def bBetween (K : PySem.W.Frag) : B3 := fun v l h H Q _ => ∃ lo hi : Int, l = .int lo ∧ h = .int hi ∧ WholeOk K H v ∧ Q (.bl (isB v lo hi)) H
def bLeap : B1 := fun v H Q _ => ∃ y : Int, v = .int y ∧ Q (.bl (Cal.leap y)) H
def bMl : B2 := fun v u H Q _ => ∃ y m : Int, v = .int y ∧ u = .int m ∧ 1 ≤ m ∧ m ≤ 12 ∧ Q (.int (Cal.ml y m)) H
def bDA : B1 := fun v H Q _ => ∃ y : Int, v = .int y ∧ Q (.int (Cal.dA y)) H
def bDn : B3 := fun v u z H Q _ => ∃ y m d : Int, v = .int y ∧ u = .int m ∧ z = .int d ∧ 1 ≤ m ∧ m ≤ 12 ∧ ∀ H', Same H H' → Q (.int (Cal.dn y m d)) H'
def bDate : B1 := fun v H Q _ => ∃ n : Int, v = .int n ∧ 0 ≤ n ∧ n < 365242134 ∧ ∀ p y m d H', H p = none → H' p = some (.tup [.int y, .int m, .int d]) → Same H H' → Cal.Valid y m d → Cal.dn y m d = n → Q (.ref p) H'
def bWd : B1 := fun v H Q _ => ∃ n : Int, v = .int n ∧ Q (.int (n % 7)) H
/-- the first wrong part, of any values -/
def wrongV (y m d h mi : V) : V :=
  if isB y 1 999999 = false then .str "year" else if isB m 1 12 = false then .str "month" else if isB d 1 (Cal.ml (iOf y) (iOf m)) = false then .str "day"
  else if isB h 0 23 = false then .str "hour" else if isB mi 0 59 = true then .non else .str "minute"
def bWrong (K : PySem.W.Frag) : B5 := fun y m d h mi H Q _ => WholeOk K H y ∧ WholeOk K H m ∧ WholeOk K H d ∧ WholeOk K H h ∧ WholeOk K H mi ∧ Q (wrongV y m d h mi) H
theorem sum_sm (y : Int) : ∀ n : Nat, ((List.range n).map fun (k : Nat) => Cal.ml y (1 + (k : Int))).sum = Cal.sm y n
  | 0 => rfl
  | n + 1 => by
    rw [List.range_succ, List.map_append, List.sum_append, sum_sm y n]
    show Cal.sm y n + (Cal.ml y (1 + (n : Int)) + 0) = Cal.sm y n + Cal.ml y ((n : Int) + 1)
    rw [Int.add_zero, Int.add_comm 1]
theorem isB_of {v : V} {lo hi : Int} (h : ¬ isB v lo hi = false) : ∃ n, v = .int n ∧ lo ≤ n ∧ n ≤ hi := by
  cases v with
  | int n =>
    refine ⟨n, rfl, ?_⟩
    unfold isB at h
    simp at h
    exact h
  | _ => exact absurd rfl h
/-- a moment in plain numbers -/
structure Mo where
  y : Int
  m : Int
  d : Int
  h : Int
  mi : Int
def Mo.num (o : Mo) : Int := Cal.dn o.y o.m o.d * 1440 + o.h * 60 + o.mi
def Mo.Ok (o : Mo) : Prop := Cal.Valid o.y o.m o.d ∧ 0 ≤ o.h ∧ o.h ≤ 23 ∧ 0 ≤ o.mi ∧ o.mi ≤ 59
/-- its attributes, in the order in which they are stored -/
def moF (o : Mo) : List (Str × V) := [("year", .int o.y), ("month", .int o.m), ("day", .int o.d), ("hour", .int o.h), ("minute", .int o.mi), ("date", .int (Cal.dn o.y o.m o.d)), ("weekday", .int (Cal.dn o.y o.m o.d % 7)), ("number", .int o.num)]
def MoAt (C : Addr) (H : Hp) (p : Addr) (o : Mo) : Prop := ∃ dx, H p = some (.ins C dx (moF o))
theorem MoAt.same {C : Addr} {H H' : Hp} {p : Addr} {o : Mo} (h : MoAt C H p o) (s : Same H H') : MoAt C H' p o := let ⟨dx, e⟩ := h; ⟨dx, s _ _ e⟩
theorem Mo.num_lo {o : Mo} (k : o.Ok) : 0 ≤ o.num := by
  obtain ⟨v, h1, h2, h3, h4⟩ := k
  have := Cal.dn_lo v
  unfold Mo.num
  omega
theorem Mo.num_hi {o : Mo} (k : o.Ok) : o.num < 525948672960 := by
  obtain ⟨v, h1, h2, h3, h4⟩ := k
  have := Cal.dn_hi2 v
  unfold Mo.num
  omega
theorem wrong_ok {o : Mo} (k : o.Ok) : wrongV (.int o.y) (.int o.m) (.int o.d) (.int o.h) (.int o.mi) = .non := by
  obtain ⟨⟨h1, h2, h3, h4, h5, h6⟩, h7, h8, h9, h10⟩ := k
  unfold wrongV
  rw [isB_int h1 h2, isB_int h3 h4, isB_int h7 h8, isB_int h9 h10, show isB (.int o.d) 1 (Cal.ml (iOf (.int o.y)) (iOf (.int o.m))) = true from isB_int h5 h6]
  rfl
/-- __init__ of right parts: the instance gets its attributes -/
def bInit (C : Addr) : B6 := fun v y m d h mi H Q _ => ∃ (p dx : Addr) (o : Mo), v = .ref p ∧ y = .int o.y ∧ m = .int o.m ∧ d = .int o.d ∧ h = .int o.h ∧ mi = .int o.mi ∧ o.Ok ∧ H p = some (.ins C dx []) ∧
  ∀ H', H' p = some (.ins C dx (moF o)) → But p H H' → Q .non H'
/-- the moment with a number -/
def bAt (C : Addr) : B1 := fun v H Q _ => ∃ n : Int, v = .int n ∧ 0 ≤ n ∧ n < 525948672960 ∧ ∀ p (o : Mo) H', H p = none → MoAt C H' p o → o.Ok → o.num = n → Same H H' → Q (.ref p) H'
/-! ### a moment's text -/
def digs (a : Int) : Nat := (Nat.toDigits 10 a.natAbs).length
def pad (W : Nat) (a : Int) : Str := ⟨(List.replicate (W - digs a) 48).toArray⟩ ++ Str.ofString (toString a)
theorem pad_of {spec : Str} {a : Int} {W : Nat} (hok : intSpecOk spec = true) (hz : intSpecZeroOf spec = true) (hw : intSpecWidthOf spec = W) (h0 : 0 ≤ a) : intSpecTextOf spec a = pad W a := by
  unfold intSpecOk at hok
  unfold intSpecZeroOf at hz
  unfold intSpecWidthOf at hw
  unfold intSpecTextOf
  cases hps : Builtin.Float.parseFormatSpec spec.cps.toList "int" 62 with
  | error m => rw [hps] at hok; simp at hok
  | ok f =>
    rw [hps] at hok hz hw
    simp only [Bool.and_eq_true, beq_iff_eq] at hok hz
    have hg := hok.2
    unfold intSpecGood at hg
    simp only [Bool.and_eq_true] at hg
    have z := intSpecText_zero (Option.isNone_iff_eq_none.mp hg.1.2) (Option.isNone_iff_eq_none.mp hg.2) hz.1 hz.2 h0
    rw [show f.width.getD 0 = W from hw] at z
    exact z
theorem str_len_append (a b : Str) : (a ++ b).length = a.length + b.length := by
  show (a.cps ++ b.cps).size = a.cps.size + b.cps.size
  exact Array.size_append
theorem pad_len {W : Nat} {a : Int} (h0 : 0 ≤ a) : (pad W a).length = W - digs a + digs a := by
  obtain ⟨m, rfl⟩ := Int.eq_ofNat_of_zero_le h0
  unfold pad
  rw [str_len_append, show Str.ofString (toString ((m : Nat) : Int)) = ⟨((Nat.toDigits 10 m).map Char.toNat).toArray⟩ from text_ofNat m]
  show (List.replicate (W - digs (m : Int)) 48).toArray.size + ((Nat.toDigits 10 m).map Char.toNat).toArray.size = W - digs (m : Int) + digs (m : Int)
  rw [List.size_toArray, List.length_replicate, List.size_toArray, List.length_map]
  rfl
theorem digs_le {a : Int} (h0 : 0 ≤ a) (h : a < 10000000) : digs a ≤ 7 := by
  unfold digs
  have e := (Nat.length_repr_le_iff (n := a.natAbs) (by decide : 0 < 7)).mpr (by omega)
  rwa [← String.length_toList, Nat.toList_repr] at e
theorem pad_short {W : Nat} {a : Int} (h0 : 0 ≤ a) (h : a < 10000000) (hW : W ≤ 10) : (pad W a).length ≤ 17 := by
  rw [pad_len h0]
  have := digs_le h0 h
  omega
def moText (o : Mo) : Str := ((((((((Str.empty ++ pad 4 o.y) ++ Str.ofString "-") ++ pad 2 o.m) ++ Str.ofString "-") ++ pad 2 o.d) ++ Str.ofString " ") ++ pad 2 o.h) ++ Str.ofString ":") ++ pad 2 o.mi
def bStr (C : Addr) : B1 := fun v H Q _ => ∃ (p : Addr) (o : Mo), v = .ref p ∧ MoAt C H p o ∧ o.Ok ∧ Q (.str (moText o)) H
/-! ### comparisons -/
/-- the class Moment as the top has made it -/
structure MoCls (K : PySem.W.Frag) (C : Addr) : Prop where
  cl : Cls K C
  at_ : ∀ x ∈ (["year", "month", "day", "hour", "minute", "date", "weekday", "number"] : List Str), NoAttr K C x
  ca : PySem.W.findIn K (.ref C) "__class__" = some (some (.builtin "object.__class__"))
  cn : PySem.W.specialIn K (.builtin "object.__class__") "__get__" = some (some (.builtin "getset_descriptor.__get__"))
  ct : PySem.W.takesIn K (.builtin "object.__class__") = some true
  cm : PySem.W.mroIn K C (.type "object") = some true
  ki : PySem.W.kitOne K (.ref C) (.ref C) = some true
  nf : PySem.W.notFirst K C (.ref C) = true
theorem MoCls.ty {K : PySem.W.Frag} {C : Addr} (c : MoCls K C) {H : Hp} {p : Addr} {o : Mo} (h : MoAt C H p o) : TyX K H (.ref p) (.ref C) := by
  obtain ⟨dx, e⟩ := h
  exact .base (.ins e c.cl c.ca c.cn c.ct c.cm)
theorem mo_num {o : Mo} : (moF o).lookup ("number" : Str) = some (.int o.num) := by
  unfold moF
  repeat (first | exact look_hit | refine look_miss (by decide +kernel) ?_)
def bCmp (C : Addr) (f : Int → Int → Bool) : B2 := fun v u H Q _ => ∃ (p q : Addr) (o o' : Mo), v = .ref p ∧ u = .ref q ∧ MoAt C H p o ∧ MoAt C H q o' ∧ Q (.bl (f o.num o'.num)) H
def bEq (K : PySem.W.Frag) (C : Addr) : B2 := fun v u H Q _ => ∃ (p : Addr) (o : Mo), v = .ref p ∧ MoAt C H p o ∧
  ((∃ t, TyX K H u t ∧ PySem.W.kitOne K t (.ref C) = some false ∧ Q (.bl false) H) ∨ (∃ q o', u = .ref q ∧ MoAt C H q o' ∧ Q (.bl (decide (o.num = o'.num))) H))
end RB
namespace RB
open PySem PySem.Spec PyProof.Rows L2
/-! ### own binary operators -/
theorem back_of {Q : Value → Shared → Prop} {z : V} {w : Value} {s : Shared} (r : RelV z w) (q : Q w s) : PySem.W.CmpBack Q w s := by
  cases w with
  | notImplemented =>
    exfalso
    cases z <;> first | (obtain ⟨_, e⟩ := r; cases e) | cases r
  | _ => exact q
/-- what the written part says of C's operator and of the built-in type T on its right -/
structure OwnT (K : PySem.W.Frag) (C : Addr) (op : Operator) (T : String) : Prop where
  sf : PySem.W.selfFirst K C = true
  rv : ∃ rc, PySem.W.findIn K (.ref C) (dunderR op.info.2) = some rc ∧ (rc = none ∨ ∃ g : Addr, rc = some (.ref g))
  lt : ∃ fo, PySem.W.findIn K (.type T) (PySem.dunder op.info.2) = some fo
  rt : ∃ ro, PySem.W.findIn K (.type T) (dunderR op.info.2) = some ro
  su : PySem.W.subIn K (.type T) (.ref C) = some false
theorem OwnT.of {K : PySem.W.Frag} {C : Addr} {op : Operator} {T : String} {rc fo ro : Option Value} (sf : PySem.W.selfFirst K C = true) (r : PySem.W.findIn K (.ref C) (dunderR op.info.2) = some rc) (rk : rc = none ∨ ∃ g : Addr, rc = some (.ref g))
    (l : PySem.W.findIn K (.type T) (PySem.dunder op.info.2) = some fo) (t : PySem.W.findIn K (.type T) (dunderR op.info.2) = some ro) (su : PySem.W.subIn K (.type T) (.ref C) = some false) : OwnT K C op T := ⟨sf, ⟨rc, r, rk⟩, ⟨fo, l⟩, ⟨ro, t⟩, su⟩
section
variable {X : Cx} {CX : CXT} {op : Operator} {k j : Nat} {C : Addr} {sp : Sp} {E : XK}
/-- x op n, n an int -/
def rOwnI (C : Addr) (sp : Sp) (E : XK) : R2 := fun x y H Q => ∃ (a dx : Addr) (fs : List (Str × V)) (n : Int), x = .ref a ∧ y = .int n ∧ H a = some (.ins C dx fs) ∧ sp [.ref a, .int n] H Q E
theorem op_ownI (h : OwnCmp X.prog X.w X.K X.mg X.base CX j C (PySem.dunder op.info.2) sp) (B : OwnT X.K C op "int") (hr : Room k X.A) (hj : j ≤ k) (hx : Passes CX X E) : OpR X (binaryOp op) (rOwnI C sp E) := by
  intro pins s σ H x y v u Q I rx ry hh
  obtain ⟨a, dx, fs, n, rfl, rfl, ha, q⟩ := hh
  cases (show v = Value.ref a from rx)
  obtain ⟨t, e⟩ := (show ∃ t, u = Value.int n t from ry)
  obtain ⟨mA, O, _⟩ := ins_get I.hok ha
  obtain ⟨od, J, _⟩ := O.look
  obtain ⟨m, hF⟩ := I.fr
  obtain ⟨⟨g, fd, ps, hs, hf, F, b⟩⟩ := h
  obtain ⟨rc, hrc, hp⟩ := B.rv
  obtain ⟨fo, h1⟩ := B.lt
  obtain ⟨ro, h2⟩ := B.rt
  refine PySem.W.ksp_binT hF I.ok.mod.kin J (show typeOf u = pure (.type "int") by rw [e]; rfl) B.sf hs hf hrc hp h1 h2 B.su ?_
  refine wpAny_mono (run_fn (us := [.ref a, u]) (vs := [.ref a, .int n]) (F.mono hj) hr b .nil hx I (.cons rfl (.cons ry .nil)) (by rw [List.append_nil]; exact q)) (fun w s' z => ?_) fun _ _ x => x
  obtain ⟨z', H', I', rz, qz⟩ := z
  exact back_of rz ⟨z', H', I', rz, qz⟩
/-- x op y, both of the class C -/
def rOwnS (C : Addr) (sp : Sp) (E : XK) : R2 := fun x y H Q => ∃ a dx fs b dy gs, x = .ref a ∧ y = .ref b ∧ H a = some (.ins C dx fs) ∧ H b = some (.ins C dy gs) ∧ sp [.ref a, .ref b] H Q E
theorem op_ownS (h : OwnCmp X.prog X.w X.K X.mg X.base CX j C (PySem.dunder op.info.2) sp) (sf : PySem.W.selfFirst X.K C = true) (hr : Room k X.A) (hj : j ≤ k) (hx : Passes CX X E) : OpR X (binaryOp op) (rOwnS C sp E) := by
  intro pins s σ H x y v u Q I rx ry hh
  obtain ⟨a, dx, fs, b', dy, gs, rfl, rfl, ha, hb', q⟩ := hh
  cases (show v = Value.ref a from rx)
  cases (show u = Value.ref b' from ry)
  obtain ⟨mA, O, _⟩ := ins_get I.hok ha
  obtain ⟨od, J, _⟩ := O.look
  obtain ⟨mB, O2, _⟩ := ins_get I.hok hb'
  obtain ⟨od2, J2, _⟩ := O2.look
  obtain ⟨m, hF⟩ := I.fr
  obtain ⟨⟨g, fd, ps, hs, hf, F, b⟩⟩ := h
  refine PySem.W.binop_K hF I.ok.mod.kin J J2.type sf hs hf ?_
  refine wpAny_mono (run_fn (us := [.ref a, .ref b']) (vs := [.ref a, .ref b']) (F.mono hj) hr b .nil hx I (.cons rfl (.cons rfl .nil)) (by rw [List.append_nil]; exact q)) (fun w s' z => ?_) fun _ _ x => x
  obtain ⟨z', H', I', rz, qz⟩ := z
  exact back_of rz ⟨z', H', I', rz, qz⟩
end
end RB
namespace Cal
/-! ### more of the calendar -/
def V0 (y m d : Int) : Prop := 1 ≤ y ∧ 1 ≤ m ∧ m ≤ 12 ∧ 1 ≤ d ∧ d ≤ ml y m
theorem Valid.v0 {y m d : Int} (v : Valid y m d) : V0 y m d := ⟨v.1, v.2.2.1, v.2.2.2.1, v.2.2.2.2.1, v.2.2.2.2.2⟩
theorem dn_ge {y m d : Int} (v : V0 y m d) : dA y ≤ dn y m d := by
  obtain ⟨h1, h3, h4, h5, h6⟩ := v
  have b := sm_nn y (m - 1).toNat (by omega)
  unfold dn
  omega
theorem dn_lt {y m d : Int} (v : V0 y m d) : dn y m d < dA (y + 1) := by
  obtain ⟨h1, h3, h4, h5, h6⟩ := v
  have a := sm_succ y h3
  have e : (m + 1 - 1).toNat = m.toNat := by omega
  rw [e] at a
  have b := sm_mono y (a := m.toNat) (b := 12) (by omega) (by omega)
  rw [sm12] at b
  have c := dA_succ y
  unfold dn
  omega
theorem dn_y {y m d y' m' d' : Int} (v : V0 y m d) (v' : V0 y' m' d') (e : dn y m d = dn y' m' d') : y ≤ y' := by
  rcases Int.lt_or_le y' y with h | h
  · have a := dA_mono (a := y' + 1) (b := y) (by omega) (by have := v'.1; omega)
    have b := dn_ge v
    have c := dn_lt v'
    omega
  · exact h
theorem dn_m {y m d m' d' : Int} (v : V0 y m d) (v' : V0 y m' d') (e : dn y m d = dn y m' d') : m ≤ m' := by
  rcases Int.lt_or_le m' m with h | h
  · obtain ⟨h1, h3, h4, h5, h6⟩ := v
    obtain ⟨g1, g3, g4, g5, g6⟩ := v'
    have a := sm_succ y g3
    have b := sm_mono y (a := (m' + 1 - 1).toNat) (b := (m - 1).toNat) (by omega) (by omega)
    unfold dn at e
    omega
  · exact h
theorem dn_inj {y m d y' m' d' : Int} (v : V0 y m d) (v' : V0 y' m' d') (e : dn y m d = dn y' m' d') : y = y' ∧ m = m' ∧ d = d' := by
  have e1 : y = y' := Int.le_antisymm (dn_y v v' e) (dn_y v' v e.symm)
  subst e1
  have e2 : m = m' := Int.le_antisymm (dn_m v v' e) (dn_m v' v e.symm)
  subst e2
  refine ⟨rfl, rfl, ?_⟩
  unfold dn at e
  omega
/-- the next date -/
def nx (y m d : Int) : Int × Int × Int := if d < ml y m then (y, m, d + 1) else if m < 12 then (y, m + 1, 1) else (y + 1, 1, 1)
theorem nx_dn {y m d : Int} (v : V0 y m d) : V0 (nx y m d).1 (nx y m d).2.1 (nx y m d).2.2 ∧ dn (nx y m d).1 (nx y m d).2.1 (nx y m d).2.2 = dn y m d + 1 := by
  obtain ⟨h1, h3, h4, h5, h6⟩ := v
  unfold nx
  by_cases c : d < ml y m
  · rw [if_pos c]
    refine ⟨⟨h1, h3, h4, by show 1 ≤ d + 1; omega, by show d + 1 ≤ ml y m; omega⟩, ?_⟩
    show dn y m (d + 1) = _
    unfold dn
    omega
  · rw [if_neg c]
    by_cases c2 : m < 12
    · rw [if_pos c2]
      have b := ml_bd y (m := m + 1) (by omega) (by omega)
      have a := sm_succ y h3
      refine ⟨⟨h1, by show 1 ≤ m + 1; omega, by show m + 1 ≤ 12; omega, by show (1 : Int) ≤ 1; omega, by show 1 ≤ ml y (m + 1); omega⟩, ?_⟩
      show dn y (m + 1) 1 = _
      unfold dn
      omega
    · rw [if_neg c2]
      have m12 : m = 12 := by omega
      subst m12
      have a := sm_succ y (m := 12) (by omega)
      have e : ((12 : Int) + 1 - 1).toNat = 12 := by decide
      rw [e, sm12] at a
      have c := dA_succ y
      refine ⟨⟨by show 1 ≤ y + 1; omega, by show (1 : Int) ≤ 1; decide, by show (1 : Int) ≤ 12; decide, by show (1 : Int) ≤ 1; decide, by show 1 ≤ ml (y + 1) 1; rw [ml1]; decide⟩, ?_⟩
      show dn (y + 1) 1 1 = _
      unfold dn
      show dA (y + 1) + sm (y + 1) 0 + 1 - 1 = _
      have z : sm (y + 1) 0 = 0 := rfl
      omega
theorem leap400 (y : Int) : leap (y + 400) = leap y := by
  unfold leap
  rw [show (y + 400) % 4 = y % 4 by omega, show (y + 400) % 100 = y % 100 by omega, show (y + 400) % 400 = y % 400 by omega]
theorem ml400 (y m : Int) : ml (y + 400) m = ml y m := by
  unfold ml
  rw [leap400]
theorem sm400 (y : Int) : ∀ n : Nat, sm (y + 400) n = sm y n
  | 0 => rfl
  | n + 1 => by
    show sm (y + 400) n + ml (y + 400) (n + 1) = sm y n + ml y (n + 1)
    rw [sm400 y n, ml400]
theorem dA400 (y : Int) : dA (y + 400) = dA y + 146097 := by
  unfold dA
  omega
theorem dn400 (y m d : Int) : dn (y + 400) m d = dn y m d + 146097 := by
  unfold dn
  rw [dA400, sm400]
  omega
end Cal
namespace RB
open PySem PySem.Spec PyProof.Rows L2
theorem Mo.of_num {o o' : Mo} (k : o.Ok) (k' : o'.Ok) (e : o.num = o'.num) : o = o' := by
  obtain ⟨v, a1, a2, a3, a4⟩ := k
  obtain ⟨v', b1, b2, b3, b4⟩ := k'
  unfold Mo.num at e
  have e1 : Cal.dn o.y o.m o.d = Cal.dn o'.y o'.m o'.d := by omega
  obtain ⟨q1, q2, q3⟩ := Cal.dn_inj v.v0 v'.v0 e1
  have q4 : o.h = o'.h := by omega
  have q5 : o.mi = o'.mi := by omega
  cases o
  cases o'
  simp only at q1 q2 q3 q4 q5
  subst q1
  subst q2
  subst q3
  subst q4
  subst q5
  rfl
/-! ### the digits of a padded number -/
open TL in
theorem tl_pad {W n : Nat} : tl (pad W (n : Int)) = List.replicate (W - digs (n : Int)) 48 ++ numL n := by
  unfold pad
  rw [tl_append, tl_num]
theorem allD_app {a b : List Nat} (h : NumText.AllDigits a) (k : NumText.AllDigits b) : NumText.AllDigits (a ++ b) := fun c hc => by
  rcases List.mem_append.mp hc with z | z
  · exact h c z
  · exact k c z
theorem allD_zero (k : Nat) : NumText.AllDigits (List.replicate k 48) := fun c hc => by
  rw [(List.mem_replicate.mp hc).2]
  omega
theorem val_zero : ∀ (k : Nat) (b : List Nat), NumText.digitsVal (List.replicate k 48 ++ b) = NumText.digitsVal b
  | 0, b => rfl
  | k + 1, b => by
    rw [List.replicate_succ, List.cons_append]
    exact val_zero k b
/-- t writes n in digits -/
structure Wr (t : Str) (n : Int) : Prop where
  ad : NumText.AllDigits t.cps.toList
  ne : t.cps.toList ≠ []
  va : ((NumText.digitsVal t.cps.toList : Nat) : Int) = n
theorem wr_pad {W : Nat} {n : Int} (h : 0 ≤ n) : Wr (pad W n) n := by
  obtain ⟨m, rfl⟩ := Int.eq_ofNat_of_zero_le h
  have e : (pad W (m : Int)).cps.toList = List.replicate (W - digs (m : Int)) 48 ++ TL.numL m := tl_pad
  refine ⟨?_, ?_, ?_⟩
  · rw [e]
    exact allD_app (allD_zero _) (TL.numL_digits m)
  · rw [e]
    intro z
    exact TL.numL_ne m (List.append_eq_nil_iff.mp z).2
  · rw [e, val_zero, TL.numL_val]
theorem Wr.free {t : Str} {n : Int} (h : Wr t n) {c : Nat} (hc : c < 48 ∨ 57 < c) : c ∉ TL.tl t := fun z => by
  have := h.ad c z
  omega
theorem Wr.int {t : Str} {n : Int} (h : Wr t n) (l : t.length ≤ 640) : intText? t = some n := by
  rw [intText_digits h.ad h.ne (by omega), h.va]
def dateText (o : Mo) : Str := Txt.join (Str.ofString "-") [pad 4 o.y, pad 2 o.m, pad 2 o.d]
def timeText (o : Mo) : Str := Txt.join (Str.ofString ":") [pad 2 o.h, pad 2 o.mi]
theorem str_assoc (a b c : Str) : a ++ b ++ c = a ++ (b ++ c) := TL.ext_tl (by rw [TL.tl_append, TL.tl_append, TL.tl_append, TL.tl_append, List.append_assoc])
theorem moText_eq (o : Mo) : moText o = Txt.join (Str.ofString " ") [dateText o, timeText o] := by
  unfold moText dateText timeText
  rw [TL.join_eq, TL.join_eq, TL.join_eq]
  refine TL.ext_tl ?_
  simp only [TL.tl_join, TL.tl_append, List.map_cons, List.map_nil, TL.joinL, List.append_assoc]
  rfl
end RB
namespace RB
open PySem PySem.Spec PyProof.Rows L2
/-! ### more promises about moments -/
def bNumIn : B3 := fun v u z H Q _ => ∃ (t : Str) (n lo hi : Int), v = .str t ∧ u = .int lo ∧ z = .int hi ∧ Wr t n ∧ lo ≤ (t.length : Int) ∧ (t.length : Int) ≤ hi ∧ t.length ≤ 640 ∧ ∀ H', Same H H' → Q (.int n) H'
def bDateIn : B1 := fun v H Q _ => ∃ o : Mo, v = .str (dateText o) ∧ o.Ok ∧ ∀ l H', H l = none → H' l = some (.lst [.int o.y, .int o.m, .int o.d]) → Same H H' → Q (.ref l) H'
def bTimeIn : B1 := fun v H Q _ => ∃ o : Mo, v = .str (timeText o) ∧ o.Ok ∧ ∀ l H', H l = none → H' l = some (.lst [.int o.h, .int o.mi]) → Same H H' → Q (.ref l) H'
def bEarly (C : Addr) : Hp → VK → XK → Prop := fun H Q _ => ∀ p H', H p = none → MoAt C H' p ⟨1, 1, 1, 0, 0⟩ → Same H H' → Q (.ref p) H'
def isDt (y m d : Int) : Bool := decide (1 ≤ y ∧ y ≤ 999999 ∧ 1 ≤ m ∧ m ≤ 12 ∧ 1 ≤ d ∧ d ≤ Cal.ml y m)
def bIsDate : B3 := fun v u z H Q _ => ∃ y m d : Int, v = .int y ∧ u = .int m ∧ z = .int d ∧ Q (.bl (isDt y m d)) H
def bAdd (C : Addr) : B2 := fun v u H Q _ => ∃ (p : Addr) (o : Mo) (n : Int), v = .ref p ∧ u = .int n ∧ MoAt C H p o ∧ 0 ≤ o.num + n ∧ o.num + n < 525948672960 ∧
  ∀ q (o' : Mo) H', H q = none → MoAt C H' q o' → o'.Ok → o'.num = o.num + n → Same H H' → Q (.ref q) H'
def bSub (C : Addr) : B2 := fun v u H Q _ => ∃ (p : Addr) (o : Mo), v = .ref p ∧ MoAt C H p o ∧
  ((∃ n : Int, u = .int n ∧ 0 ≤ o.num - n ∧ o.num - n < 525948672960 ∧ ∀ q (o' : Mo) H', H q = none → MoAt C H' q o' → o'.Ok → o'.num = o.num - n → Same H H' → Q (.ref q) H') ∨ (∃ q o', u = .ref q ∧ MoAt C H q o' ∧ Q (.int (o.num - o'.num)) H))
def bRead (C : Addr) : B2 := fun v u H Q _ => ∃ o : Mo, v = .ref C ∧ u = .str (moText o) ∧ o.Ok ∧ ∀ q H', H q = none → MoAt C H' q o → Same H H' → Q (.ref q) H'
theorem digs_num (n : Nat) : digs (n : Int) = (TL.numL n).length := by
  unfold digs TL.numL
  rw [List.length_map]
  rfl
theorem numL_head : ∀ n : Nat, 1 ≤ n → ∃ c r, TL.numL n = c :: r ∧ c ≠ 48 := by
  intro n
  induction n using Nat.strongRecOn with
  | _ n ih =>
    intro h1
    by_cases h : n < 10
    · exact ⟨48 + n, [], TL.numL_lt h, by omega⟩
    · obtain ⟨c, r, e, k⟩ := ih (n / 10) (by omega) (by omega)
      exact ⟨c, r ++ [48 + n % 10], by rw [TL.numL_step (by omega), e, List.cons_append], k⟩
theorem pad_two {n : Int} (h0 : 0 ≤ n) (h : n < 100) : (pad 2 n).length = 2 := by
  rw [pad_len h0]
  obtain ⟨m, rfl⟩ := Int.eq_ofNat_of_zero_le h0
  have := TL.numL_len (n := m) (k := 2) (by decide) (by omega)
  rw [digs_num]
  omega
theorem pad_four {n : Int} (h0 : 0 ≤ n) (h : n < 1000000) : 4 ≤ (pad 4 n).length ∧ (pad 4 n).length ≤ 6 := by
  rw [pad_len h0]
  obtain ⟨m, rfl⟩ := Int.eq_ofNat_of_zero_le h0
  have := TL.numL_len (n := m) (k := 6) (by decide) (by omega)
  rw [digs_num]
  omega
/-- a longer year begins with no 0 -/
theorem pad_first {n : Int} (h1 : 1 ≤ n) (h : 4 < (pad 4 n).length) : ∃ c, (pad 4 n).cps.toList[0]? = some c ∧ c ≠ 48 := by
  rw [pad_len (by omega)] at h
  obtain ⟨m, rfl⟩ := Int.eq_ofNat_of_zero_le (show 0 ≤ n by omega)
  obtain ⟨c, r, e, k⟩ := numL_head m (by omega)
  have e2 : (pad 4 (m : Int)).cps.toList = List.replicate (4 - digs (m : Int)) 48 ++ TL.numL m := tl_pad
  refine ⟨c, ?_, k⟩
  rw [e2, show 4 - digs (m : Int) = 0 by omega, e]
  rfl
end RB
namespace RB
open PySem PySem.Spec PyProof.Rows L2
theorem Mo.Ok.bds {o : Mo} (k : o.Ok) : 1 ≤ o.y ∧ o.y < 1000000 ∧ 1 ≤ o.m ∧ o.m ≤ 12 ∧ 1 ≤ o.d ∧ o.d ≤ 31 ∧ 0 ≤ o.h ∧ o.h ≤ 23 ∧ 0 ≤ o.mi ∧ o.mi ≤ 59 := by
  obtain ⟨⟨h1, h2, h3, h4, h5, h6⟩, h7, h8, h9, h10⟩ := k
  have := Cal.ml_bd o.y h3 h4
  exact ⟨h1, by omega, h3, h4, h5, by omega, h7, h8, h9, h10⟩
theorem date_len {o : Mo} (k : o.Ok) : (dateText o).length ≤ 12 := by
  have b := k.bds
  have c1 : (Str.ofString "-").length = 1 := by decide
  have p4 := pad_four (n := o.y) (by omega) (by omega)
  have p2 := pad_two (n := o.m) (by omega) (by omega)
  have p3 := pad_two (n := o.d) (by omega) (by omega)
  unfold dateText
  rw [TL.join_eq]
  show (pad 4 o.y ++ Str.ofString "-" ++ (pad 2 o.m ++ Str.ofString "-" ++ pad 2 o.d)).length ≤ 12
  simp only [str_len_append]
  omega
theorem time_len {o : Mo} (k : o.Ok) : (timeText o).length ≤ 5 := by
  have b := k.bds
  have c1 : (Str.ofString ":").length = 1 := by decide
  have p2 := pad_two (n := o.h) (by omega) (by omega)
  have p3 := pad_two (n := o.mi) (by omega) (by omega)
  unfold timeText
  rw [TL.join_eq]
  show (pad 2 o.h ++ Str.ofString ":" ++ pad 2 o.mi).length ≤ 5
  simp only [str_len_append]
  omega
theorem date_split {o : Mo} (k : o.Ok) : Txt.split (dateText o) "-" = [pad 4 o.y, pad 2 o.m, pad 2 o.d] := by
  have b := k.bds
  refine TL.split_join (s := 45) (S := []) (by decide +kernel) (by decide +kernel) (by simp) fun p hp => ?_
  simp only [List.mem_cons, List.not_mem_nil, or_false] at hp
  rcases hp with rfl | rfl | rfl
  · exact (wr_pad (by omega)).free (.inl (by decide))
  · exact (wr_pad (by omega)).free (.inl (by decide))
  · exact (wr_pad (by omega)).free (.inl (by decide))
theorem time_split {o : Mo} (k : o.Ok) : Txt.split (timeText o) ":" = [pad 2 o.h, pad 2 o.mi] := by
  have b := k.bds
  refine TL.split_join (s := 58) (S := []) (by decide +kernel) (by decide +kernel) (by simp) fun p hp => ?_
  simp only [List.mem_cons, List.not_mem_nil, or_false] at hp
  rcases hp with rfl | rfl
  · exact (wr_pad (by omega)).free (.inr (by decide))
  · exact (wr_pad (by omega)).free (.inr (by decide))
theorem date_free {o : Mo} (k : o.Ok) : 32 ∉ TL.tl (dateText o) := by
  have b := k.bds
  have e : TL.tl (Str.ofString "-") = [45] := by decide +kernel
  unfold dateText
  rw [TL.join_eq, TL.tl_join, e]
  simp only [List.map_cons, List.map_nil, TL.joinL, List.mem_append, List.mem_singleton, not_or]
  exact ⟨(wr_pad (by omega)).free (.inl (by decide)), by decide, (wr_pad (by omega)).free (.inl (by decide)), by decide, (wr_pad (by omega)).free (.inl (by decide))⟩
theorem time_free {o : Mo} (k : o.Ok) : 32 ∉ TL.tl (timeText o) := by
  have b := k.bds
  have e : TL.tl (Str.ofString ":") = [58] := by decide +kernel
  unfold timeText
  rw [TL.join_eq, TL.tl_join, e]
  simp only [List.map_cons, List.map_nil, TL.joinL, List.mem_append, List.mem_singleton, not_or]
  exact ⟨(wr_pad (by omega)).free (.inl (by decide)), by decide, (wr_pad (by omega)).free (.inl (by decide))⟩
theorem mo_split {o : Mo} (k : o.Ok) : Txt.split (moText o) " " = [dateText o, timeText o] := by
  rw [moText_eq]
  refine TL.split_join (s := 32) (S := []) (by decide +kernel) (by decide +kernel) (by simp) fun p hp => ?_
  simp only [List.mem_cons, List.not_mem_nil, or_false] at hp
  rcases hp with rfl | rfl
  · exact date_free k
  · exact time_free k
theorem mo_len {o : Mo} (k : o.Ok) : (moText o).length ≤ 20 := by
  have c1 : (Str.ofString " ").length = 1 := by decide
  have a := date_len k
  have b := time_len k
  rw [moText_eq, TL.join_eq]
  show (dateText o ++ Str.ofString " " ++ timeText o).length ≤ 20
  simp only [str_len_append]
  omega
end RB
namespace RB
open PySem PySem.Spec PyProof.Rows L2
theorem same_own {H H' : Hp} {q : Addr} {o : HO} (s : Same H H') (n : H q = none) : Same H (upd H' q o) := fun b x e => by
  have h : b ≠ q := fun z => by rw [z, n] at e; cases e
  exact (upd_ne h).trans (s _ _ e)
theorem same_back {H H' : Hp} {q : Addr} (s : Same H H') (n : H' q = none) : H q = none := by
  cases e : H q with
  | none => rfl
  | some o => rw [s _ _ e] at n; cases n
end RB
namespace RB
open PySem PySem.Spec PyProof.Rows L2
theorem okDate {y m d : Int} (v : Cal.Valid y m d) : (Mo.mk y m d 0 0).Ok := ⟨v, by show (0 : Int) ≤ 0; decide, by show (0 : Int) ≤ 23; decide, by show (0 : Int) ≤ 0; decide, by show (0 : Int) ≤ 59; decide⟩
theorem okTime {h i : Int} (h0 : 0 ≤ h) (h1 : h ≤ 23) (i0 : 0 ≤ i) (i1 : i ≤ 59) : (Mo.mk 1 1 1 h i).Ok := ⟨by show Cal.Valid 1 1 1; exact ⟨by decide, by decide, by decide, by decide, by decide, by decide +kernel⟩, h0, h1, i0, i1⟩
theorem wrong_dt {y m d : Int} : decide (wrongV (.int y) (.int m) (.int d) (.int 0) (.int 0) = .non) = isDt y m d := by
  by_cases v : Cal.Valid y m d
  · rw [wrong_ok (okDate v)]
    unfold isDt
    rw [decide_eq_true (show 1 ≤ y ∧ y ≤ 999999 ∧ 1 ≤ m ∧ m ≤ 12 ∧ 1 ≤ d ∧ d ≤ Cal.ml y m from v)]
    rfl
  · have n : ¬ wrongV (.int y) (.int m) (.int d) (.int 0) (.int 0) = .non := fun e => v (by
      unfold wrongV at e
      split at e
      · cases e
      rename_i h1
      split at e
      · cases e
      rename_i h2
      split at e
      · cases e
      rename_i h3
      obtain ⟨a, ea, a1, a2⟩ := isB_of h1
      obtain ⟨b, eb, b1, b2⟩ := isB_of h2
      obtain ⟨c, ec, c1, c2⟩ := isB_of h3
      cases ea
      cases eb
      cases ec
      exact ⟨a1, a2, b1, b2, c1, c2⟩)
    unfold isDt
    rw [decide_eq_false n, decide_eq_false (show ¬ (1 ≤ y ∧ y ≤ 999999 ∧ 1 ≤ m ∧ m ≤ 12 ∧ 1 ≤ d ∧ d ≤ Cal.ml y m) from v)]
/-- a new instance laid: what stood, stands -/
theorem same_make {H : Hp} {x dx C : Addr} (hx : H x = none) (hdx : H dx = none) : Same H (upd (upd H dx (.own x)) x (.ins C dx [])) := fun b o e => by
  rw [upd_ne (ne_of_none e hx), upd_ne (ne_of_none e hdx)]
  exact e
end RB
namespace RB
open PySem PySem.Spec PyProof.Rows L2
/-! ### class methods, static methods without arguments, a class behind a local name -/
def ClsmAt (K : PySem.W.Frag) (C : Addr) (x qual : Str) (st : Stmt) : Prop :=
  ∃ (mc : Value) (p f : Addr) (rest : List Value) (oc : Value) (od : Option Addr) (kV doc pm : Value) (an : Option Addr) (cdv ct : Value) (osl : Array (Option Value)), PySem.W.typeIn K (.ref C) = some mc ∧ PySem.W.readsIn K C mc = true ∧
    PySem.W.specialIn K (.ref C) "__getattribute__" = some (some (.builtin "type.__getattribute__")) ∧ PySem.W.findCls K (.ref C) mc x = some (.get (.builtin "classmethod.__get__") (.ref p) .none (.ref C)) ∧ PySem.W.recIn K p "classmethod" = some (.ref f :: rest) ∧ PySem.W.fnIn K f = true ∧
    K.lookup f = some ⟨oc, od, .func (PySem.W.fnOf x qual (defArgs st) (defBody st) (defScope st) .none kV doc pm an cdv ct), osl⟩ ∧ PySem.W.codeIn K cdv qual = true ∧ PySem.W.keepIn K (.ref f) = true
theorem ClsmAt.mk {K : PySem.W.Frag} {C : Addr} {x qual : Str} {st : Stmt} {mc : Value} {p f : Addr} {rest : List Value} {oc : Value} {od : Option Addr} {kV doc pm : Value} {an : Option Addr} {cdv ct : Value} {osl : Array (Option Value)} (t : PySem.W.typeIn K (.ref C) = some mc) (rd : PySem.W.readsIn K C mc = true)
    (ga : PySem.W.specialIn K (.ref C) "__getattribute__" = some (some (.builtin "type.__getattribute__"))) (gA : PySem.W.findCls K (.ref C) mc x = some (.get (.builtin "classmethod.__get__") (.ref p) .none (.ref C))) (rc : PySem.W.recIn K p "classmethod" = some (.ref f :: rest)) (fi : PySem.W.fnIn K f = true)
    (l : K.lookup f = some ⟨oc, od, .func (PySem.W.fnOf x qual (defArgs st) (defBody st) (defScope st) .none kV doc pm an cdv ct), osl⟩) (c : PySem.W.codeIn K cdv qual = true) (k : PySem.W.keepIn K (.ref f) = true) : ClsmAt K C x qual st :=
  ⟨mc, p, f, rest, oc, od, kV, doc, pm, an, cdv, ct, osl, t, rd, ga, gA, rc, fi, l, c, k⟩
/-- a class method keeps a promise; its first value is the class -/
structure HasC (P : Program) (w : World) (K : PySem.W.Frag) (mg : Str → Option Value) (base : Heap) (CX : CXT) (k : Nat) (C : Addr) (m : Str) (sp : Sp) : Prop where
  ex : ∃ (mc : Value) (p g : Addr), ClX.CRead K C mc ∧ ClX.CMet K C mc m p g ∧ FnR P w K mg base CX k g sp
section
variable {P : Program} {w : World} {K : PySem.W.Frag} {mg : Str → Option Value} {base : Heap}
theorem clsm_of {C : Addr} {k : Nat} {x qual : Str} {st : Stmt} {N ps : List Str} {sp : Sp} (d : ClsmAt K C x qual st) (b : Bdg x qual st ps) (S : FnScope N ps (defScope st)) (len : ∀ vs H Q E, sp vs H Q E → vs.length = ps.length)
    (hbody : ∀ (f : Addr) (cdv : Value) (A : Around) (outer : List Env) (s : Shared) (H : Hp) (vs : List V) (Q : VK) (E : XK), Room k (A.deeper (envOfC qual (defScope st) s.heap.objs.size f cdv)) → sp vs H Q E →
      ∃ t, PSs (cxOf CX0 P w K mg base N qual (defScope st) f cdv A outer s H E).nox (defBody st) t ∧ t { nx := fun _ H' => Q .non H', rt := Q } (start N vs) H) : HasC P w K mg base CX0 (k + 1) C x sp := by
  obtain ⟨mc, p, f, rest, oc, od, kV, doc, pm, an, cdv, ct, osl, t, rd, ga, gA, rc, fi, l, c, kp⟩ := d
  have F := fun_mk l c kp
  have G := FnOk.raw (dvs := []) (F.ok S len (fun cdv A outer s H vs Q E hr h => hbody f cdv A outer s H vs Q E hr h)) (F.binds b) .nil
  exact ⟨⟨mc, p, f, ⟨rd, ga⟩, ⟨gA, ⟨rest, rc⟩, fi⟩, G.imp fun vs H Q E h => by rw [List.append_nil]; exact h⟩⟩
end
section
variable {X : Cx} {CX : CXT} {k j i : Nat} {C : Addr} {sp : Sp} {E : XK} {o e : Expr} {es : List Expr} {x m : Str} {p pos apos : Pos} {ta : TE} {t : TA} {dvs : List V} {pl : Sem Bool}
theorem pe_cmethH (he : PE X o ta) (h : HasC X.prog X.w X.K X.mg X.base CX j C m sp) (hr : Room k X.A) (hx : Passes CX X E) (ha : PA X (e :: es) t) (hj : j ≤ k := by decide)
    (hst : starEach (e :: es) X.env = (false, eval e X.env) :: starEach es X.env := by rfl) (hpl : (backTo pos (starEach es X.env)).any (·.1) = false := by rfl)
    (ht : eval (.Call (.Attribute o m apos) (e :: es) [] pos) X.env = (do
      let ov ← eval o X.env
      standAt apos.atName
      let (f, first) ← holding [ov] (getMethod ov m pl)
      callWith pos f first (backTo pos (starEach (e :: es) X.env)) (backToKw pos (keywordEach [] X.env))) := by rfl) :
    PE X (.Call (.Attribute o m apos) (e :: es) [] pos) (ClX.tCMeth C sp E ta t) := by
  obtain ⟨⟨mc, p, g, r, c, F⟩⟩ := h
  exact ClX.pe_cmeth he r c (F.mono hj) hr hx ha hst hpl ht
theorem pe_smethH0 (he : PE X o ta) (h : HasS X.prog X.w X.K X.mg X.base CX j C m sp) (hr : Room k X.A) (hx : Passes CX X E) (hj : j ≤ k := by decide)
    (ht : eval (.Call (.Attribute o m apos) [] [] pos) X.env = (do
      let ov ← eval o X.env
      standAt apos.atName
      let (f, first) ← holding [ov] (getMethod ov m pl)
      callWith pos f first (backTo pos (starEach [] X.env)) (backToKw pos (keywordEach [] X.env))) := by rfl) :
    PE X (.Call (.Attribute o m apos) [] [] pos) (tSMeth C sp E ta tNil) := by
  obtain ⟨⟨mc, p, g, fd, ps, r, F, b⟩⟩ := h
  exact pe_smeth0 he r F b hr hj hx ht
/-- x(..), x a local name that holds the class -/
def tMakL (i : Nat) (C : Addr) (dvs : List V) (sp : Sp) (E : XK) (t : TA) : TE := fun σ H Q => σ[i]? = some (some (.ref C)) ∧ tMak C dvs sp E t σ H Q
theorem pe_makeL (h : HasM X.prog X.w X.K X.mg X.base CX j C dvs sp) (hr : Room k X.A) (hN : X.N[i]? = some x) (hv : Vis X.env.scope x) (hx : Passes CX X E) (ha : PA X (e :: es) t) (hj : j + 1 ≤ k := by decide)
    (hdb : (x == ("__debug__" : Str)) = false := by decide) (hcd : (x == ("__classdict__" : Str)) = false := by decide)
    (he : starEach (e :: es) X.env = (false, eval e X.env) :: starEach es X.env := by rfl) (hpl : (backTo pos (starEach es X.env)).any (·.1) = false := by rfl) : PE X (.Call (.Name x p) (e :: es) [] pos) (tMakL i C dvs sp E t) := by
  obtain ⟨⟨g, fd, ps, ds, M, F, b, d⟩⟩ := h
  refine ⟨fun pins s σ H Q I h => ?_⟩
  obtain ⟨hs, ht⟩ := h
  refine wpAny_Call_Name_kw (thn ((pe_var (pos := p) hN hv hdb hcd).run pins s σ H (fun v H1 => v = .ref C ∧ H1 = H) I ⟨.ref C, hs, rfl, rfl⟩) fun u s1 ⟨v, H1, I1, r1, q1⟩ => ?_)
  obtain ⟨rfl, rfl⟩ := q1
  cases r1
  exact PySem.W.callWith_K (h₀ := X.base) I.ok.mod.kin M.kp (thn (ha.run pos pins s1 σ _ _ I1 ht) fun us s2 ⟨vs, H2, I2, r, q⟩ => ⟨I2.kIn, run_make M F (hr.mono hj) b d hx I2 r q⟩) he hpl
end
/-- a block over the signs of a text -/
theorem lc_str {z : Str} {g : TG} {tt : TT} {te : TE} {vs : List Nat} {σ : L2.St} {H1 : Hp} {D : Addr} {Qd : Hp → Prop} (Pv : Nat → Hp → Prop) (h0 : Pv 0 (upd H1 D (.lst [])))
    (hs : ∀ i c H, z.cps[i]? = some c → Pv i H → g (.str ⟨#[c]⟩) (wipe σ vs) H fun σ2 H2 => wipe σ2 vs = wipe σ vs ∧ tt σ2 H2 fun b H3 =>
      if b = true then te σ2 H3 fun y H4 => ∃ acc, H4 D = some (.lst acc) ∧ acc.length < sizeLine ∧ Pv (i + 1) (upd H4 D (.lst (acc ++ [y]))) else Pv (i + 1) H3) (hd : ∀ H, Pv z.cps.size H → Qd H) :
    ∃ W : Nat → Nat → Hp → Prop, (∃ m, W 0 m (upd H1 D (.lst []))) ∧ ∀ i m H, W i m H →
      ((Its z).stop i H ∧ Qd H) ∨ ((Its z).go i H ∧ ∃ Nx : Hp → Prop, (∀ H', Nx H' → ∃ m', m' < m ∧ W (i + 1) m' H') ∧ ∀ x H', (Its z).yld i H x H' → g x (wipe σ vs) H' fun σ2 H2 => wipe σ2 vs = wipe σ vs ∧ tt σ2 H2 fun b H3 =>
        if b = true then te σ2 H3 fun y H4 => ∃ acc, H4 D = some (.lst acc) ∧ acc.length < sizeLine ∧ Nx (upd H4 D (.lst (acc ++ [y]))) else Nx H3) := by
  refine ⟨fun i m H => m = z.cps.size - i ∧ i ≤ z.cps.size ∧ Pv i H, ⟨z.cps.size, by simp, Nat.zero_le _, h0⟩, fun i m H hw => ?_⟩
  obtain ⟨rfl, hi, p⟩ := hw
  by_cases hlt : i < z.cps.size
  · refine .inr ⟨hlt, Pv (i + 1), fun H' p' => ⟨z.cps.size - (i + 1), by omega, rfl, hlt, p'⟩, fun x H' y => ?_⟩
    obtain ⟨e, c, hc, rfl⟩ := y
    subst e
    exact hs i c _ hc p
  · have e : i = z.cps.size := by omega
    subst e
    exact .inl ⟨Nat.le_refl _, hd H p⟩
end RB
namespace Cal
/-! ### the weekdays of a date of 400 years -/
theorem dn_mod400 (y m d : Int) : ∀ k : Nat, dn (y + 400 * (k : Int)) m d % 7 = dn y m d % 7
  | 0 => by rw [show y + 400 * ((0 : Nat) : Int) = y by omega]
  | k + 1 => by
    have e := dn_mod400 y m d k
    rw [show y + 400 * ((k + 1 : Nat) : Int) = y + 400 * (k : Int) + 400 by omega, dn400]
    omega
theorem leap_mod (y : Int) : ∀ k : Nat, leap (y + 400 * (k : Int)) = leap y
  | 0 => by rw [show y + 400 * ((0 : Nat) : Int) = y by omega]
  | k + 1 => by rw [show y + 400 * ((k + 1 : Nat) : Int) = y + 400 * (k : Int) + 400 by omega, leap400, leap_mod y k]
/-- first days of months: the weekday of y, m, 1 -/
def w1 (y : Int) (m : Nat) : Int := (dA y + sm y m) % 7
theorem w1_dn (y : Int) (m : Int) (d : Int) : dn y m d % 7 = (w1 y (m - 1).toNat + (d - 1)) % 7 := by
  unfold dn w1
  omega
/-- all weekdays in the years 1 to 400 -/
theorem all_w : ∀ m : Nat, m < 12 → ∀ w : Nat, w < 7 → (List.range 400).any (fun r => w1 ((r : Int) + 1) m == (w : Int)) = true := by decide +kernel
theorem all_leap : ∀ w : Nat, w < 7 → (List.range 400).any (fun r => leap ((r : Int) + 1) && (w1 ((r : Int) + 1) 1 == (w : Int))) = true := by decide +kernel
/-- the dates that are asked -/
def Spot (m d : Int) : Prop := (1 ≤ m ∧ m ≤ 12 ∧ 1 ≤ d ∧ d ≤ 28) ∨ (m = 12 ∧ d = 31) ∨ (m = 3 ∧ d = 30) ∨ (m = 2 ∧ d = 29)
theorem Spot.m {m d : Int} (s : Spot m d) : 1 ≤ m ∧ m ≤ 12 ∧ 1 ≤ d := by
  rcases s with h | h | h | h <;> omega
theorem spot_ok {m d : Int} (s : Spot m d) (n : ¬ (m = 2 ∧ d = 29)) (y : Int) : d ≤ ml y m := by
  rcases s with h | h | h | h
  · have := ml_bd y h.1 h.2.1
    omega
  · obtain ⟨rfl, rfl⟩ := h
    rw [ml12]
    decide
  · obtain ⟨rfl, rfl⟩ := h
    rw [ml3]
    decide
  · exact absurd h n
theorem spot_29 (y : Int) : 29 ≤ ml y 2 ↔ leap y = true := by
  rw [ml2]
  unfold lp
  split
  · rename_i h
    simp [h]
  · rename_i h
    simp [h]
/-- each weekday is met -/
theorem spot_hit {m d : Int} (s : Spot m d) {y : Int} (hy : 1 ≤ y) {w : Int} (h0 : 0 ≤ w) (h7 : w < 7) : ∃ j : Nat, j < 400 ∧ d ≤ ml (y + (j : Int)) m ∧ dn (y + (j : Int)) m d % 7 = w := by
  have sm := s.m
  have hit : ∃ r : Nat, r < 400 ∧ d ≤ ml ((r : Int) + 1) m ∧ w1 ((r : Int) + 1) (m - 1).toNat = (w - (d - 1)) % 7 := by
    obtain ⟨v, hv⟩ : ∃ v : Nat, ((v : Nat) : Int) = (w - (d - 1)) % 7 := ⟨((w - (d - 1)) % 7).toNat, by omega⟩
    by_cases c : m = 2 ∧ d = 29
    · obtain ⟨r, hr, e⟩ := List.any_eq_true.mp (all_leap v (by omega))
      rw [Bool.and_eq_true, beq_iff_eq] at e
      refine ⟨r, List.mem_range.mp hr, ?_, ?_⟩
      · rw [c.1, c.2]
        exact (spot_29 _).mpr e.1
      · rw [c.1, ← hv]
        exact e.2
    · obtain ⟨r, hr, e⟩ := List.any_eq_true.mp (all_w (m - 1).toNat (by omega) v (by omega))
      exact ⟨r, List.mem_range.mp hr, spot_ok s c _, by rw [← hv]; exact beq_iff_eq.mp e⟩
  obtain ⟨r, hr, hd, hw⟩ := hit
  have e1 : dn ((r : Int) + 1) m d % 7 = w := by
    rw [w1_dn, hw]
    omega
  refine ⟨(((r : Int) + 1 - y) % 400).toNat, by omega, ?_⟩
  obtain ⟨q, hq⟩ : ∃ q : Nat, y + (((((r : Int) + 1 - y) % 400).toNat : Nat) : Int) = (r : Int) + 1 + 400 * (q : Int) := ⟨((y + (((r : Int) + 1 - y) % 400) - ((r : Int) + 1)) / 400).toNat, by omega⟩
  rw [hq]
  refine ⟨?_, by rw [dn_mod400, e1]⟩
  unfold ml at hd ⊢
  rw [leap_mod]
  exact hd
end Cal
namespace RB
open PySem PySem.Spec PyProof.Rows L2
/-- the weekdays of m, d in n years from y on -/
def wdl (y m d : Int) : Nat → List Int
  | 0 => []
  | n + 1 => if isDt (y + (n : Int)) m d = true then wdl y m d n ++ [Cal.dn (y + (n : Int)) m d % 7] else wdl y m d n
theorem wdl_mem {y m d x : Int} : ∀ {n : Nat}, x ∈ wdl y m d n ↔ ∃ j : Nat, j < n ∧ isDt (y + (j : Int)) m d = true ∧ x = Cal.dn (y + (j : Int)) m d % 7
  | 0 => ⟨fun h => (nomatch h), fun ⟨j, h, _⟩ => absurd h (Nat.not_lt_zero j)⟩
  | n + 1 => by
    have ih := wdl_mem (y := y) (m := m) (d := d) (x := x) (n := n)
    unfold wdl
    by_cases c : isDt (y + (n : Int)) m d = true
    · rw [if_pos c, List.mem_append, ih, List.mem_singleton]
      constructor
      · rintro (⟨j, h, r⟩ | h)
        · exact ⟨j, by omega, r⟩
        · exact ⟨n, by omega, c, h⟩
      · rintro ⟨j, h, r⟩
        by_cases e : j = n
        · subst e
          exact .inr r.2
        · exact .inl ⟨j, by omega, r⟩
    · rw [if_neg c, ih]
      constructor
      · rintro ⟨j, h, r⟩
        exact ⟨j, by omega, r⟩
      · rintro ⟨j, h, r⟩
        have e : j ≠ n := fun e => c (e ▸ r.1)
        exact ⟨j, by omega, r⟩
theorem isDt_iff {y m d : Int} (s : Cal.Spot m d) (h1 : 1 ≤ y) (h2 : y ≤ 999999) : isDt y m d = decide (d ≤ Cal.ml y m) := by
  have z := s.m
  unfold isDt
  by_cases c : d ≤ Cal.ml y m
  · rw [decide_eq_true c, decide_eq_true ⟨h1, h2, z.1, z.2.1, z.2.2, c⟩]
  · rw [decide_eq_false c, decide_eq_false fun q => c q.2.2.2.2.2]
theorem wdl_len {y m d : Int} (s : Cal.Spot m d) (c : ¬ (m = 2 ∧ d = 29)) (h1 : 1 ≤ y) : ∀ n : Nat, y + (n : Int) ≤ 1000000 → (wdl y m d n).length = n
  | 0, _ => rfl
  | n + 1, h => by
    unfold wdl
    rw [if_pos (by rw [isDt_iff s (by omega) (by omega)]; exact decide_eq_true (Cal.spot_ok s c _)), List.length_append, wdl_len s c h1 n (by omega)]
    rfl
theorem wdl_leap {y : Int} (h1 : 1 ≤ y) : ∀ n : Nat, y + (n : Int) ≤ 1000000 → ((wdl y 2 29 n).length : Int) = Cal.dA (y + (n : Int)) - Cal.dA y - 365 * (n : Int)
  | 0, _ => by
    show (0 : Int) = _
    rw [show y + ((0 : Nat) : Int) = y by omega]
    omega
  | n + 1, h => by
    have ih := wdl_leap h1 n (by omega)
    have e := Cal.dA_succ (y + (n : Int))
    have f := isDt_iff (y := y + (n : Int)) (m := 2) (d := 29) (.inr (.inr (.inr ⟨rfl, rfl⟩))) (by omega) (by omega)
    have l := Cal.spot_29 (y + (n : Int))
    rw [show y + ((n + 1 : Nat) : Int) = y + (n : Int) + 1 by omega]
    unfold wdl
    by_cases c : Cal.leap (y + (n : Int)) = true
    · have lp : Cal.lp (y + (n : Int)) = 1 := if_pos c
      rw [if_pos (by rw [f]; exact decide_eq_true (l.mpr c)), List.length_append]
      show (((wdl y 2 29 n).length + 1 : Nat) : Int) = _
      omega
    · have lp : Cal.lp (y + (n : Int)) = 0 := if_neg c
      rw [if_neg (by rw [f]; simpa using fun z => c (l.mp z))]
      omega
/-- as long as the law asks -/
theorem wdl_many {y m d : Int} (s : Cal.Spot m d) (h1 : 1 ≤ y) (h2 : y ≤ 999600) : ((wdl y m d 400).length : Int) = if m = 2 ∧ d = 29 then 97 else 400 := by
  by_cases c : m = 2 ∧ d = 29
  · rw [if_pos c]
    obtain ⟨rfl, rfl⟩ := c
    have e := wdl_leap h1 400 (by omega)
    have f := Cal.dA400 y
    rw [show y + ((400 : Nat) : Int) = y + 400 by omega, f] at e
    omega
  · rw [if_neg c, wdl_len s c h1 400 (by omega)]
    rfl
theorem wdl_all {y m d : Int} (s : Cal.Spot m d) (h1 : 1 ≤ y) (h2 : y ≤ 999600) (x : Int) : x ∈ wdl y m d 400 ↔ x ∈ ([0, 1, 2, 3, 4, 5, 6] : List Int) := by
  rw [wdl_mem]
  simp only [List.mem_cons, List.not_mem_nil, or_false]
  constructor
  · rintro ⟨j, h, _, rfl⟩
    omega
  · intro h
    obtain ⟨j, hj, hd, e⟩ := Cal.spot_hit s h1 (w := x) (by omega) (by omega)
    exact ⟨j, hj, by rw [isDt_iff s (by omega) (by omega)]; exact decide_eq_true hd, e.symm⟩
theorem rise_eq : ∀ {l m : List Int}, l.Pairwise (· < ·) → m.Pairwise (· < ·) → (∀ x, x ∈ l ↔ x ∈ m) → l = m
  | [], [], _, _, _ => rfl
  | [], b :: m, _, _, h => by cases (h b).mpr (List.mem_cons_self ..)
  | a :: l, [], _, _, h => by cases (h a).mp (List.mem_cons_self ..)
  | a :: l, b :: m, p, q, h => by
    obtain ⟨p1, p2⟩ := List.pairwise_cons.mp p
    obtain ⟨q1, q2⟩ := List.pairwise_cons.mp q
    have e : a = b := by
      rcases List.mem_cons.mp ((h a).mp (List.mem_cons_self ..)) with e | e
      · exact e
      · rcases List.mem_cons.mp ((h b).mpr (List.mem_cons_self ..)) with f | f
        · exact f.symm
        · have := q1 a e
          have := p1 b f
          omega
    subst e
    rw [rise_eq p2 q2 fun x => ⟨fun hx => ?_, fun hx => ?_⟩]
    · rcases List.mem_cons.mp ((h x).mp (List.mem_cons_of_mem _ hx)) with e | e
      · have := p1 x hx
        omega
      · exact e
    · rcases List.mem_cons.mp ((h x).mpr (List.mem_cons_of_mem _ hx)) with e | e
      · have := q1 x hx
        omega
      · exact e
end RB
namespace RB
theorem wdl_le (y m d : Int) : ∀ n : Nat, (wdl y m d n).length ≤ n
  | 0 => Nat.le_refl _
  | n + 1 => by
    have ih := wdl_le y m d n
    unfold wdl
    split
    · rw [List.length_append]
      show (wdl y m d n).length + 1 ≤ n + 1
      omega
    · omega
end RB
namespace RB
open PySem PySem.Spec PyProof.Rows L2
/-! ### set(l) of a list of ints -/
/-- a set as set.__new__ lays it -/
abbrev fresh (w : World) : Obj := { cls := .type "set", dict := none, data := .set #[] 0 (.fresh 0 0 (!w.params.followText "set-order")) }
section
variable {P : Program} {w : World} {A : Around} {E : Value → Shared → Prop} {s : Shared}
/-- what set(l) leaves: a set of ns at a, the rest as it was -/
def SetMade (w : World) (s : Shared) (ns : List Int) (s2 : Shared) : Prop := ∃ h' tk c, s2 = { s with heap := h', toks := tk } ∧ SetR w h' s.heap.objs.size (fun j => decide (j ∈ ns)) c ∧ c ≤ ns.length ∧ ∀ b o, s.heap.get? b = some o → h'.get? b = some o
theorem set_init_list {l : Addr} {xs : Array Value} {ns : List Int} (h0 : A.handled = none) (il : s.heap.IsList l xs) (ia : IntsAre xs.toList ns) (hz : ns.length + 1 < scanBound) :
    codeAny (model P w) A (.call (.builtin "set.__init__") ⟨[.ref s.heap.objs.size, .ref l], []⟩) (wants (fun r s2 => r = .none ∧ SetMade w s ns s2) E) { s with heap := s.heap.push (fresh w) } := by
  have size : xs.size = ns.length := by
    have q := IntsAre.length ia
    rwa [Array.length_toList] at q
  have at0 : (s.heap.push (fresh w)).get? s.heap.objs.size = some (fresh w) := Heap.get?_push_size _ rfl
  have ty0 : Shared.TypeIs { s with heap := s.heap.push (fresh w) } (.ref s.heap.objs.size) "set" := ⟨_, at0, rfl⟩
  refine codeAny_call_builtin F.called_set.init.plain F.entry_set_init (check_set_init_1 ty0 ?_)
  · obtain ⟨ol, hol, hcl, nl, hdl⟩ := il
    obtain ⟨oc, od, oda, osl⟩ := ol
    simp only at hcl hdl
    subst hcl hdl
    have at1 : (s.heap.push (fresh w)).get? l = some { cls := .type "list", dict := od, data := .seq xs nl, slots := osl } := Heap.get?_push_of_some _ hol
    have sub1 := F.sub_list_set
    have sub2 := F.sub_list_frozenset
    have nd : (Value.type "list" == Value.type "dict") = false := by decide
    have il1 : (s.heap.push (fresh w)).IsList l xs := ⟨_, at1, rfl, nl, rfl⟩
    unfold Builtin.«set.__init__» noKeywords Builtin.Frozenset.updateFrom
    generalize hPI : pyIter = PI
    wp_walk
    subst hPI
    refine wpAny_pyIter_list il1 ?_
    refine wpAny_bind (wpAny_runValue ?_)
    have lt0 : l < s.heap.objs.size := Heap.lt_size hol
    have h3 : A.in1.in1.handled = none := by simp [h0]
    have nI : l ≠ (s.heap.push (fresh w)).objs.size := by
      rw [Heap.size_push]
      exact Nat.ne_of_lt (Nat.lt_succ_of_lt lt0)
    have nS : s.heap.objs.size ∉ [(s.heap.push (fresh w)).objs.size, l] := by
      rw [Heap.size_push]
      simp only [List.mem_cons, List.not_mem_nil, or_false, not_or]
      exact ⟨Nat.ne_of_lt (Nat.lt_succ_self _), Nat.ne_of_gt lt0⟩
    have val : ∀ (i : Nat) (v : Value), xs[i]? = some v → ∃ k t, ns[i]? = some k ∧ v = .int k t := fun i v hv => by
      have hi : i < ns.length := by rw [← size]; exact (Array.getElem?_eq_some_iff.mp hv).1
      obtain ⟨t, e⟩ := PyProof.Rows.IntsAre.int_at ia i v (by rw [Array.getElem?_toList]; exact hv)
      exact ⟨ns[i], t, List.getElem?_eq_getElem hi, by rw [e, List.getD_eq_getElem?_getD, List.getElem?_eq_getElem hi]; rfl⟩
    have at2 : ((s.heap.push (fresh w)).push { cls := .type "list_iterator", data := .fields #[.ref l, .int 0 0] }).get? s.heap.objs.size = some (fresh w) := Heap.get?_push_of_some _ at0
    refine set_update_ints ((Walks.list h3 _ l nI xs).toS) s.heap.objs.size nS ns size hz val (xs.size - 0) 0 _ (by omega) (Nat.zero_le _) ?cH ?cA ?cB
    case cH => exact ⟨⟨_, Heap.get?_push_size _ rfl, rfl, rfl⟩, il1.push _⟩
    case cA => exact ⟨0, Nat.le_refl 0, setR_new_at (w := w) at2⟩
    case cB =>
    intro s' c' mv lc R'
    obtain ⟨h', g2, d', tk', os'⟩ := s'
    cases (show g2 = s.gens from mv.gens)
    cases (show d' = s.drawn from mv.drawn)
    cases (show os' = s.os from mv.os)
    refine wpAny_pure ?_
    refine wpAny_pure ⟨rfl, h', tk', c', rfl, R', by omega, fun b o e => ?_⟩
    have lb : b < s.heap.objs.size := Heap.lt_size e
    refine mv.heap b o ?_ (Heap.get?_push_of_some _ (Heap.get?_push_of_some _ e))
    rw [Heap.size_push]
    simp only [List.mem_cons, List.not_mem_nil, or_false, not_or]
    exact ⟨Nat.ne_of_lt lb, Nat.ne_of_lt (Nat.lt_succ_of_lt lb)⟩
theorem call_set_ints {l : Addr} {xs : Array Value} {ns : List Int} {Q : Value → Shared → Prop} (h0 : A.handled = none) (il : s.heap.IsList l xs) (ia : IntsAre xs.toList ns) (hz : ns.length + 1 < scanBound)
    (k : ∀ s2, SetMade w s ns s2 → Q (.ref s.heap.objs.size) s2) : wpAny (model P w) A (call (.type "set") [.ref l]) Q E s := by
  obtain ⟨c, tl, mro⟩ := F.called_set.mro
  have made := F.called_set.made
  have sub := F.called_set.sub
  have a1 := F.called_set.notType
  have a2 := F.called_set.canCreate
  have a3 := F.typeCall_set_1 (.ref l)
  refine wpAny_call (codeAny_of_tree ?_)
  refine wpAny_pure (a := Fin.again _) ⟨Code.quiet_builtin _ (by decide +kernel), codeAny_builtin F.entry_type_call ?_⟩
  rw [Around.under_plain (weight_type_call_type "set" [.ref l] []) rfl]
  repeat (any_goals (first | assumption | wp_step))
  refine codeAny_mono (code_set_led1 (.ref l) (E := E) (Q₁ := fun o s1 => o = .ref s.heap.objs.size ∧ s1 = { s with heap := s.heap.push (fresh w) }) ⟨rfl, rfl⟩) fun r s1 q => ?_
  cases r with
  | error e => exact q
  | ok fl =>
    cases fl with
    | ret o =>
      obtain ⟨rfl, rfl⟩ := q
      have at0 : (s.heap.push (fresh w)).get? s.heap.objs.size = some (fresh w) := Heap.get?_push_size _ rfl
      have ty0 : Shared.TypeIs { s with heap := s.heap.push (fresh w) } (.ref s.heap.objs.size) "set" := ⟨_, at0, rfl⟩
      have li := F.called_set.init.lookup
      have bi := F.called_set.init.bind (.ref s.heap.objs.size)
      repeat (any_goals (first | assumption | wp_step))
      refine codeAny_mono (set_init_list (E := E) (by simp [h0]) il ia hz) fun r2 s2 q2 => ?_
      cases r2 with
      | error e => exact q2
      | ok f2 =>
        cases f2 with
        | ret v =>
          obtain ⟨rfl, m⟩ := q2
          repeat (any_goals (first | assumption | wp_step))
          exact k _ m
        | next => exact q2.elim
        | brk => exact q2.elim
        | cont => exact q2.elim
    | next => exact q.elim
    | brk => exact q.elim
    | cont => exact q.elim
end
theorem nodup_len : ∀ (l m : List Int), l.Nodup → (∀ x, x ∈ l → x ∈ m) → l.length ≤ m.length
  | [], _, _, _ => Nat.zero_le _
  | x :: l, m, nd, h => by
    have hx := h x (List.mem_cons_self ..)
    obtain ⟨h1, h2⟩ := List.nodup_cons.mp nd
    have ih := nodup_len l (m.erase x) h2 fun y hy => (List.mem_erase_of_ne (fun z : y = x => h1 (by rw [← z]; exact hy))).mpr (h y (List.mem_cons_of_mem _ hy))
    have e := List.length_erase_of_mem hx
    have p := List.length_pos_of_mem hx
    show l.length + 1 ≤ m.length
    omega
theorem setR_few {w : World} {h : Heap} {a : Addr} {ns ms : List Int} {c : Nat} (R : SetR w h a (fun j => decide (j ∈ ns)) c) (k : ∀ x, x ∈ ns → x ∈ ms) : c ≤ ms.length := by
  obtain ⟨o, es, ep, t, ho, hex, hd, g, nd, hm, hb, hf, hn, hr, hl⟩ := R
  have z := nodup_len (es.toList.map keyOf) ms nd fun x hx => k x (of_decide_eq_true ((hm x).mpr hx))
  rw [List.length_map, Array.length_toList] at z
  omega
section
variable {X : Cx}
/-- set(l), l a list of ints -/
def rSetOfI (K : PySem.W.Frag) (w : World) : List V → Hp → VK → Prop := fun xs H Q => ∃ (l : Addr) (ns : List Int), xs = [.ref l] ∧ SqL K H l (ns.map V.int) ∧ ns.length ≤ 4000 ∧ ∀ p c, H p = none → (∀ ms : List Int, (∀ x, x ∈ ns → x ∈ ms) → c ≤ ms.length) → Q (.ref p) (upd H p (SetO w p (fun j => decide (j ∈ ns)) c))
theorem cr_setOfI (hc : X.calm = true) : CallR X (.type "set") (rSetOfI X.K X.w) := by
  intro pins s σ H xs us Q I r h
  obtain ⟨l, ns, rfl, hq, hz, q⟩ := h
  rw [Vals.ref1 r]
  obtain ⟨its, rv, pl, _⟩ := I.list hq
  refine call_set_ints (ns := ns) (I.ok.hd hc) pl.isList (by simpa using ints_of_vals rv) (by unfold scanBound; omega) fun s2 m => ?_
  obtain ⟨h', tk, c, rfl, R, lc, kp⟩ := m
  exact ⟨.ref _, upd H s.heap.objs.size (SetO X.w s.heap.objs.size (fun j => decide (j ∈ ns)) c), I.laid (t' := tk) kp (Nat.le_refl _) (setO_new R), rfl, q _ c (I.hok.fresh (Nat.le_refl _)) fun ms hk => setR_few R hk⟩
end
end RB
namespace RB
open PySem PySem.Spec PyProof.Rows L2
/-! ### the text -/
def top (i : Nat) : Stmt := PySem.Challenge.pw_rungback_k06_whole_the_calendar_comes_ro.main.body.getD i (.Pass ⟨0, 0, 0, 0⟩)
abbrev s_is_whole : Stmt := top 11
theorem sc_is_whole : FnScope ["value"] ["value"] (defScope s_is_whole) := ⟨rfl, rfl, rfl, by decide +kernel, rfl, by decide +kernel, by decide +kernel⟩
theorem bd_is_whole : Bdg "is_whole" "is_whole" s_is_whole ["value"] := fun _ _ _ _ _ _ us hl => match us, hl with | [_], _ => rfl
abbrev s_is_between : Stmt := top 12
theorem sc_is_between : FnScope ["value", "low", "high"] ["value", "low", "high"] (defScope s_is_between) := ⟨rfl, rfl, rfl, by decide +kernel, rfl, by decide +kernel, by decide +kernel⟩
theorem bd_is_between : Bdg "is_between" "is_between" s_is_between ["value", "low", "high"] := fun _ _ _ _ _ _ us hl => match us, hl with | [_, _, _], _ => rfl
abbrev s_is_leap : Stmt := top 13
theorem sc_is_leap : FnScope ["year"] ["year"] (defScope s_is_leap) := ⟨rfl, rfl, rfl, by decide +kernel, rfl, by decide +kernel, by decide +kernel⟩
theorem bd_is_leap : Bdg "is_leap" "is_leap" s_is_leap ["year"] := fun _ _ _ _ _ _ us hl => match us, hl with | [_], _ => rfl
abbrev s_month_length : Stmt := top 14
theorem sc_month_length : FnScope ["year", "month"] ["year", "month"] (defScope s_month_length) := ⟨rfl, rfl, rfl, by decide +kernel, rfl, by decide +kernel, by decide +kernel⟩
theorem bd_month_length : Bdg "month_length" "month_length" s_month_length ["year", "month"] := fun _ _ _ _ _ _ us hl => match us, hl with | [_, _], _ => rfl
abbrev s_days_ahead : Stmt := top 15
theorem sc_days_ahead : FnScope ["year", "past"] ["year"] (defScope s_days_ahead) := ⟨rfl, rfl, rfl, by decide +kernel, rfl, by decide +kernel, by decide +kernel⟩
theorem bd_days_ahead : Bdg "days_ahead" "days_ahead" s_days_ahead ["year"] := fun _ _ _ _ _ _ us hl => match us, hl with | [_], _ => rfl
abbrev s_day_number : Stmt := top 16
theorem sc_day_number : FnScope ["year", "month", "day", "one"] ["year", "month", "day"] (defScope s_day_number) := ⟨rfl, rfl, rfl, by decide +kernel, rfl, by decide +kernel, by decide +kernel⟩
theorem bd_day_number : Bdg "day_number" "day_number" s_day_number ["year", "month", "day"] := fun _ _ _ _ _ _ us hl => match us, hl with | [_, _, _], _ => rfl
abbrev s_date_of : Stmt := top 17
theorem sc_date_of : FnScope ["number", "year", "rest", "month"] ["number"] (defScope s_date_of) := ⟨rfl, rfl, rfl, by decide +kernel, rfl, by decide +kernel, by decide +kernel⟩
theorem bd_date_of : Bdg "date_of" "date_of" s_date_of ["number"] := fun _ _ _ _ _ _ us hl => match us, hl with | [_], _ => rfl
abbrev s_weekday_of : Stmt := top 18
theorem sc_weekday_of : FnScope ["number"] ["number"] (defScope s_weekday_of) := ⟨rfl, rfl, rfl, by decide +kernel, rfl, by decide +kernel, by decide +kernel⟩
theorem bd_weekday_of : Bdg "weekday_of" "weekday_of" s_weekday_of ["number"] := fun _ _ _ _ _ _ us hl => match us, hl with | [_], _ => rfl
abbrev s_wrong_part : Stmt := top 19
theorem sc_wrong_part : FnScope ["year", "month", "day", "hour", "minute"] ["year", "month", "day", "hour", "minute"] (defScope s_wrong_part) := ⟨rfl, rfl, rfl, by decide +kernel, rfl, by decide +kernel, by decide +kernel⟩
theorem bd_wrong_part : Bdg "wrong_part" "wrong_part" s_wrong_part ["year", "month", "day", "hour", "minute"] := fun _ _ _ _ _ _ us hl => match us, hl with | [_, _, _, _, _], _ => rfl
abbrev s_number_in : Stmt := top 20
theorem sc_number_in : FnScope ["text", "least", "most", "sign"] ["text", "least", "most"] (defScope s_number_in) := ⟨rfl, rfl, rfl, by decide +kernel, rfl, by decide +kernel, by decide +kernel⟩
theorem bd_number_in : Bdg "number_in" "number_in" s_number_in ["text", "least", "most"] := fun _ _ _ _ _ _ us hl => match us, hl with | [_, _, _], _ => rfl
abbrev s_date_in : Stmt := top 21
theorem sc_date_in : FnScope ["word", "parts", "found"] ["word"] (defScope s_date_in) := ⟨rfl, rfl, rfl, by decide +kernel, rfl, by decide +kernel, by decide +kernel⟩
theorem bd_date_in : Bdg "date_in" "date_in" s_date_in ["word"] := fun _ _ _ _ _ _ us hl => match us, hl with | [_], _ => rfl
abbrev s_time_in : Stmt := top 22
theorem sc_time_in : FnScope ["word", "parts", "found"] ["word"] (defScope s_time_in) := ⟨rfl, rfl, rfl, by decide +kernel, rfl, by decide +kernel, by decide +kernel⟩
theorem bd_time_in : Bdg "time_in" "time_in" s_time_in ["word"] := fun _ _ _ _ _ _ us hl => match us, hl with | [_], _ => rfl
abbrev s_moment_at : Stmt := top 23
theorem sc_moment_at : FnScope ["number", "year", "month", "day", "rest"] ["number"] (defScope s_moment_at) := ⟨rfl, rfl, rfl, by decide +kernel, rfl, by decide +kernel, by decide +kernel⟩
theorem bd_moment_at : Bdg "moment_at" "moment_at" s_moment_at ["number"] := fun _ _ _ _ _ _ us hl => match us, hl with | [_], _ => rfl
abbrev s_Moment_init : Stmt := inClass (top 24) 1
theorem sc_Moment_init : FnScope ["self", "year", "month", "day", "hour", "minute", "part"] ["self", "year", "month", "day", "hour", "minute"] (defScope s_Moment_init) := ⟨rfl, rfl, rfl, by decide +kernel, rfl, by decide +kernel, by decide +kernel⟩
abbrev s_Moment_at : Stmt := inClass (top 24) 2
theorem sc_Moment_at : FnScope ["number"] ["number"] (defScope s_Moment_at) := ⟨rfl, rfl, rfl, by decide +kernel, rfl, by decide +kernel, by decide +kernel⟩
theorem bd_Moment_at : Bdg "at" "Moment.at" s_Moment_at ["number"] := fun _ _ _ _ _ _ us hl => match us, hl with | [_], _ => rfl
abbrev s_Moment_lt : Stmt := inClass (top 24) 13
theorem sc_Moment_lt : FnScope ["self", "other"] ["self", "other"] (defScope s_Moment_lt) := ⟨rfl, rfl, rfl, by decide +kernel, rfl, by decide +kernel, by decide +kernel⟩
theorem bd_Moment_lt : Bdg "__lt__" "Moment.__lt__" s_Moment_lt ["self", "other"] := fun _ _ _ _ _ _ us hl => match us, hl with | [_, _], _ => rfl
abbrev s_Moment_le : Stmt := inClass (top 24) 14
theorem sc_Moment_le : FnScope ["self", "other"] ["self", "other"] (defScope s_Moment_le) := ⟨rfl, rfl, rfl, by decide +kernel, rfl, by decide +kernel, by decide +kernel⟩
theorem bd_Moment_le : Bdg "__le__" "Moment.__le__" s_Moment_le ["self", "other"] := fun _ _ _ _ _ _ us hl => match us, hl with | [_, _], _ => rfl
abbrev s_Moment_gt : Stmt := inClass (top 24) 15
theorem sc_Moment_gt : FnScope ["self", "other"] ["self", "other"] (defScope s_Moment_gt) := ⟨rfl, rfl, rfl, by decide +kernel, rfl, by decide +kernel, by decide +kernel⟩
theorem bd_Moment_gt : Bdg "__gt__" "Moment.__gt__" s_Moment_gt ["self", "other"] := fun _ _ _ _ _ _ us hl => match us, hl with | [_, _], _ => rfl
abbrev s_Moment_ge : Stmt := inClass (top 24) 16
theorem sc_Moment_ge : FnScope ["self", "other"] ["self", "other"] (defScope s_Moment_ge) := ⟨rfl, rfl, rfl, by decide +kernel, rfl, by decide +kernel, by decide +kernel⟩
theorem bd_Moment_ge : Bdg "__ge__" "Moment.__ge__" s_Moment_ge ["self", "other"] := fun _ _ _ _ _ _ us hl => match us, hl with | [_, _], _ => rfl
abbrev s_Moment_earliest : Stmt := inClass (top 24) 3
theorem sc_Moment_earliest : FnScope [] [] (defScope s_Moment_earliest) := ⟨rfl, rfl, rfl, by decide +kernel, rfl, by decide +kernel, by decide +kernel⟩
theorem bd_Moment_earliest : Bdg "earliest" "Moment.earliest" s_Moment_earliest [] := fun _ _ _ _ _ _ us hl => match us, hl with | [], _ => rfl
abbrev s_Moment_is_date : Stmt := inClass (top 24) 5
theorem sc_Moment_is_date : FnScope ["year", "month", "day"] ["year", "month", "day"] (defScope s_Moment_is_date) := ⟨rfl, rfl, rfl, by decide +kernel, rfl, by decide +kernel, by decide +kernel⟩
theorem bd_Moment_is_date : Bdg "is_date" "Moment.is_date" s_Moment_is_date ["year", "month", "day"] := fun _ _ _ _ _ _ us hl => match us, hl with | [_, _, _], _ => rfl
abbrev s_Moment_read : Stmt := inClass (top 24) 6
theorem sc_Moment_read : FnScope ["cls", "text", "words", "date", "time"] ["cls", "text"] (defScope s_Moment_read) := ⟨rfl, rfl, rfl, by decide +kernel, rfl, by decide +kernel, by decide +kernel⟩
theorem bd_Moment_read : Bdg "read" "Moment.read" s_Moment_read ["cls", "text"] := fun _ _ _ _ _ _ us hl => match us, hl with | [_, _], _ => rfl
abbrev s_Moment_add : Stmt := inClass (top 24) 8
theorem sc_Moment_add : FnScope ["self", "other"] ["self", "other"] (defScope s_Moment_add) := ⟨rfl, rfl, rfl, by decide +kernel, rfl, by decide +kernel, by decide +kernel⟩
theorem bd_Moment_add : Bdg "__add__" "Moment.__add__" s_Moment_add ["self", "other"] := fun _ _ _ _ _ _ us hl => match us, hl with | [_, _], _ => rfl
abbrev s_Moment_sub : Stmt := inClass (top 24) 10
theorem sc_Moment_sub : FnScope ["self", "other"] ["self", "other"] (defScope s_Moment_sub) := ⟨rfl, rfl, rfl, by decide +kernel, rfl, by decide +kernel, by decide +kernel⟩
theorem bd_Moment_sub : Bdg "__sub__" "Moment.__sub__" s_Moment_sub ["self", "other"] := fun _ _ _ _ _ _ us hl => match us, hl with | [_, _], _ => rfl
abbrev s_Moment_eq : Stmt := inClass (top 24) 17
theorem sc_Moment_eq : FnScope ["self", "other"] ["self", "other"] (defScope s_Moment_eq) := ⟨rfl, rfl, rfl, by decide +kernel, rfl, by decide +kernel, by decide +kernel⟩
theorem bd_Moment_eq : Bdg "__eq__" "Moment.__eq__" s_Moment_eq ["self", "other"] := fun _ _ _ _ _ _ us hl => match us, hl with | [_, _], _ => rfl
abbrev s_Moment_str : Stmt := inClass (top 24) 18
theorem sc_Moment_str : FnScope ["self"] ["self"] (defScope s_Moment_str) := ⟨rfl, rfl, rfl, by decide +kernel, rfl, by decide +kernel, by decide +kernel⟩
theorem bd_Moment_str : Bdg "__str__" "Moment.__str__" s_Moment_str ["self"] := fun _ _ _ _ _ _ us hl => match us, hl with | [_], _ => rfl
abbrev s__law_pen : Stmt := top 26
theorem sc__law_pen : FnScope ["_law_script"] ["_law_script"] (defScope s__law_pen) := ⟨rfl, rfl, rfl, by decide +kernel, rfl, by decide +kernel, by decide +kernel⟩
theorem bd__law_pen : Bdg "_law_pen" "_law_pen" s__law_pen ["_law_script"] := fun _ _ _ _ _ _ us hl => match us, hl with | [_], _ => rfl
abbrev s__law_draw : Stmt := top 27
theorem sc__law_draw : FnScope ["_law_pen_here", "_law_many", "_law_digit", "_law_at", "_law_cell", "_law_great", "_law_mixed"] ["_law_pen_here", "_law_many"] (defScope s__law_draw) := ⟨rfl, rfl, rfl, by decide +kernel, rfl, by decide +kernel, by decide +kernel⟩
theorem bd__law_draw : Bdg "_law_draw" "_law_draw" s__law_draw ["_law_pen_here", "_law_many"] := fun _ _ _ _ _ _ us hl => match us, hl with | [_, _], _ => rfl
abbrev s__law_pick : Stmt := top 28
theorem sc__law_pick : FnScope ["_law_pen_here", "_law_some"] ["_law_pen_here", "_law_some"] (defScope s__law_pick) := ⟨rfl, rfl, rfl, by decide +kernel, rfl, by decide +kernel, by decide +kernel⟩
theorem bd__law_pick : Bdg "_law_pick" "_law_pick" s__law_pick ["_law_pen_here", "_law_some"] := fun _ _ _ _ _ _ us hl => match us, hl with | [_, _], _ => rfl
abbrev s__law_next : Stmt := top 29
theorem sc__law_next : FnScope ["_law_moment"] ["_law_moment"] (defScope s__law_next) := ⟨rfl, rfl, rfl, by decide +kernel, rfl, by decide +kernel, by decide +kernel⟩
theorem bd__law_next : Bdg "_law_next" "_law_next" s__law_next ["_law_moment"] := fun _ _ _ _ _ _ us hl => match us, hl with | [_], _ => rfl
abbrev s__law_walk_right : Stmt := top 30
theorem sc__law_walk_right : FnScope ["_law_moment", "_law_many", "_law_turn", "_law_later"] ["_law_moment", "_law_many"] (defScope s__law_walk_right) := ⟨rfl, rfl, rfl, by decide +kernel, rfl, by decide +kernel, by decide +kernel⟩
theorem bd__law_walk_right : Bdg "_law_walk_right" "_law_walk_right" s__law_walk_right ["_law_moment", "_law_many"] := fun _ _ _ _ _ _ us hl => match us, hl with | [_, _], _ => rfl
abbrev s__law_round_right : Stmt := top 31
theorem sc__law_round_right : FnScope ["_law_moment", "_law_later", "_law_told"] ["_law_moment"] (defScope s__law_round_right) := ⟨rfl, rfl, rfl, by decide +kernel, rfl, by decide +kernel, by decide +kernel⟩
theorem bd__law_round_right : Bdg "_law_round_right" "_law_round_right" s__law_round_right ["_law_moment"] := fun _ _ _ _ _ _ us hl => match us, hl with | [_], _ => rfl
abbrev s__law_weekdays_right : Stmt := top 32
theorem sc__law_weekdays_right : FnScope ["_law_year", "_law_month", "_law_day", "_law_found", "_law_one", "_law_many"] ["_law_year", "_law_month", "_law_day"] (defScope s__law_weekdays_right) := ⟨rfl, rfl, rfl, by decide +kernel, rfl, by decide +kernel, by decide +kernel⟩
theorem bd__law_weekdays_right : Bdg "_law_weekdays_right" "_law_weekdays_right" s__law_weekdays_right ["_law_year", "_law_month", "_law_day"] := fun _ _ _ _ _ _ us hl => match us, hl with | [_, _, _], _ => rfl
abbrev s_law : Stmt := top 33
theorem sc_law : FnScope ["_law_script", "_law_pen_here", "_law_turn", "_law_year", "_law_month", "_law_day", "_law_made", "_law_days", "_law_one", "_law_spot"] ["_law_script"] (defScope s_law) := ⟨rfl, rfl, rfl, by decide +kernel, rfl, by decide +kernel, by decide +kernel⟩
theorem bd_law : Bdg "law" "law" s_law ["_law_script"] := fun _ _ _ _ _ _ us hl => match us, hl with | [_], _ => rfl
end RB
namespace RB
open PySem PySem.Spec PyProof.Rows L2
local macro_rules | `(tactic| walk_at "lk") => `(tactic| repeat (first | exact look_hit | exact look_nil | refine look_miss (by decide +kernel) ?_))
local macro_rules | `(tactic| walk_at "rs") => `(tactic| try simp only [tAsg, gName, tVar, tC, tOp, rI, rI0, rU, tUn, tIfS, tTest, tB, tRet, tRetN, tDrop, tCal, tCons, tNil, tTup, tLst, tCB, tAnd, tOr, tNot, tAndV, tOrV, tNotV, tIf, tCmp, t2I, rEq, rNe, tNext, tChain, tSl, tPart, tNoPart, tPar, gSub, rSetL, rIxL, rIxT, rSlL, tSMeth, tMak, rOwnC, tFmtSp, tBM, rAppend, tDrop, gTup, gCons, gNil, iList, iTup, iRng1, iRng2, tWhile, tAug, ipI, tFld, sFld, rSum, rIsi,
  L2.start, cxK, List.map_cons, List.map_nil, List.length_cons, List.length_nil, Nat.zero_add, Nat.reduceAdd, Nat.reduceSub, List.replicate_succ, List.replicate_zero, List.cons_append, List.nil_append, List.append_nil,
  List.getElem?_cons_zero, List.getElem?_cons_succ, List.set_cons_zero, List.set_cons_succ, Option.some.injEq, V.int.injEq, V.ref.injEq, V.bl.injEq, V.str.injEq, List.cons.injEq, reduceCtorEq, and_true, true_and, and_assoc, exists_eq_left', exists_eq_left, exists_eq_right, exists_and_left, exists_and_right, false_and, and_false, or_false, false_or, exists_const, exists_false, if_false, if_true, eq_self, wipe, tYes, Bool.false_eq_true,  scal, decide_eq_true_eq, Bool.not_eq_true', decide_eq_false_iff_not])
section
variable {P : Program} {w : World} {K : PySem.W.Frag} {mg : Str → Option Value} {base : Heap}
theorem ok_law_pen (T : Bn mg) (d : DefIn K mg "_law_pen" "_law_pen" s__law_pen ["_law_script"]) : Has P w K mg base CX0 1 "_law_pen" ["_law_script"] (sp1 (bPen K)) := by
  refine has_of d sc__law_pen (fun vs H Q E h => by obtain ⟨x, rfl, _⟩ := h; rfl) (fun f cdv A outer s H vs Q E hr h => ?_)
  obtain ⟨_, rfl, a, ns, rfl, hS, q⟩ := h
  refine ⟨_, pss_one (ps_ret (pe_lst (pa_cons (pe_callTy call_list_of (by rfl) T.b_list (by decide +kernel) (pa_cons (pe_slice sl_list (pv 0) po_none (po_some (pe_int))) pa_nil)) (pa_cons (pe_int) (pa_cons (pe_int) pa_nil))))), ?_⟩
  walk_at "rs"
  refine ⟨_, hS, fun b hb => ⟨_, .inl (SqL.of upd_same), fun c hc => ⟨by decide, fun p hp => ?_⟩⟩⟩
  have e : cutV (ns.map V.int) none (some 63) = (ns.take 63).map V.int := by
    unfold cutV
    rw [HT.sIx_none, show (some (63 : Int)) = some (((63 : Nat) : Int)) from rfl, HT.sIx_nat (ns.map V.int).length (ns.map V.int).length 63, List.drop_zero, List.map_take, Nat.sub_zero, List.length_map]
    by_cases h : 63 ≤ ns.length
    · rw [Nat.min_eq_left h]
    · rw [Nat.min_eq_right (by omega), List.take_of_length_le (by rw [List.length_map]; omega), List.take_of_length_le (by rw [List.length_map]; omega)]
  rw [e] at hc hp ⊢
  have n1 : c ≠ b := fun z => by rw [z, upd_same] at hc; cases hc
  have n2 : p ≠ c := fun z => by rw [z, upd_same] at hp; cases hp
  have hcb : H c = none := by rw [upd_ne n1] at hc; exact hc
  have s1 : Same H (upd H b (.lst ((ns.take 63).map V.int))) := same_new hb
  have s2 := s1.trans (same_new (o := .lst ((ns.take 63).map V.int)) hc)
  refine q p c _ ⟨⟨ns.take 63, 0, 0, upd_same, by rw [upd_ne n2.symm, upd_same], by rw [List.length_take]; omega, Nat.le_refl _, Int.le_refl _⟩⟩ (s2.trans (same_new hp)) (s2.free hp) hcb
theorem ok_law_draw (T : Bn mg) (d : DefIn K mg "_law_draw" "_law_draw" s__law_draw ["_law_pen_here", "_law_many"]) : Has P w K mg base CX0 1 "_law_draw" ["_law_pen_here", "_law_many"] (sp2 bDraw) := by
  refine has_of d sc__law_draw (fun vs H Q E h => by obtain ⟨x, y, rfl, _⟩ := h; rfl) (fun f cdv A outer s H vs Q E hr h => ?_)
  obtain ⟨_, _, rfl, p, c, n, many, rfl, rfl, hP, hn, hm0, hm1, q⟩ := h
  refine ⟨_, Evl.pss_cut (ps_if (pt_cmpR op_gt (pe_ix ix_list (pv 0) (pe_int) (fun _ _ => rfl)) (pe_int) (nomark _)) (Evl.pss_cut (ps_set (i := 2) sc__law_draw.nd rfl (Or.inl rfl) (pe_op op_mod (pe_callTy call_int1 (by rfl) T.b_int (by decide +kernel) (pa_cons (pe_ix ix_list (pv 0) (pe_int) (fun _ _ => rfl)) pa_nil)) (pv 1)))
      (Evl.pss_cut (ps_asg (pe_op op_fdiv (pe_callTy call_int1 (by rfl) T.b_int (by decide +kernel) (pa_cons (pe_ix ix_list (pv 0) (pe_int) (fun _ _ => rfl)) pa_nil)) (pv 1)) (pg_sub (pv 0) (pe_int) set_list))
      (pss_one (ps_ret (pv 2))))) (pss_nil))
      (Evl.pss_cut (ps_set (i := 3) sc__law_draw.nd rfl (Or.inl rfl) (pe_ix ix_list (pv 0) (pe_int) (fun _ _ => rfl)))
      (Evl.pss_cut (ps_asg (pe_op op_add (pv 3) (pe_int)) (pg_sub (pv 0) (pe_int) set_list))
      (Evl.pss_cut (ps_set (i := 4) sc__law_draw.nd rfl (Or.inl rfl) (pe_op op_add (pe_op op_mul (pe_int) (pv 3)) (pe_int)))
      (Evl.pss_cut (ps_if (pt_cmpR (op_neD hr.units) (pe_ix ix_list (pv 0) (pe_int) (fun _ _ => rfl)) (pe_lst pa_nil) (nomark _)) (pss_one (ps_set (i := 4) sc__law_draw.nd rfl (Or.inl rfl) (pe_ix ix_list (pe_ix ix_list (pv 0) (pe_int) (fun _ _ => rfl)) (pe_op op_mod (pe_callTy call_int1 (by rfl) T.b_int (by decide +kernel) (pa_cons (pv 3) pa_nil)) (pe_callB call_len_seq (by rfl) T.b_len PySem.boot_len (pa_cons (pe_ix ix_list (pv 0) (pe_int) (fun _ _ => rfl)) pa_nil))) (fun _ _ => rfl)))) (pss_nil))
      (Evl.pss_cut (ps_if (PW.pt (pw_and (pt_cmpR op_lt (pv 3) (pe_callB call_len_seq (by rfl) T.b_len PySem.boot_len (pa_cons (pe_ix ix_list (pv 0) (pe_int) (fun _ _ => rfl)) pa_nil)) (nomark _)) (pw_and1 (pt_cmpR op_ge (pe_callB call_abs (by rfl) T.b_abs (by decide +kernel) (pa_cons (pv 4) pa_nil)) (pe_op op_pow (pe_int) (pe_int)) (nomark _))))) (Evl.pss_cut (ps_set (i := 5) sc__law_draw.nd rfl (Or.inl rfl) (pe_op op_add (pe_op op_mul (pe_int) (pe_op op_sub (pe_callB call_abs (by rfl) T.b_abs (by decide +kernel) (pa_cons (pv 4) pa_nil)) (pe_op op_pow (pe_int) (pe_int)))) (pe_callTy call_int1 (by rfl) T.b_int (by decide +kernel) (pa_cons (pe_cmpR op_lt (pv 4) (pe_int) (nomark _)) pa_nil))))
      (Evl.pss_cut (ps_asg (pe_op op_fdiv (pe_callTy call_int1 (by rfl) T.b_int (by decide +kernel) (pa_cons (pv 5) pa_nil)) (pv 1)) (pg_sub (pv 0) (pe_int) set_list))
      (pss_one (ps_ret (pe_op op_mod (pe_callTy call_int1 (by rfl) T.b_int (by decide +kernel) (pa_cons (pv 5) pa_nil)) (pv 1)))))) (pss_nil))
      (Evl.pss_cut (ps_set (i := 6) sc__law_draw.nd rfl (Or.inl rfl) (pe_op op_mod (pe_callTy call_int1 (by rfl) T.b_int (by decide +kernel) (pa_cons (pe_op op_pow (pe_op op_add (pe_op op_add (pe_op op_mod (pe_callTy call_int1 (by rfl) T.b_int (by decide +kernel) (pa_cons (pv 4) pa_nil)) (pe_int)) (pe_op op_mul (pe_int) (pv 3))) (pe_int)) (pe_int)) pa_nil)) (pe_int)))
      (Evl.pss_cut (ps_set (i := 6) sc__law_draw.nd rfl (Or.inl rfl) (pe_op op_mod (pe_callTy call_int1 (by rfl) T.b_int (by decide +kernel) (pa_cons (pe_op op_pow (pe_op op_add (pe_op op_add (pe_op op_mul (pv 6) (pe_op op_add (pe_op op_mul (pe_int) (pv 3)) (pe_int))) (pe_op op_mul (pe_op op_mul (pe_int) (pv 3)) (pv 3))) (pe_int)) (pe_int)) pa_nil)) (pe_int)))
      (pss_one (ps_ret (pe_op op_mod (pe_callTy call_int1 (by rfl) T.b_int (by decide +kernel) (pa_cons (pe_op op_fdiv (pv 6) (pe_int)) pa_nil)) (pv 1))))))))))), ?_⟩
  refine st_gen fun N hN => ?_
  walk_at "rs"
  obtain ⟨⟨cs, k, gr, hp, hc, hl, hk, hg⟩⟩ := id hP
  refine ⟨_, SqL.of hp, .int gr, rfl, gr, rfl, ?_⟩
  walk_at "rs"
  refine ite2 (fun c1 => ?_) (fun c1 => ?_)
  · refine st_gen fun N2 hN2 => ?_
    walk_at "rs"
    refine ⟨_, SqL.of hp, _, rfl, .inl ⟨gr, rfl, hm0, hN2 _ _ ?_⟩⟩
    refine st_gen fun N3 hN3 => ?_
    walk_at "rs"
    refine ⟨_, SqL.of hp, _, rfl, .inl ⟨gr, rfl, ?_⟩⟩
    refine ⟨⟨hm0, hm1⟩, _, hp, _, rfl, hN3 _ _ ?_⟩
    walk_at "rs"
    refine q _ _ (Int.emod_nonneg _ (by omega)) (Int.emod_lt_of_pos _ hm0) ⟨⟨cs, k, gr / many, upd_same, by rw [upd_ne hP.pc.symm]; exact hc, hl, by omega, Int.ediv_nonneg hg (by omega)⟩⟩ (But.wr But.refl)
  · refine hN _ _ ?_
    refine st_gen fun N1 hN1 => ?_
    walk_at "rs"
    refine ⟨_, SqL.of hp, _, rfl, hN1 _ _ ?_⟩
    refine st_gen fun N2 hN2 => ?_
    walk_at "rs"
    refine ⟨_, hp, _, rfl, hN2 _ (upd H p (.lst [.ref c, .int ((k : Int) + 1), .int gr])) ?_⟩
    -- the pen with its place moved on
    have hp1 : (upd H p (.lst [.ref c, .int ((k : Int) + 1), .int gr])) p = some (.lst [.ref c, .int (((k + 1 : Nat) : Int)), .int gr]) := upd_same
    have hc1 : (upd H p (.lst [.ref c, .int ((k : Int) + 1), .int gr])) c = some (.lst (cs.map V.int)) := by rw [upd_ne hP.pc.symm]; exact hc
    have b1 : But p H (upd H p (.lst [.ref c, .int ((k : Int) + 1), .int gr])) := But.wr But.refl
    have pc := hP.pc
    generalize upd H p (.lst [.ref c, .int ((k : Int) + 1), .int gr]) = H1 at hp1 hc1 b1 ⊢
    refine st_gen fun N3 hN3 => ?_
    walk_at "rs"
    refine ⟨.inl ⟨by decide, by decide⟩, hN3 _ _ ?_⟩
    refine st_cut (fun σ H2 => ∃ (z : Int), σ = [some (.ref p), some (.int many), none, some (.int k), some (.int z), none, none] ∧ H2 p = some (.lst [.ref c, .int (((k + 1 : Nat) : Int)), .int gr]) ∧ H2 c = some (.lst (cs.map V.int)) ∧ But p H H2) ?_ (fun σ H2 hM => ?_)
    · walk_at "rs"
      refine ⟨_, SqL.of hp1, _, rfl, Nat.zero_le _, fun b hb => ?_⟩
      have nb : b ≠ p := fun z => by rw [z, hp1] at hb; cases hb
      have ncb : c ≠ b := fun z => by rw [← z, hc1] at hb; cases hb
      have hp2 : upd H1 b (.lst []) p = some (.lst [.ref c, .int (((k + 1 : Nat) : Int)), .int gr]) := by rw [upd_ne nb.symm]; exact hp1
      have hc2 : upd H1 b (.lst []) c = some (.lst (cs.map V.int)) := by rw [upd_ne ncb]; exact hc1
      refine rNe_ints (ms := []) (SqL.of hc2) (SqL.of upd_same) ⟨_, rfl, ?_⟩
      by_cases z : cs = []
      · rw [z, decide_eq_true rfl]
        refine iteF ?_
        rw [z] at hc2
        exact ⟨hp2, hc2, b1.new hb⟩
      · rw [decide_eq_false z]
        refine iteT ?_
        have hl' : (cs.map V.int) ≠ [] := fun e => z (List.map_eq_nil_iff.mp e)
        obtain ⟨v, hv, av⟩ := at_mod (z := (k : Int)) hl'
        obtain ⟨i, _, rfl⟩ := List.mem_map.mp hv
        refine ⟨_, SqL.of hp2, _, rfl, _, SqL.of hp2, _, rfl, _, rfl, _, .inl (SqL.of hc2), ?_, _, rfl, _, SqL.of hc2, _, av, ⟨i, rfl⟩, hp2, hc2, b1.new hb⟩
        have := List.length_pos_iff.mpr hl'
        omega
    obtain ⟨z, rfl, hp2, hc2, b2⟩ := hM
    refine st_gen fun N4 hN4 => ?_
    walk_at "rs"
    refine ⟨_, SqL.of hp2, _, rfl, _, rfl, _, .inl (SqL.of hc2), ?_⟩
    have rest : N4 [some (.ref p), some (.int many), none, some (.int k), some (.int z), none, none] H2 := by
      refine hN4 _ _ ?_
      refine st_gen fun N5 hN5 => ?_
      walk_at "rs"
      have m1 := Int.emod_nonneg z (b := 2147483563) (by decide)
      refine ⟨by decide, small_mul (by decide) (by decide), pow_ok (by decide) (by decide) (by omega) (by omega), by decide, hN5 _ _ ?_⟩
      generalize hg1 : ((z % 2147483563 + _ * (k : Int) + _) ^ Int.toNat 5 % 2147483629) = m
      have m2 : 0 ≤ m ∧ m < 2147483648 := by
        rw [← hg1]
        exact ⟨Int.emod_nonneg _ (by decide), Int.lt_trans (Int.emod_lt_of_pos _ (by decide)) (by decide)⟩
      refine st_gen fun N6 hN6 => ?_
      walk_at "rs"
      have mx := fun c d f h1 h2 h3 h4 h5 h6 => mix_ok (m := m) (k := (k : Int)) (c := c) (d := d) (f := f) m2.1 (by omega) (by omega) (by omega) h1 h2 h3 h4 h5 h6
      refine ⟨small_mul (by decide) (by decide), small_mul m2.1 (by omega), small_mul (by decide) (by decide), small_mul (by omega) (by omega), pow_ok (by decide) (by decide) (mx _ _ _ (by decide) (by decide) (by decide) (by decide) (by decide) (by decide)).1 (mx _ _ _ (by decide) (by decide) (by decide) (by decide) (by decide) (by decide)).2, by decide, hN6 _ _ ?_⟩
      walk_at "rs"
      refine ⟨⟨by decide, by decide⟩, hm0, ?_⟩
      exact q _ _ (Int.emod_nonneg _ (by omega)) (Int.emod_lt_of_pos _ hm0) ⟨⟨cs, k + 1, gr, hp2, hc2, hl, by omega, hg⟩⟩ b2
    refine ite2 (fun _ => ⟨⟨by decide, by decide, by decide⟩, ?_⟩) (fun _ => rest)
    refine ite2 (fun _ => ?_) (fun _ => rest)
    refine st_gen fun N5 hN5 => ?_
    walk_at "rs"
    refine ⟨⟨by decide, by decide, by decide⟩, small_mul (by decide) (by decide), hN5 _ _ ?_⟩
    have gn : 0 ≤ (2 * ((if z < 0 then -z else z) - 10 ^ Int.toNat 18) + if z < 0 then 1 else 0) := by
      have e : (10 : Int) ^ Int.toNat 18 = 1000000000000000000 := by decide
      omega
    generalize (2 * ((if z < 0 then -z else z) - 10 ^ Int.toNat 18) + if z < 0 then 1 else 0) = gg at gn ⊢
    refine st_gen fun N6 hN6 => ?_
    walk_at "rs"
    refine ⟨⟨hm0, hm1⟩, _, hp2, _, rfl, hN6 _ _ ?_⟩
    walk_at "rs"
    refine ⟨hm0, ?_⟩
    refine q _ _ (Int.emod_nonneg _ (by omega)) (Int.emod_lt_of_pos _ hm0) ⟨⟨cs, k + 1, gg / many, upd_same, by rw [upd_ne pc.symm]; exact hc2, hl, by omega, Int.ediv_nonneg gn (by omega)⟩⟩ (b2.wr)
theorem ok_law_pick (T : Bn mg) (d : DefIn K mg "_law_pick" "_law_pick" s__law_pick ["_law_pen_here", "_law_some"]) (h_draw : Has P w K mg base CX0 1 "_law_draw" ["_law_pen_here", "_law_many"] (sp2 bDraw)) :
    Has P w K mg base CX0 2 "_law_pick" ["_law_pen_here", "_law_some"] (sp2 (bPick K)) := by
  refine has_of d sc__law_pick (fun vs H Q E h => by obtain ⟨x, y, rfl, _⟩ := h; rfl) (fun f cdv A outer s H vs Q E hr h => ?_)
  obtain ⟨_, _, rfl, p, c, n, a, xs, rfl, rfl, hP, hn, hS, na, hne, hlen, q⟩ := h
  refine ⟨_, pss_one (ps_ret (pe_ix ix_list (pv 1) (pe_callH h_draw hr pass0 (pa_cons (pv 0) (pa_cons (pe_callB call_len_seq (by rfl) T.b_len PySem.boot_len (pa_cons (pv 1) pa_nil)) pa_nil))) (fun _ _ => rfl))), ?_⟩
  walk_at "rs"
  refine ⟨_, .inl hS, _, _, rfl, p, c, n, _, rfl, rfl, hP, hn, ?_, ?_, fun r H1 r0 r1 P1 b1 => ?_⟩
  · have := List.length_pos_iff.mpr hne
    omega
  · omega
  obtain ⟨v, hv, av⟩ := at_in r0 r1
  exact ⟨_, _, rfl, b1.sqL hS na, _, av, q v H1 hv P1 b1⟩
end
end RB
namespace RB
open PySem PySem.Spec PyProof.Rows L2
local macro_rules | `(tactic| walk_at "lk") => `(tactic| repeat (first | exact look_hit | exact look_nil | refine look_miss (by decide +kernel) ?_))
local macro_rules | `(tactic| walk_at "rs") => `(tactic| try simp only [tAsg, gName, tVar, tC, tOp, rI, rI0, rU, tUn, tIfS, tTest, tB, tRet, tRetN, tDrop, tCal, tCons, tNil, tTup, tLst, tCB, tAnd, tOr, tNot, tAndV, tOrV, tNotV, tIf, tCmp, t2I, rEq, rNe, tNext, tChain, tSl, tPart, tNoPart, tPar, gSub, rSetL, rIxL, rIxT, rSlL, tSMeth, tMak, rOwnC, tFmtSp, tBM, rAppend, tDrop, gTup, gCons, gNil, iList, iTup, iRng1, iRng2, tWhile, tAug, ipI, tFld, sFld, rSum, rIsi,
  L2.start, cxK, List.map_cons, List.map_nil, List.length_cons, List.length_nil, Nat.zero_add, Nat.reduceAdd, Nat.reduceSub, List.replicate_succ, List.replicate_zero, List.cons_append, List.nil_append, List.append_nil,
  List.getElem?_cons_zero, List.getElem?_cons_succ, List.set_cons_zero, List.set_cons_succ, Option.some.injEq, V.int.injEq, V.ref.injEq, V.bl.injEq, V.str.injEq, List.cons.injEq, reduceCtorEq, and_true, true_and, and_assoc, exists_eq_left', exists_eq_left, exists_eq_right, exists_and_left, exists_and_right, false_and, and_false, or_false, false_or, exists_const, exists_false, if_false, if_true, eq_self, wipe, tYes, Bool.false_eq_true,  scal, decide_eq_true_eq, Bool.not_eq_true', decide_eq_false_iff_not])
section
variable {P : Program} {w : World} {K : PySem.W.Frag} {mg : Str → Option Value} {base : Heap}
theorem ok_is_whole (T : Bn mg) (dd : DefIn K mg "is_whole" "is_whole" s_is_whole ["value"]) : Has P w K mg base CX0 1 "is_whole" ["value"] (sp1 (bWhole K)) := by
  refine has_of dd sc_is_whole (fun vs H Q E h => by obtain ⟨x0, rfl, _⟩ := h; rfl) (fun f cdv A outer s H vs Q E hr h => ?_)
  obtain ⟨_, rfl, h⟩ := h
  refine ⟨_, pss_one (ps_ret (pe_and (pe_callB call_isi (by rfl) T.b_isinstance (by decide +kernel) (pa_cons (pv 0) (pa_cons (pe_bltn (v := .ty "int") (u := .type "int") (by rfl) T.b_int (by decide +kernel) rfl) pa_nil))) (pe_one (pe_not (pe_callB call_isi (by rfl) T.b_isinstance (by decide +kernel) (pa_cons (pv 0) (pa_cons (pe_bltn (v := .ty "bool") (u := .type "bool") (by rfl) T.b_bool (by decide +kernel) rfl) pa_nil))))))), ?_⟩
  obtain ⟨⟨t, b1, b2, ty, k1, k2, e⟩, q⟩ := h
  walk_at "rs"
  refine ⟨t, _, .ty _, ty, b1, k1, ?_⟩
  cases b1 with
  | true => exact iteT ⟨t, _, .ty _, ty, b2, k2, by rw [← e] at q; exact q⟩
  | false => exact iteF (by rw [← e] at q; exact q)
theorem ok_is_between (T : Bn mg) (dd : DefIn K mg "is_between" "is_between" s_is_between ["value", "low", "high"]) (h_is_whole : Has P w K mg base CX0 1 "is_whole" ["value"] (sp1 (bWhole K))) : Has P w K mg base CX0 2 "is_between" ["value", "low", "high"] (sp3 (bBetween K)) := by
  refine has_of dd sc_is_between (fun vs H Q E h => by obtain ⟨x0, x1, x2, rfl, _⟩ := h; rfl) (fun f cdv A outer s H vs Q E hr h => ?_)
  obtain ⟨_, _, _, rfl, h⟩ := h
  refine ⟨_, pss_one (ps_ret (pe_and (pe_callH h_is_whole hr pass0 (pa_cons (pv 0) pa_nil)) (pe_one (pe_chain op_le op_le (pv 1) (pv 0) (pv 2))))), ?_⟩
  obtain ⟨lo, hi, rfl, rfl, hw, q⟩ := h
  walk_at "rs"
  refine ⟨_, rfl, hw, _, rfl, ?_⟩
  rename_i v
  cases v with
  | int n =>
    refine iteT ?_
    walk_at "rs"
    have q' : Q (.bl (decide (lo ≤ n) && decide (n ≤ hi))) H := q
    refine ite2 (fun c => ?_) (fun c => ?_)
    · rw [decide_eq_true c] at q'
      exact q'
    · rw [decide_eq_false c] at q'
      exact q'
  | _ => exact iteF q
theorem ok_is_leap (T : Bn mg) (dd : DefIn K mg "is_leap" "is_leap" s_is_leap ["year"]) : Has P w K mg base CX0 1 "is_leap" ["year"] (sp1 bLeap) := by
  refine has_of dd sc_is_leap (fun vs H Q E h => by obtain ⟨x0, rfl, _⟩ := h; rfl) (fun f cdv A outer s H vs Q E hr h => ?_)
  obtain ⟨_, rfl, h⟩ := h
  refine ⟨_, pss_one (ps_ret (pe_and (pe_cmpR op_eq (pe_op op_mod (pv 0) (pe_int)) (pe_int) (nomark _)) (pe_one (pe_or (pe_cmpR op_ne (pe_op op_mod (pv 0) (pe_int)) (pe_int) (nomark _)) (pe_one (pe_cmpR op_eq (pe_op op_mod (pv 0) (pe_int)) (pe_int) (nomark _))))))), ?_⟩
  obtain ⟨y, rfl, q⟩ := h
  unfold Cal.leap at q
  walk_at "rs"
  refine ⟨by decide, ?_⟩
  refine ite2 (fun c => ⟨by decide, ?_⟩) (fun c => ?_)
  · rw [decide_eq_true c] at q
    refine ite2 (fun c2 => ?_) (fun c2 => ⟨by decide, ?_⟩)
    · rw [decide_eq_false c2] at q
      exact q
    · rw [decide_eq_true (Classical.not_not.mp c2)] at q
      exact q
  · rw [decide_eq_false c] at q
    exact q
theorem ok_month_length (T : Bn mg) (dd : DefIn K mg "month_length" "month_length" s_month_length ["year", "month"]) (h_is_leap : Has P w K mg base CX0 1 "is_leap" ["year"] (sp1 bLeap)) {aL : Addr} (c_LENGTHS : ConstIn mg "LENGTHS" (.ref aL)) (hL : ∀ H, SqT K H aL (Cal.LEN.map V.int)) : Has P w K mg base CX0 2 "month_length" ["year", "month"] (sp2 bMl) := by
  refine has_of dd sc_month_length (fun vs H Q E h => by obtain ⟨x0, x1, rfl, _⟩ := h; rfl) (fun f cdv A outer s H vs Q E hr h => ?_)
  obtain ⟨_, _, rfl, h⟩ := h
  refine ⟨_, pss_one (ps_ret (pe_op op_add (pe_ix ix_tup (pe_globC c_LENGTHS (by rfl)) (pe_op op_sub (pv 1) (pe_int)) (fun _ _ => rfl)) (pe_callTy call_int1 (by rfl) T.b_int (by decide +kernel) (pa_cons (pe_and (pe_cmpR op_eq (pv 1) (pe_int) (nomark _)) (pe_one (pe_callH h_is_leap hr pass0 (pa_cons (pv 0) pa_nil)))) pa_nil)))), ?_⟩
  obtain ⟨y, m, rfl, rfl, h1, h2, q⟩ := h
  have at_ : atI (Cal.LEN.map V.int) (m - 1) = some (.int (Cal.LEN.getD (m - 1).toNat 0)) :=
    Cal.m_cases (P := fun m => atI (Cal.LEN.map V.int) (m - 1) = some (.int (Cal.LEN.getD (m - 1).toNat 0))) h1 h2 rfl rfl rfl rfl rfl rfl rfl rfl rfl rfl rfl rfl
  walk_at "rs"
  refine ⟨_, hL H, _, at_, ?_⟩
  unfold Cal.ml at q
  refine ite2 (fun c => ⟨_, rfl, y, rfl, .inr ⟨_, rfl, _, rfl, ?_⟩⟩) (fun c => ⟨_, rfl, ?_⟩)
  · cases hl : Cal.leap y with
    | true =>
      rw [if_pos ⟨c, hl⟩] at q
      exact q
    | false =>
      rw [if_neg (fun z => by rw [hl] at z; exact absurd z.2 (by decide))] at q
      exact q
  · rw [if_neg (fun z => c z.1)] at q
    exact q
theorem ok_days_ahead (T : Bn mg) (dd : DefIn K mg "days_ahead" "days_ahead" s_days_ahead ["year"]) : Has P w K mg base CX0 1 "days_ahead" ["year"] (sp1 bDA) := by
  refine has_of dd sc_days_ahead (fun vs H Q E h => by obtain ⟨x0, rfl, _⟩ := h; rfl) (fun f cdv A outer s H vs Q E hr h => ?_)
  obtain ⟨_, rfl, h⟩ := h
  refine ⟨_, Evl.pss_cut (ps_set (i := 1) sc_days_ahead.nd rfl (Or.inl rfl) (pe_op op_sub (pv 0) (pe_int)))
      (pss_one (ps_ret (pe_op op_add (pe_op op_sub (pe_op op_add (pe_op op_mul (pe_int) (pv 1)) (pe_op op_fdiv (pv 1) (pe_int))) (pe_op op_fdiv (pv 1) (pe_int))) (pe_op op_fdiv (pv 1) (pe_int))))), ?_⟩
  obtain ⟨y, rfl, q⟩ := h
  refine st_gen fun N hN => ?_
  walk_at "rs"
  refine hN _ _ ?_
  walk_at "rs"
  exact ⟨small_mul (by decide) (by decide), ⟨by decide, by decide⟩, ⟨by decide, by decide⟩, ⟨by decide, by decide⟩, q⟩
theorem ok_day_number (T : Bn mg) (dd : DefIn K mg "day_number" "day_number" s_day_number ["year", "month", "day"]) (h_days_ahead : Has P w K mg base CX0 1 "days_ahead" ["year"] (sp1 bDA)) (h_month_length : Has P w K mg base CX0 2 "month_length" ["year", "month"] (sp2 bMl)) : Has P w K mg base CX0 3 "day_number" ["year", "month", "day"] (sp3 bDn) := by
  refine has_of dd sc_day_number (fun vs H Q E h => by obtain ⟨x0, x1, x2, rfl, _⟩ := h; rfl) (fun f cdv A outer s H vs Q E hr h => ?_)
  obtain ⟨_, _, _, rfl, h⟩ := h
  refine ⟨_, pss_one (ps_ret (pe_op op_sub (pe_op op_add (pe_op op_add (pe_callH h_days_ahead hr pass0 (pa_cons (pv 0) pa_nil)) (pe_callB (cr_sum rfl) (by rfl) T.b_sum (by decide +kernel) (pa_cons (pe_lc (own := [("one", 3)]) (g := gName 3) (by rfl) sc_day_number.nd (pi_range2 (by rfl) T.b_range (pa_cons (pe_int) (pa_cons (pv 1) pa_nil))) (blkOk_by (own := [("one", 3)]) (N := ["year", "month", "day", "one"]) (sc := defScope s_day_number) (by decide +kernel)) (fun _ _ _ _ _ => pg_name (i := 3) sc_day_number.nd rfl (Or.inl rfl)) (fun _ _ _ _ _ => pts_nil) (fun _ _ _ _ _ => (pe_callH h_month_length hr pass0 (pa_cons (pv 0) (pa_cons (pv 3) pa_nil))))) pa_nil))) (pv 2)) (pe_int))), ?_⟩
  obtain ⟨y, m, d, rfl, rfl, rfl, h1, h2, q⟩ := h
  walk_at "rs"
  refine ⟨_, rfl, y, rfl, ?_⟩
  have b62 : (2 : Int) ^ 62 = 4611686018427387904 := by decide
  refine ⟨_, rfl, 1, m, rfl, by rw [b62]; omega, fun D hD => ?_⟩
  refine lc_range (lo := 1) (n := (m - 1).toNat) (fun i H' => H' D = some (.lst ((List.range i).map fun (k : Nat) => V.int (Cal.ml y (1 + (k : Int))))) ∧ Same H H') ⟨upd_same, same_new hD⟩ (fun i H' hi hP => ?_) (fun H' hP => ?_)
  · refine ⟨rfl, ?_⟩
    walk_at "rs"
    refine ⟨_, _, rfl, y, 1 + (i : Int), rfl, rfl, by omega, by omega, _, hP.1, ?_, ?_, fun b o e => ?_⟩
    · rw [List.length_map, List.length_range]
      exact small1000 (by omega)
    · rw [upd_same, List.range_succ, List.map_append]
      rfl
    · rw [upd_ne (ne_of_none e hD)]
      exact hP.2 _ _ e
  · have e : ((List.range (m - 1).toNat).map fun (k : Nat) => V.int (Cal.ml y (1 + (k : Int)))) = (((List.range (m - 1).toNat).map fun (k : Nat) => Cal.ml y (1 + (k : Int)))).map V.int := by
      rw [List.map_map]
      rfl
    refine ⟨_, rfl, _, SqL.of (by rw [hP.1, e]), _, rfl, ?_⟩
    walk_at "rs"
    have e2 : (((List.range (m - 1).toNat).map fun (k : Nat) => Cal.ml y (1 + (k : Int)))).sum = Cal.sm y (m - 1).toNat := sum_sm y _
    rw [e2]
    exact q H' hP.2
theorem ok_date_of (T : Bn mg) (dd : DefIn K mg "date_of" "date_of" s_date_of ["number"]) (h_days_ahead : Has P w K mg base CX0 1 "days_ahead" ["year"] (sp1 bDA)) (h_month_length : Has P w K mg base CX0 2 "month_length" ["year", "month"] (sp2 bMl)) (c_ROUND_YEARS : ConstIn mg "ROUND_YEARS" (.int 400)) (c_ROUND_DAYS : ConstIn mg "ROUND_DAYS" (.int 146097)) : Has P w K mg base CX0 3 "date_of" ["number"] (sp1 bDate) := by
  refine has_of dd sc_date_of (fun vs H Q E h => by obtain ⟨x0, rfl, _⟩ := h; rfl) (fun f cdv A outer s H vs Q E hr h => ?_)
  obtain ⟨_, rfl, h⟩ := h
  refine ⟨_, Evl.pss_cut (ps_set (i := 1) sc_date_of.nd rfl (Or.inl rfl) (pe_op op_add (pe_op op_fdiv (pe_op op_mul (pv 0) (pe_globC c_ROUND_YEARS (by rfl))) (pe_globC c_ROUND_DAYS (by rfl))) (pe_int)))
      (Evl.pss_cut (ps_while PassesOwn.never (pt_cmpR op_gt (pe_callH h_days_ahead hr pass0 (pa_cons (pv 1) pa_nil)) (pv 0) (nomark _)) (pss_one (ps_set (i := 1) sc_date_of.nd rfl (Or.inl rfl) (pe_op op_sub (pv 1) (pe_int)))))
      (Evl.pss_cut (ps_while PassesOwn.never (pt_cmpR op_le (pe_callH h_days_ahead hr pass0 (pa_cons (pe_op op_add (pv 1) (pe_int)) pa_nil)) (pv 0) (nomark _)) (pss_one (ps_set (i := 1) sc_date_of.nd rfl (Or.inl rfl) (pe_op op_add (pv 1) (pe_int)))))
      (Evl.pss_cut (ps_set (i := 2) sc_date_of.nd rfl (Or.inl rfl) (pe_op op_sub (pv 0) (pe_callH h_days_ahead hr pass0 (pa_cons (pv 1) pa_nil))))
      (Evl.pss_cut (ps_set (i := 3) sc_date_of.nd rfl (Or.inl rfl) (pe_int))
      (Evl.pss_cut (ps_while PassesOwn.never (pt_cmpR op_ge (pv 2) (pe_callH h_month_length hr pass0 (pa_cons (pv 1) (pa_cons (pv 3) pa_nil))) (nomark _)) (Evl.pss_cut (ps_set (i := 2) sc_date_of.nd rfl (Or.inl rfl) (pe_op op_sub (pv 2) (pe_callH h_month_length hr pass0 (pa_cons (pv 1) (pa_cons (pv 3) pa_nil)))))
      (pss_one (ps_set (i := 3) sc_date_of.nd rfl (Or.inl rfl) (pe_op op_add (pv 3) (pe_int))))))
      (pss_one (ps_ret (pe_tup (pa_cons (pv 1) (pa_cons (pv 3) (pa_cons (pe_op op_add (pv 2) (pe_int)) pa_nil))))))))))), ?_⟩
  obtain ⟨n, rfl, h0, h1, q⟩ := h
  refine st_gen fun N1 hN1 => ?_
  walk_at "rs"
  refine ⟨.inr (by decide), ⟨by decide, by decide⟩, hN1 _ _ ?_⟩
  have y0 : 1 ≤ n * 400 / 146097 + 1 := by omega
  generalize n * 400 / 146097 + 1 = y at y0 ⊢
  -- while days_ahead(year) > number
  refine st_cut (fun σ H2 => H2 = H ∧ ∃ y : Int, σ = [some (.int n), some (.int y), none, none] ∧ 1 ≤ y ∧ Cal.dA y ≤ n) ?_ (fun σ H2 hM => ?_)
  · refine ⟨fun m σ H2 => H2 = H ∧ ∃ y : Int, σ = [some (.int n), some (.int y), none, none] ∧ 1 ≤ y ∧ m = y.toNat, ⟨_, rfl, y, rfl, y0, rfl⟩, ?_⟩
    rintro m σ H2 ⟨rfl, y, rfl, y1, rfl⟩
    walk_at "rs"
    refine ⟨_, rfl, y, rfl, _, rfl, ?_⟩
    refine ite2 (fun c' => ?_) (fun c' => ?_)
    · have y2 : y ≠ 1 := fun z => by rw [z, Cal.dA_one] at c'; omega
      refine ⟨fun σ' H' => H' = H2 ∧ ∃ y' : Int, σ' = [some (.int n), some (.int y'), none, none] ∧ y' = y - 1, fun σ' H' z => ?_, ?_⟩
      · obtain ⟨z1, y', z2, z3⟩ := z
        exact ⟨y'.toNat, by omega, z1, y', z2, by omega, rfl⟩
      · walk_at "rs"
    · exact ⟨rfl, y1, by omega⟩
  obtain ⟨rfl, y, rfl, y1, yn⟩ := hM
  -- while days_ahead(year + 1) <= number
  refine st_cut (fun σ H' => H' = H2 ∧ ∃ y : Int, σ = [some (.int n), some (.int y), none, none] ∧ 1 ≤ y ∧ Cal.dA y ≤ n ∧ n < Cal.dA (y + 1)) ?_ (fun σ H' hM => ?_)
  · refine ⟨fun m σ H' => H' = H2 ∧ ∃ y : Int, σ = [some (.int n), some (.int y), none, none] ∧ 1 ≤ y ∧ Cal.dA y ≤ n ∧ m = (n + 1 - y).toNat, ⟨_, rfl, y, rfl, y1, yn, rfl⟩, ?_⟩
    rintro m σ H' ⟨rfl, y, rfl, y1, yn, rfl⟩
    walk_at "rs"
    refine ⟨_, rfl, y + 1, rfl, _, rfl, ?_⟩
    have lo := Cal.dA_lo (y + 1) (by omega)
    refine ite2 (fun c' => ?_) (fun c' => ?_)
    · refine ⟨fun σ2 H3 => H3 = H' ∧ ∃ y' : Int, σ2 = [some (.int n), some (.int y'), none, none] ∧ y' = y + 1, fun σ2 H3 z => ?_, ?_⟩
      · obtain ⟨z1, y', z2, z3⟩ := z
        exact ⟨(n + 1 - y').toNat, by omega, z1, y', z2, by omega, by rw [z3]; exact c', rfl⟩
      · walk_at "rs"
    · exact ⟨rfl, y1, yn, by omega⟩
  obtain ⟨rfl, y, rfl, y1, yn, yh⟩ := hM
  refine st_gen fun N2 hN2 => ?_
  walk_at "rs"
  refine ⟨_, rfl, y, rfl, _, rfl, hN2 _ _ ?_⟩
  refine st_gen fun N3 hN3 => ?_
  walk_at "rs"
  refine hN3 _ _ ?_
  -- while rest >= month_length(year, month)
  have ys := Cal.dA_succ y
  have s12 := Cal.sm12 y
  refine st_cut (fun σ H3 => H3 = H' ∧ ∃ r m : Int, σ = [some (.int n), some (.int y), some (.int r), some (.int m)] ∧ 1 ≤ m ∧ m ≤ 12 ∧ 0 ≤ r ∧ Cal.sm y (m - 1).toNat + r = n - Cal.dA y ∧ r < Cal.ml y m) ?_ (fun σ H3 hM => ?_)
  · refine ⟨fun k σ H3 => H3 = H' ∧ ∃ r m : Int, σ = [some (.int n), some (.int y), some (.int r), some (.int m)] ∧ 1 ≤ m ∧ m ≤ 12 ∧ 0 ≤ r ∧ Cal.sm y (m - 1).toNat + r = n - Cal.dA y ∧ k = (12 - m).toNat, ⟨_, rfl, _, _, rfl, by decide, by decide, by omega, by show (0 : Int) + _ = _; omega, rfl⟩, ?_⟩
    rintro k σ H3 ⟨rfl, r, m, rfl, m1, m2, r0, rs, rfl⟩
    walk_at "rs"
    have ms := Cal.sm_succ y m1
    refine ⟨_, _, rfl, y, m, rfl, rfl, m1, m2, _, rfl, ?_⟩
    refine ite2 (fun c' => ?_) (fun c' => ?_)
    · have m12 : m ≠ 12 := fun z => by
        rw [z] at ms c' rs
        rw [show ((12 : Int) + 1 - 1).toNat = 12 from rfl, s12] at ms
        omega
      refine ⟨fun σ2 H4 => H4 = H3 ∧ ∃ r' m' : Int, σ2 = [some (.int n), some (.int y), some (.int r'), some (.int m')] ∧ m' = m + 1 ∧ r' = r - Cal.ml y m, fun σ2 H4 z => ?_, ?_⟩
      · obtain ⟨z1, r', m', z2, z3, z4⟩ := z
        refine ⟨(12 - m').toNat, by omega, z1, r', m', z2, by omega, by omega, by omega, ?_, rfl⟩
        rw [z3, ms, z4]
        omega
      · refine st_gen fun N5 hN5 => ?_
        walk_at "rs"
        refine ⟨_, _, rfl, y, m, rfl, rfl, m1, m2, _, rfl, hN5 _ _ ?_⟩
        walk_at "rs"
    · exact ⟨rfl, m1, m2, r0, rs, by omega⟩
  obtain ⟨rfl, r, m, rfl, m1, m2, r0, rs, rl⟩ := hM
  walk_at "rs"
  refine ⟨by decide, fun p hp => ?_⟩
  have ym : y < 1000000 := Cal.dA_lt y1 (by decide) (by rw [Cal.dA_last]; omega)
  refine q p y m (r + 1) _ hp upd_same (same_new hp) ⟨y1, by omega, m1, m2, by omega, by omega⟩ ?_
  unfold Cal.dn
  omega
theorem ok_weekday_of (T : Bn mg) (dd : DefIn K mg "weekday_of" "weekday_of" s_weekday_of ["number"]) : Has P w K mg base CX0 1 "weekday_of" ["number"] (sp1 bWd) := by
  refine has_of dd sc_weekday_of (fun vs H Q E h => by obtain ⟨x0, rfl, _⟩ := h; rfl) (fun f cdv A outer s H vs Q E hr h => ?_)
  obtain ⟨_, rfl, h⟩ := h
  refine ⟨_, pss_one (ps_ret (pe_op op_mod (pv 0) (pe_int))), ?_⟩
  obtain ⟨n, rfl, q⟩ := h
  walk_at "rs"
  exact ⟨by decide, q⟩
theorem ok_wrong_part (T : Bn mg) (dd : DefIn K mg "wrong_part" "wrong_part" s_wrong_part ["year", "month", "day", "hour", "minute"]) (h_is_between : Has P w K mg base CX0 2 "is_between" ["value", "low", "high"] (sp3 (bBetween K))) (h_month_length : Has P w K mg base CX0 2 "month_length" ["year", "month"] (sp2 bMl)) {C : Addr} (c_Moment : ConstIn mg "Moment" (.ref C)) (cv_MOST_YEAR : CvAt K C "MOST_YEAR" (.int 999999)) : Has P w K mg base CX0 3 "wrong_part" ["year", "month", "day", "hour", "minute"] (sp5 (bWrong K)) := by
  refine has_of dd sc_wrong_part (fun vs H Q E h => by obtain ⟨x0, x1, x2, x3, x4, rfl, _⟩ := h; rfl) (fun f cdv A outer s H vs Q E hr h => ?_)
  obtain ⟨_, _, _, _, _, rfl, h⟩ := h
  refine ⟨_, Evl.pss_cut (ps_if (pt_not (pt_val (pe_callH h_is_between hr pass0 (pa_cons (pv 0) (pa_cons (pe_int) (pa_cons (pe_cvalH (pe_globC c_Moment (by rfl)) cv_MOST_YEAR) pa_nil)))))) (pss_one (ps_ret (pe_str))) (pss_nil))
      (Evl.pss_cut (ps_if (pt_not (pt_val (pe_callH h_is_between hr pass0 (pa_cons (pv 1) (pa_cons (pe_int) (pa_cons (pe_int) pa_nil)))))) (pss_one (ps_ret (pe_str))) (pss_nil))
      (Evl.pss_cut (ps_if (pt_not (pt_val (pe_callH h_is_between hr pass0 (pa_cons (pv 2) (pa_cons (pe_int) (pa_cons (pe_callH h_month_length hr pass0 (pa_cons (pv 0) (pa_cons (pv 1) pa_nil))) pa_nil)))))) (pss_one (ps_ret (pe_str))) (pss_nil))
      (Evl.pss_cut (ps_if (pt_not (pt_val (pe_callH h_is_between hr pass0 (pa_cons (pv 3) (pa_cons (pe_int) (pa_cons (pe_int) pa_nil)))))) (pss_one (ps_ret (pe_str))) (pss_nil))
      (pss_one (ps_ret (pe_ifExp (pt_val (pe_callH h_is_between hr pass0 (pa_cons (pv 4) (pa_cons (pe_int) (pa_cons (pe_int) pa_nil))))) (pe_non) (pe_str))))))), ?_⟩
  obtain ⟨hy, hm, hd, hh, hmi, q⟩ := h
  rename_i y m d hu mi
  unfold wrongV at q
  refine st_gen fun N1 hN1 => ?_
  walk_at "rs"
  refine ⟨_, _, _, rfl, _, _, rfl, rfl, hy, _, rfl, ?_⟩
  refine ite2 (fun c => by rw [if_pos c] at q; exact q) (fun c => hN1 _ _ ?_)
  rw [if_neg c] at q
  refine st_gen fun N2 hN2 => ?_
  walk_at "rs"
  refine ⟨_, _, _, rfl, _, _, rfl, rfl, hm, _, rfl, ?_⟩
  refine ite2 (fun c2 => by rw [if_pos c2] at q; exact q) (fun c2 => hN2 _ _ ?_)
  rw [if_neg c2] at q
  refine st_gen fun N3 hN3 => ?_
  walk_at "rs"
  obtain ⟨ny, rfl, y1, y2⟩ := isB_of c
  obtain ⟨nm, rfl, m1, m2⟩ := isB_of c2
  refine ⟨_, _, rfl, ny, nm, rfl, rfl, m1, m2, _, _, _, rfl, _, _, rfl, rfl, hd, _, rfl, ?_⟩
  refine ite2 (fun c3 => by rw [if_pos (show isB d 1 (Cal.ml (iOf (.int ny)) (iOf (.int nm))) = false from c3)] at q; exact q) (fun c3 => hN3 _ _ ?_)
  rw [if_neg (show ¬ isB d 1 (Cal.ml (iOf (.int ny)) (iOf (.int nm))) = false from c3)] at q
  refine st_gen fun N4 hN4 => ?_
  walk_at "rs"
  refine ⟨_, _, _, rfl, _, _, rfl, rfl, hh, _, rfl, ?_⟩
  refine ite2 (fun c4 => by rw [if_pos c4] at q; exact q) (fun c4 => hN4 _ _ ?_)
  rw [if_neg c4] at q
  walk_at "rs"
  refine ⟨_, _, _, rfl, _, _, rfl, rfl, hmi, _, rfl, ?_⟩
  refine ite2 (fun c5 => by rw [if_pos c5] at q; exact q) (fun c5 => by rw [if_neg c5] at q; exact q)
end
end RB
namespace RB
open PySem PySem.Spec PyProof.Rows L2
local macro_rules | `(tactic| walk_at "lk") => `(tactic| repeat (first | exact look_hit | exact look_nil | refine look_miss (by decide +kernel) ?_))
local macro_rules | `(tactic| walk_at "rs") => `(tactic| try simp only [tAsg, gName, tVar, tC, tOp, rI, rI0, rU, tUn, tIfS, tTest, tB, tRet, tRetN, tDrop, tCal, tCons, tNil, tTup, tLst, tCB, tAnd, tOr, tNot, tAndV, tOrV, tNotV, tIf, tCmp, t2I, rEq, rNe, tNext, tChain, tSl, tPart, tNoPart, tPar, gSub, rSetL, rIxL, rIxT, rSlL, tSMeth, tMak, rOwnC, tFmtSp, tBM, rAppend, tDrop, gTup, gCons, gNil, iList, iTup, iRng1, iRng2, tWhile, tAug, ipI, tFld, sFld, rSum, rIsi,
  L2.start, cxK, List.map_cons, List.map_nil, List.length_cons, List.length_nil, Nat.zero_add, Nat.reduceAdd, Nat.reduceSub, List.replicate_succ, List.replicate_zero, List.cons_append, List.nil_append, List.append_nil,
  List.getElem?_cons_zero, List.getElem?_cons_succ, List.set_cons_zero, List.set_cons_succ, Option.some.injEq, V.int.injEq, V.ref.injEq, V.bl.injEq, V.str.injEq, List.cons.injEq, reduceCtorEq, and_true, true_and, and_assoc, exists_eq_left', exists_eq_left, exists_eq_right, exists_and_left, exists_and_right, false_and, and_false, or_false, false_or, exists_const, exists_false, if_false, if_true, eq_self, wipe, tYes, Bool.false_eq_true,  scal, decide_eq_true_eq, Bool.not_eq_true', decide_eq_false_iff_not])
section
variable {P : Program} {w : World} {K : PySem.W.Frag} {mg : Str → Option Value} {base : Heap}
structure InitP (P : Program) (w : World) (K : PySem.W.Frag) (mg : Str → Option Value) (base : Heap) (C : Addr) : Prop where
  ex : ∃ (g : Addr) (fd : FuncData) (ps : List Str), Mk K C g ∧ FnOk P w K mg base CX0 4 g fd ps (sp6 (bInit C)) ∧ Binds K fd ps [] ∧ ∃ ds, Binds K fd ps ds ∧ Vals [.int 0, .int 0] ds
theorem InitP.six {C : Addr} (h : InitP P w K mg base C) : HasM P w K mg base CX0 4 C [] (sp6 (bInit C)) := let ⟨g, fd, ps, M, F, b, _⟩ := h.ex; ⟨⟨g, fd, ps, [], M, F, b, .nil⟩⟩
theorem InitP.four {C : Addr} (h : InitP P w K mg base C) : HasM P w K mg base CX0 4 C [.int 0, .int 0] (sp6 (bInit C)) := let ⟨g, fd, ps, M, F, _, ds, b, v⟩ := h.ex; ⟨⟨g, fd, ps, ds, M, F, b, v⟩⟩
theorem ok_Moment_init (T : Bn mg) {C : Addr} (dd : InitAt K C "Moment.__init__" s_Moment_init [.int 0, .int 0]) (cl : Cls K C) (at_ : ∀ x ∈ (["year", "month", "day", "hour", "minute", "date", "weekday", "number"] : List Str), NoAttr K C x) (h_wrong_part : Has P w K mg base CX0 3 "wrong_part" ["year", "month", "day", "hour", "minute"] (sp5 (bWrong K))) (h_day_number : Has P w K mg base CX0 3 "day_number" ["year", "month", "day"] (sp3 bDn)) (h_weekday_of : Has P w K mg base CX0 1 "weekday_of" ["number"] (sp1 bWd)) (c_DAY_MINUTES : ConstIn mg "DAY_MINUTES" (.int 1440)) :
    InitP P w K mg base C := by
  obtain ⟨f, Td, o, its, n, oc, od, kV, doc, pm, an, cdv, ct, osl, a, i, l, c, kp, mk, kc, lT, oT, rT⟩ := dd
  have FD : FunD K "__init__" "Moment.__init__" (defArgs s_Moment_init) (defBody s_Moment_init) (defScope s_Moment_init) [.int 0, .int 0] [] f _ := ⟨⟨oc, od, .ref Td, kV, doc, pm, an, cdv, ct, osl, rfl, l, c, .inr ⟨by simp, Td, o, its, n, rfl, lT, oT, rT⟩, .inl rfl⟩, kp⟩
  obtain ⟨ds, hd, hb⟩ := FD.binds1 (ps := ["self", "year", "month", "day", "hour", "minute"]) 6 2 (by simp) rfl (fun Td kV doc pm an cdv ct us its h1 h2 => match us, its, h1, h2 with | [_, _, _, _, _, _], [_, _], _, _ => ⟨_, rfl, rfl⟩)
  cases hd
  obtain ⟨ds4, hd4, hb4⟩ := FD.binds1 (ps := ["self", "year", "month", "day", "hour", "minute"]) 4 0 (by simp) rfl (fun Td kV doc pm an cdv ct us its h1 h2 => match us, its, h1, h2 with | [_, _, _, _], [_, _], _, _ => ⟨_, rfl, rfl⟩)
  refine ⟨⟨f, _, _, ⟨mk, a, i, kc⟩, FD.ok sc_Moment_init (fun vs H Q E h => by obtain ⟨x0, x1, x2, x3, x4, x5, rfl, _⟩ := h; rfl) (fun cdv A outer s H vs Q E hr h => ?_), hb, ds4, hb4, hd4⟩⟩
  obtain ⟨_, _, _, _, _, _, rfl, h⟩ := h
  refine ⟨_, PSs.nox (Evl.pss_cut (ps_set (i := 6) sc_Moment_init.nd rfl (Or.inl rfl) (pe_callH h_wrong_part hr pass0 (pa_cons (pv 1) (pa_cons (pv 2) (pa_cons (pv 3) (pa_cons (pv 4) (pa_cons (pv 5) pa_nil)))))))
      (Evl.pss_cut (ps_if (pt_cmpR op_notN (pv 6) (pe_non) (nomark _)) (pss_one (ps_never)) (pss_nil))
      (Evl.pss_cut (ps_fld (pv 0) (pv 1) rfl)
      (Evl.pss_cut (ps_fld (pv 0) (pv 2) rfl)
      (Evl.pss_cut (ps_fld (pv 0) (pv 3) rfl)
      (Evl.pss_cut (ps_fld (pv 0) (pv 4) rfl)
      (Evl.pss_cut (ps_fld (pv 0) (pv 5) rfl)
      (Evl.pss_cut (ps_fld (pv 0) (pe_callH h_day_number hr pass0 (pa_cons (pv 1) (pa_cons (pv 2) (pa_cons (pv 3) pa_nil)))) rfl)
      (Evl.pss_cut (ps_fld (pv 0) (pe_callH h_weekday_of hr pass0 (pa_cons (pe_fld (pv 0) rfl) pa_nil)) rfl)
      (pss_one (ps_fld (pv 0) (pe_op op_add (pe_op op_add (pe_op op_mul (pe_fld (pv 0) rfl) (pe_globC c_DAY_MINUTES (by rfl))) (pe_op op_mul (pv 4) (pe_int))) (pv 5)) rfl))))))))))), ?_⟩
  obtain ⟨p, dx, o, rfl, rfl, rfl, rfl, rfl, rfl, ho, hp, q⟩ := h
  refine st_gen fun N0 hN0 => ?_
  walk_at "rs"
  refine ⟨_, _, _, _, _, rfl, whole_int, whole_int, whole_int, whole_int, whole_int, ?_⟩
  rw [wrong_ok ho]
  refine hN0 _ _ ?_
  refine st_gen fun N00 hN00 => ?_
  walk_at "rs"
  refine hN00 _ _ ?_
  have b0 : But p H H := But.refl
  refine st_gen fun N1 hN1 => ?_
  walk_at "rs"
  refine ⟨C, dx, _, hp, cl, at_ _ (by decide +kernel), by simp, hN1 _ _ ?_⟩
  rw [putF_new (by simp only [List.map_cons, List.map_nil, List.cons_append, List.nil_append]; decide +kernel)]
  have h1 : upd H p (.ins C dx ([] ++ [(("year" : Str), V.int o.y)])) p = some (.ins C dx [(("year" : Str), V.int o.y)]) := upd_same
  have b1 := b0.wr (o := .ins C dx ([] ++ [(("year" : Str), V.int o.y)]))
  generalize upd H p (.ins C dx ([] ++ [(("year" : Str), V.int o.y)])) = H1 at h1 b1 ⊢
  refine st_gen fun N2 hN2 => ?_
  walk_at "rs"
  refine ⟨C, dx, _, h1, cl, at_ _ (by decide +kernel), by simp, hN2 _ _ ?_⟩
  rw [putF_new (by simp only [List.map_cons, List.map_nil, List.cons_append, List.nil_append]; decide +kernel)]
  have h2 : upd H1 p (.ins C dx ([(("year" : Str), V.int o.y)] ++ [(("month" : Str), V.int o.m)])) p = some (.ins C dx [(("year" : Str), V.int o.y), (("month" : Str), V.int o.m)]) := upd_same
  have b2 := b1.wr (o := .ins C dx ([(("year" : Str), V.int o.y)] ++ [(("month" : Str), V.int o.m)]))
  generalize upd H1 p (.ins C dx ([(("year" : Str), V.int o.y)] ++ [(("month" : Str), V.int o.m)])) = H2 at h2 b2 ⊢
  refine st_gen fun N3 hN3 => ?_
  walk_at "rs"
  refine ⟨C, dx, _, h2, cl, at_ _ (by decide +kernel), by simp, hN3 _ _ ?_⟩
  rw [putF_new (by simp only [List.map_cons, List.map_nil, List.cons_append, List.nil_append]; decide +kernel)]
  have h3 : upd H2 p (.ins C dx ([(("year" : Str), V.int o.y), (("month" : Str), V.int o.m)] ++ [(("day" : Str), V.int o.d)])) p = some (.ins C dx [(("year" : Str), V.int o.y), (("month" : Str), V.int o.m), (("day" : Str), V.int o.d)]) := upd_same
  have b3 := b2.wr (o := .ins C dx ([(("year" : Str), V.int o.y), (("month" : Str), V.int o.m)] ++ [(("day" : Str), V.int o.d)]))
  generalize upd H2 p (.ins C dx ([(("year" : Str), V.int o.y), (("month" : Str), V.int o.m)] ++ [(("day" : Str), V.int o.d)])) = H3 at h3 b3 ⊢
  refine st_gen fun N4 hN4 => ?_
  walk_at "rs"
  refine ⟨C, dx, _, h3, cl, at_ _ (by decide +kernel), by simp, hN4 _ _ ?_⟩
  rw [putF_new (by simp only [List.map_cons, List.map_nil, List.cons_append, List.nil_append]; decide +kernel)]
  have h4 : upd H3 p (.ins C dx ([(("year" : Str), V.int o.y), (("month" : Str), V.int o.m), (("day" : Str), V.int o.d)] ++ [(("hour" : Str), V.int o.h)])) p = some (.ins C dx [(("year" : Str), V.int o.y), (("month" : Str), V.int o.m), (("day" : Str), V.int o.d), (("hour" : Str), V.int o.h)]) := upd_same
  have b4 := b3.wr (o := .ins C dx ([(("year" : Str), V.int o.y), (("month" : Str), V.int o.m), (("day" : Str), V.int o.d)] ++ [(("hour" : Str), V.int o.h)]))
  generalize upd H3 p (.ins C dx ([(("year" : Str), V.int o.y), (("month" : Str), V.int o.m), (("day" : Str), V.int o.d)] ++ [(("hour" : Str), V.int o.h)])) = H4 at h4 b4 ⊢
  refine st_gen fun N5 hN5 => ?_
  walk_at "rs"
  refine ⟨C, dx, _, h4, cl, at_ _ (by decide +kernel), by simp, hN5 _ _ ?_⟩
  rw [putF_new (by simp only [List.map_cons, List.map_nil, List.cons_append, List.nil_append]; decide +kernel)]
  have h5 : upd H4 p (.ins C dx ([(("year" : Str), V.int o.y), (("month" : Str), V.int o.m), (("day" : Str), V.int o.d), (("hour" : Str), V.int o.h)] ++ [(("minute" : Str), V.int o.mi)])) p = some (.ins C dx [(("year" : Str), V.int o.y), (("month" : Str), V.int o.m), (("day" : Str), V.int o.d), (("hour" : Str), V.int o.h), (("minute" : Str), V.int o.mi)]) := upd_same
  have b5 := b4.wr (o := .ins C dx ([(("year" : Str), V.int o.y), (("month" : Str), V.int o.m), (("day" : Str), V.int o.d), (("hour" : Str), V.int o.h)] ++ [(("minute" : Str), V.int o.mi)]))
  generalize upd H4 p (.ins C dx ([(("year" : Str), V.int o.y), (("month" : Str), V.int o.m), (("day" : Str), V.int o.d), (("hour" : Str), V.int o.h)] ++ [(("minute" : Str), V.int o.mi)])) = H5 at h5 b5 ⊢
  refine st_gen fun N6 hN6 => ?_
  walk_at "rs"
  refine ⟨_, _, _, rfl, o.y, o.m, o.d, rfl, rfl, rfl, ho.1.2.2.1, ho.1.2.2.2.1, fun H5' s5 => ?_⟩
  have h5' := s5 _ _ h5
  have b5' : But p H H5' := b5.trans (But.of s5)
  walk_at "rs"
  refine ⟨C, dx, _, h5', cl, at_ _ (by decide +kernel), by simp, hN6 _ _ ?_⟩
  rw [putF_new (by simp only [List.map_cons, List.map_nil, List.cons_append, List.nil_append]; decide +kernel)]
  have h6 : upd H5' p (.ins C dx ([(("year" : Str), V.int o.y), (("month" : Str), V.int o.m), (("day" : Str), V.int o.d), (("hour" : Str), V.int o.h), (("minute" : Str), V.int o.mi)] ++ [(("date" : Str), V.int (Cal.dn o.y o.m o.d))])) p = some (.ins C dx [(("year" : Str), V.int o.y), (("month" : Str), V.int o.m), (("day" : Str), V.int o.d), (("hour" : Str), V.int o.h), (("minute" : Str), V.int o.mi), (("date" : Str), V.int (Cal.dn o.y o.m o.d))]) := upd_same
  have b6 := b5'.wr (o := .ins C dx ([(("year" : Str), V.int o.y), (("month" : Str), V.int o.m), (("day" : Str), V.int o.d), (("hour" : Str), V.int o.h), (("minute" : Str), V.int o.mi)] ++ [(("date" : Str), V.int (Cal.dn o.y o.m o.d))]))
  generalize upd H5' p (.ins C dx ([(("year" : Str), V.int o.y), (("month" : Str), V.int o.m), (("day" : Str), V.int o.d), (("hour" : Str), V.int o.h), (("minute" : Str), V.int o.mi)] ++ [(("date" : Str), V.int (Cal.dn o.y o.m o.d))])) = H6 at h6 b6 ⊢
  refine st_gen fun N7 hN7 => ?_
  walk_at "rs"
  refine ⟨C, dx, _, h6, cl, at_ _ (by decide +kernel), _, (by walk_at "lk"), _, rfl, _, rfl, C, dx, _, h6, cl, at_ _ (by decide +kernel), by simp, hN7 _ _ ?_⟩
  rw [putF_new (by simp only [List.map_cons, List.map_nil, List.cons_append, List.nil_append]; decide +kernel)]
  have h7 : upd H6 p (.ins C dx ([(("year" : Str), V.int o.y), (("month" : Str), V.int o.m), (("day" : Str), V.int o.d), (("hour" : Str), V.int o.h), (("minute" : Str), V.int o.mi), (("date" : Str), V.int (Cal.dn o.y o.m o.d))] ++ [(("weekday" : Str), V.int (Cal.dn o.y o.m o.d % 7))])) p = some (.ins C dx [(("year" : Str), V.int o.y), (("month" : Str), V.int o.m), (("day" : Str), V.int o.d), (("hour" : Str), V.int o.h), (("minute" : Str), V.int o.mi), (("date" : Str), V.int (Cal.dn o.y o.m o.d)), (("weekday" : Str), V.int (Cal.dn o.y o.m o.d % 7))]) := upd_same
  have b7 := b6.wr (o := .ins C dx ([(("year" : Str), V.int o.y), (("month" : Str), V.int o.m), (("day" : Str), V.int o.d), (("hour" : Str), V.int o.h), (("minute" : Str), V.int o.mi), (("date" : Str), V.int (Cal.dn o.y o.m o.d))] ++ [(("weekday" : Str), V.int (Cal.dn o.y o.m o.d % 7))]))
  generalize upd H6 p (.ins C dx ([(("year" : Str), V.int o.y), (("month" : Str), V.int o.m), (("day" : Str), V.int o.d), (("hour" : Str), V.int o.h), (("minute" : Str), V.int o.mi), (("date" : Str), V.int (Cal.dn o.y o.m o.d))] ++ [(("weekday" : Str), V.int (Cal.dn o.y o.m o.d % 7))])) = H7 at h7 b7 ⊢
  walk_at "rs"
  have nlo := Cal.dn_hi2 ho.1
  have nhi := Cal.dn_lo ho.1
  have oh := ho.2
  have b64 : (2 : Int) ^ 64 = 18446744073709551616 := by decide
  refine ⟨C, dx, _, h7, cl, at_ _ (by decide +kernel), _, (by walk_at "lk"), _, rfl, .inr (by decide), .inr (by decide), C, dx, _, h7, cl, at_ _ (by decide +kernel), by simp, ?_⟩
  rw [putF_new (by simp only [List.map_cons, List.map_nil, List.cons_append, List.nil_append]; decide +kernel)]
  exact q _ upd_same b7.wr
theorem ok_moment_at (T : Bn mg) (dd : DefIn K mg "moment_at" "moment_at" s_moment_at ["number"]) {C : Addr} (c_Moment : ConstIn mg "Moment" (.ref C)) (h_is_between : Has P w K mg base CX0 2 "is_between" ["value", "low", "high"] (sp3 (bBetween K))) (h_days_ahead : Has P w K mg base CX0 1 "days_ahead" ["year"] (sp1 bDA)) (h_date_of : Has P w K mg base CX0 3 "date_of" ["number"] (sp1 bDate)) (h_Moment : HasM P w K mg base CX0 4 C [] (sp6 (bInit C)))  (cv_MOST_YEAR : CvAt K C "MOST_YEAR" (.int 999999)) (c_DAY_MINUTES : ConstIn mg "DAY_MINUTES" (.int 1440)) (gm : mg "Moment" = some (.ref C)) : Has P w K mg base CX0 6 "moment_at" ["number"] (sp1 (bAt C)) := by
  refine has_of dd sc_moment_at (fun vs H Q E h => by obtain ⟨x0, rfl, _⟩ := h; rfl) (fun f cdv A outer s H vs Q E hr h => ?_)
  obtain ⟨_, rfl, h⟩ := h
  refine ⟨_, Evl.pss_cut (ps_if (pt_not (pt_val (pe_callH h_is_between hr pass0 (pa_cons (pv 0) (pa_cons (pe_int) (pa_cons (pe_op op_sub (pe_op op_mul (pe_callH h_days_ahead hr pass0 (pa_cons (pe_op op_add (pe_cvalH (pe_globC c_Moment (by rfl)) cv_MOST_YEAR) (pe_int)) pa_nil)) (pe_globC c_DAY_MINUTES (by rfl))) (pe_int)) pa_nil)))))) (pss_one (ps_never)) (pss_nil))
      (Evl.pss_cut (ps_asg (pe_callH h_date_of hr pass0 (pa_cons (pe_op op_fdiv (pv 0) (pe_globC c_DAY_MINUTES (by rfl))) pa_nil)) (pg_tup rfl (pgs_cons (pg_name (i := 1) sc_moment_at.nd rfl (Or.inl rfl)) (pgs_cons (pg_name (i := 2) sc_moment_at.nd rfl (Or.inl rfl)) (pgs_cons (pg_name (i := 3) sc_moment_at.nd rfl (Or.inl rfl)) pgs_nil)))))
      (Evl.pss_cut (ps_set (i := 4) sc_moment_at.nd rfl (Or.inl rfl) (pe_op op_mod (pv 0) (pe_globC c_DAY_MINUTES (by rfl))))
      (pss_one (ps_ret (pe_makeH h_Moment gm hr pass0 (pa_cons (pv 1) (pa_cons (pv 2) (pa_cons (pv 3) (pa_cons (pe_op op_fdiv (pv 4) (pe_int)) (pa_cons (pe_op op_mod (pv 4) (pe_int)) pa_nil)))))))))), ?_⟩
  obtain ⟨n, rfl, n0, n1, q⟩ := h
  refine st_gen fun N0 hN0 => ?_
  walk_at "rs"
  have d6 : Cal.dA (999999 + 1) = 365242134 := by decide
  refine ⟨_, rfl, 999999 + 1, rfl, _, rfl, .inr (by decide), _, _, _, rfl, _, _, rfl, rfl, whole_int, _, rfl, ?_⟩
  rw [d6, isB_int n0 (by omega)]
  walk_at "rs"
  refine hN0 _ _ ?_
  refine st_gen fun N1 hN1 => ?_
  walk_at "rs"
  refine ⟨⟨by decide, by decide⟩, _, rfl, _, rfl, by omega, by omega, fun p y m d H1 hp h1 s1 v1 e1 => ?_⟩
  walk_at "rs"
  refine ⟨_, SqT.of h1, rfl, ?_⟩
  walk_at "rs"
  refine hN1 _ _ ?_
  refine st_gen fun N2 hN2 => ?_
  walk_at "rs"
  refine ⟨by decide, hN2 _ _ ?_⟩
  walk_at "rs"
  refine ⟨⟨by decide, by decide⟩, by decide, fun x dx hx hdx ne => ?_⟩
  have s2 : Same H1 (upd (upd H1 dx (.own x)) x (.ins C dx [])) := fun b o e => by
    rw [upd_ne (ne_of_none e hx), upd_ne (ne_of_none e hdx)]
    exact e
  have k60 := Int.emod_nonneg n (b := 1440) (by decide)
  have k61 := Int.emod_lt_of_pos n (b := 1440) (by decide)
  have ok : (Mo.mk y m d (n % 1440 / 60) (n % 1440 % 60)).Ok := ⟨v1, by show 0 ≤ n % 1440 / 60; omega, by show n % 1440 / 60 ≤ 23; omega, by show 0 ≤ n % 1440 % 60; omega, by show n % 1440 % 60 ≤ 59; omega⟩
  refine ⟨_, _, _, _, _, _, rfl, x, dx, ⟨y, m, d, n % 1440 / 60, n % 1440 % 60⟩, rfl, rfl, rfl, rfl, rfl, rfl, ok, upd_same, fun H2 h2 b2 => ⟨rfl, ?_⟩⟩
  refine q x _ H2 (s1.free hx) ⟨dx, h2⟩ ok ?_ fun b o e => b2 b o (s2 _ _ (s1 _ _ e)) (ne_of_none (s1 _ _ e) hx)
  show Cal.dn y m d * 1440 + n % 1440 / 60 * 60 + n % 1440 % 60 = n
  omega
end
end RB
namespace RB
open PySem PySem.Spec PyProof.Rows L2
local macro_rules | `(tactic| walk_at "lk") => `(tactic| repeat (first | exact look_hit | exact look_nil | refine look_miss (by decide +kernel) ?_))
local macro_rules | `(tactic| walk_at "rs") => `(tactic| try simp only [tAsg, gName, tVar, tC, tOp, rI, rI0, rU, tUn, tIfS, tTest, tB, tRet, tRetN, tDrop, tCal, tCons, tNil, tTup, tLst, tCB, tAnd, tOr, tNot, tAndV, tOrV, tNotV, tIf, tCmp, t2I, rEq, rNe, tNext, tChain, tSl, tPart, tNoPart, tPar, gSub, rSetL, rIxL, rIxT, rSlL, tSMeth, tMak, rOwnC, tFmtSp, tBM, rAppend, tDrop, gTup, gCons, gNil, iList, iTup, iRng1, iRng2, tWhile, tAug, ipI, tFld, sFld, rSum, rIsi,
  L2.start, cxK, List.map_cons, List.map_nil, List.length_cons, List.length_nil, Nat.zero_add, Nat.reduceAdd, Nat.reduceSub, List.replicate_succ, List.replicate_zero, List.cons_append, List.nil_append, List.append_nil,
  List.getElem?_cons_zero, List.getElem?_cons_succ, List.set_cons_zero, List.set_cons_succ, Option.some.injEq, V.int.injEq, V.ref.injEq, V.bl.injEq, V.str.injEq, List.cons.injEq, reduceCtorEq, and_true, true_and, and_assoc, exists_eq_left', exists_eq_left, exists_eq_right, exists_and_left, exists_and_right, false_and, and_false, or_false, false_or, exists_const, exists_false, if_false, if_true, eq_self, wipe, tYes, Bool.false_eq_true,  scal, decide_eq_true_eq, Bool.not_eq_true', decide_eq_false_iff_not])
section
variable {P : Program} {w : World} {K : PySem.W.Frag} {mg : Str → Option Value} {base : Heap}
theorem ok_Moment_lt (T : Bn mg) {C : Addr} (dd : MethAt K C "__lt__" "Moment.__lt__" s_Moment_lt) (M : MoCls K C) (c_Moment : ConstIn mg "Moment" (.ref C)) : OwnCmp P w K mg base CX0 1 C "__lt__" (sp2 (bCmp C (fun a b => decide (a < b)))) := by
  refine own_of dd bd_Moment_lt sc_Moment_lt (fun vs H Q E h => by obtain ⟨x0, x1, rfl, _⟩ := h; rfl) (fun f cdv A outer s H vs Q E hr h => ?_)
  obtain ⟨_, _, rfl, h⟩ := h
  refine ⟨_, Evl.pss_cut (ps_if (pt_not (pt_val (pe_callB call_isi (by rfl) T.b_isinstance (by decide +kernel) (pa_cons (pv 1) (pa_cons (pe_globC c_Moment (by rfl)) pa_nil))))) (pss_one (ps_never)) (pss_nil))
      (pss_one (ps_ret (pe_cmpR op_lt (pe_fld (pv 0) rfl) (pe_fld (pv 1) rfl) (nomark _)))), ?_⟩
  obtain ⟨p, q, o, o', rfl, rfl, ⟨dx, hp⟩, ⟨dy, hq⟩, k⟩ := h
  refine st_gen fun N0 hN0 => ?_
  walk_at "rs"
  refine ⟨_, _, .own C, M.ty ⟨dy, hq⟩, _, M.ki, ?_⟩
  walk_at "rs"
  refine hN0 _ _ ?_
  walk_at "rs"
  exact ⟨C, dx, _, hp, M.cl, M.at_ _ (by decide +kernel), _, mo_num, C, dy, _, hq, M.cl, M.at_ _ (by decide +kernel), _, mo_num, _, rfl, _, rfl, k⟩
theorem ok_Moment_le (T : Bn mg) {C : Addr} (dd : MethAt K C "__le__" "Moment.__le__" s_Moment_le) (M : MoCls K C) (c_Moment : ConstIn mg "Moment" (.ref C)) : OwnCmp P w K mg base CX0 1 C "__le__" (sp2 (bCmp C (fun a b => decide (a ≤ b)))) := by
  refine own_of dd bd_Moment_le sc_Moment_le (fun vs H Q E h => by obtain ⟨x0, x1, rfl, _⟩ := h; rfl) (fun f cdv A outer s H vs Q E hr h => ?_)
  obtain ⟨_, _, rfl, h⟩ := h
  refine ⟨_, Evl.pss_cut (ps_if (pt_not (pt_val (pe_callB call_isi (by rfl) T.b_isinstance (by decide +kernel) (pa_cons (pv 1) (pa_cons (pe_globC c_Moment (by rfl)) pa_nil))))) (pss_one (ps_never)) (pss_nil))
      (pss_one (ps_ret (pe_cmpR op_le (pe_fld (pv 0) rfl) (pe_fld (pv 1) rfl) (nomark _)))), ?_⟩
  obtain ⟨p, q, o, o', rfl, rfl, ⟨dx, hp⟩, ⟨dy, hq⟩, k⟩ := h
  refine st_gen fun N0 hN0 => ?_
  walk_at "rs"
  refine ⟨_, _, .own C, M.ty ⟨dy, hq⟩, _, M.ki, ?_⟩
  walk_at "rs"
  refine hN0 _ _ ?_
  walk_at "rs"
  exact ⟨C, dx, _, hp, M.cl, M.at_ _ (by decide +kernel), _, mo_num, C, dy, _, hq, M.cl, M.at_ _ (by decide +kernel), _, mo_num, _, rfl, _, rfl, k⟩
theorem ok_Moment_gt (T : Bn mg) {C : Addr} (dd : MethAt K C "__gt__" "Moment.__gt__" s_Moment_gt) (M : MoCls K C) (c_Moment : ConstIn mg "Moment" (.ref C)) : OwnCmp P w K mg base CX0 1 C "__gt__" (sp2 (bCmp C (fun a b => decide (b < a)))) := by
  refine own_of dd bd_Moment_gt sc_Moment_gt (fun vs H Q E h => by obtain ⟨x0, x1, rfl, _⟩ := h; rfl) (fun f cdv A outer s H vs Q E hr h => ?_)
  obtain ⟨_, _, rfl, h⟩ := h
  refine ⟨_, Evl.pss_cut (ps_if (pt_not (pt_val (pe_callB call_isi (by rfl) T.b_isinstance (by decide +kernel) (pa_cons (pv 1) (pa_cons (pe_globC c_Moment (by rfl)) pa_nil))))) (pss_one (ps_never)) (pss_nil))
      (pss_one (ps_ret (pe_cmpR op_gt (pe_fld (pv 0) rfl) (pe_fld (pv 1) rfl) (nomark _)))), ?_⟩
  obtain ⟨p, q, o, o', rfl, rfl, ⟨dx, hp⟩, ⟨dy, hq⟩, k⟩ := h
  refine st_gen fun N0 hN0 => ?_
  walk_at "rs"
  refine ⟨_, _, .own C, M.ty ⟨dy, hq⟩, _, M.ki, ?_⟩
  walk_at "rs"
  refine hN0 _ _ ?_
  walk_at "rs"
  exact ⟨C, dx, _, hp, M.cl, M.at_ _ (by decide +kernel), _, mo_num, C, dy, _, hq, M.cl, M.at_ _ (by decide +kernel), _, mo_num, _, rfl, _, rfl, k⟩
theorem ok_Moment_ge (T : Bn mg) {C : Addr} (dd : MethAt K C "__ge__" "Moment.__ge__" s_Moment_ge) (M : MoCls K C) (c_Moment : ConstIn mg "Moment" (.ref C)) : OwnCmp P w K mg base CX0 1 C "__ge__" (sp2 (bCmp C (fun a b => decide (b ≤ a)))) := by
  refine own_of dd bd_Moment_ge sc_Moment_ge (fun vs H Q E h => by obtain ⟨x0, x1, rfl, _⟩ := h; rfl) (fun f cdv A outer s H vs Q E hr h => ?_)
  obtain ⟨_, _, rfl, h⟩ := h
  refine ⟨_, Evl.pss_cut (ps_if (pt_not (pt_val (pe_callB call_isi (by rfl) T.b_isinstance (by decide +kernel) (pa_cons (pv 1) (pa_cons (pe_globC c_Moment (by rfl)) pa_nil))))) (pss_one (ps_never)) (pss_nil))
      (pss_one (ps_ret (pe_cmpR op_ge (pe_fld (pv 0) rfl) (pe_fld (pv 1) rfl) (nomark _)))), ?_⟩
  obtain ⟨p, q, o, o', rfl, rfl, ⟨dx, hp⟩, ⟨dy, hq⟩, k⟩ := h
  refine st_gen fun N0 hN0 => ?_
  walk_at "rs"
  refine ⟨_, _, .own C, M.ty ⟨dy, hq⟩, _, M.ki, ?_⟩
  walk_at "rs"
  refine hN0 _ _ ?_
  walk_at "rs"
  exact ⟨C, dx, _, hp, M.cl, M.at_ _ (by decide +kernel), _, mo_num, C, dy, _, hq, M.cl, M.at_ _ (by decide +kernel), _, mo_num, _, rfl, _, rfl, k⟩
theorem ok_Moment_eq (T : Bn mg) {C : Addr} (dd : MethAt K C "__eq__" "Moment.__eq__" s_Moment_eq) (M : MoCls K C) (c_Moment : ConstIn mg "Moment" (.ref C)) : OwnCmp P w K mg base CX0 1 C "__eq__" (sp2 (bEq K C)) := by
  refine own_of dd bd_Moment_eq sc_Moment_eq (fun vs H Q E h => by obtain ⟨x0, x1, rfl, _⟩ := h; rfl) (fun f cdv A outer s H vs Q E hr h => ?_)
  obtain ⟨_, _, rfl, h⟩ := h
  refine ⟨_, pss_one (ps_ret (pe_and (pe_callB call_isi (by rfl) T.b_isinstance (by decide +kernel) (pa_cons (pv 1) (pa_cons (pe_globC c_Moment (by rfl)) pa_nil))) (pe_one (pe_cmpR op_eq (pe_fld (pv 0) rfl) (pe_fld (pv 1) rfl) (nomark _))))), ?_⟩
  obtain ⟨p, o, rfl, ⟨dx, hp⟩, k⟩ := h
  walk_at "rs"
  rcases k with ⟨t, ty, kf, k⟩ | ⟨q, o', rfl, ⟨dy, hq⟩, k⟩
  · exact ⟨t, _, .own C, ty, false, kf, iteF k⟩
  · refine ⟨_, _, .own C, M.ty ⟨dy, hq⟩, true, M.ki, iteT ?_⟩
    walk_at "rs"
    refine ⟨C, dx, _, hp, M.cl, M.at_ _ (by decide +kernel), _, mo_num, C, dy, _, hq, M.cl, M.at_ _ (by decide +kernel), _, mo_num, ?_⟩
    walk_at "rs"
    exact k
theorem ok_Moment_str (T : Bn mg) {C : Addr} (dd : MethAt K C "__str__" "Moment.__str__" s_Moment_str) (M : MoCls K C) : OwnCmp P w K mg base CX0 1 C "__str__" (sp1 (bStr C)) := by
  refine own_of dd bd_Moment_str sc_Moment_str (fun vs H Q E h => by obtain ⟨x0, rfl, _⟩ := h; rfl) (fun f cdv A outer s H vs Q E hr h => ?_)
  obtain ⟨_, rfl, h⟩ := h
  refine ⟨_, pss_one (ps_ret (pe_joined (.cons (pe_fmtSp (pe_fld (pv 0) rfl) (pe_joined1 pe_str) (by decide +kernel) (by decide +kernel)) (.cons (pe_str) (.cons (pe_fmtSp (pe_fld (pv 0) rfl) (pe_joined1 pe_str) (by decide +kernel) (by decide +kernel)) (.cons (pe_str) (.cons (pe_fmtSp (pe_fld (pv 0) rfl) (pe_joined1 pe_str) (by decide +kernel) (by decide +kernel)) (.cons (pe_str) (.cons (pe_fmtSp (pe_fld (pv 0) rfl) (pe_joined1 pe_str) (by decide +kernel) (by decide +kernel)) (.cons (pe_str) (.cons (pe_fmtSp (pe_fld (pv 0) rfl) (pe_joined1 pe_str) (by decide +kernel) (by decide +kernel)) (.nil)))))))))))), ?_⟩
  obtain ⟨p, o, rfl, ⟨dx, hp⟩, ⟨⟨y1, y2, m1, m2, d1, d2⟩, h1, h2, i1, i2⟩, q⟩ := h
  have mb := Cal.ml_bd o.y m1 m2
  have lg : ∀ {n : Int}, 0 ≤ n → n ≤ 999999 → n.natAbs.log2 < 1920 := fun {n} a b => by
    by_cases z : n.natAbs = 0
    · rw [z]; decide
    · exact Nat.lt_of_lt_of_le ((Nat.log2_lt z).mpr (show n.natAbs < 2 ^ 20 by omega)) (by decide)
  have e4 : ∀ {n : Int}, 0 ≤ n → intSpecTextOf "04d" n = pad 4 n := fun a => pad_of (by decide +kernel) (by decide +kernel) (by decide +kernel) a
  have e2 : ∀ {n : Int}, 0 ≤ n → intSpecTextOf "02d" n = pad 2 n := fun a => pad_of (by decide +kernel) (by decide +kernel) (by decide +kernel) a
  unfold moText at q
  simp only [tJs]
  walk_at "rs"
  have at_ := fun x hx => M.at_ x hx
  have py := pad_short (W := 4) (a := o.y) (by omega) (by omega) (by omega)
  have pm := pad_short (W := 2) (a := o.m) (by omega) (by omega) (by omega)
  have pd := pad_short (W := 2) (a := o.d) (by omega) (by omega) (by omega)
  have ph := pad_short (W := 2) (a := o.h) (by omega) (by omega) (by omega)
  have pi := pad_short (W := 2) (a := o.mi) (by omega) (by omega) (by omega)
  have c0 : Str.empty.length = 0 := by decide
  have c1 : (Str.ofString "-").length = 1 := by decide
  have c2 : (Str.ofString " ").length = 1 := by decide
  have c3 : (Str.ofString ":").length = 1 := by decide
  have sz : ∀ {n : Nat}, n ≤ 1000 → n ≤ sizeLine := fun h => Nat.le_trans h (by decide)
  refine ⟨C, dx, _, hp, M.cl, at_ _ (by decide +kernel), _, (by unfold moF; walk_at "lk"), _, rfl, lg (by omega) (by omega), ?_⟩
  rw [e4 (by omega)]
  refine ⟨sz (by simp only [str_len_append]; omega), sz (by simp only [str_len_append]; omega), C, dx, _, hp, M.cl, at_ _ (by decide +kernel), _, (by unfold moF; walk_at "lk"), _, rfl, lg (by omega) (by omega), ?_⟩
  rw [e2 (by omega)]
  refine ⟨sz (by simp only [str_len_append]; omega), sz (by simp only [str_len_append]; omega), C, dx, _, hp, M.cl, at_ _ (by decide +kernel), _, (by unfold moF; walk_at "lk"), _, rfl, lg (by omega) (by omega), ?_⟩
  rw [e2 (by omega)]
  refine ⟨sz (by simp only [str_len_append]; omega), sz (by simp only [str_len_append]; omega), C, dx, _, hp, M.cl, at_ _ (by decide +kernel), _, (by unfold moF; walk_at "lk"), _, rfl, lg (by omega) (by omega), ?_⟩
  rw [e2 (by omega)]
  refine ⟨sz (by simp only [str_len_append]; omega), sz (by simp only [str_len_append]; omega), C, dx, _, hp, M.cl, at_ _ (by decide +kernel), _, (by unfold moF; walk_at "lk"), _, rfl, lg (by omega) (by omega), ?_⟩
  rw [e2 (by omega)]
  exact ⟨sz (by simp only [str_len_append]; omega), q⟩
end
end RB
namespace RB
open PySem PySem.Spec PyProof.Rows L2
local macro_rules | `(tactic| walk_at "lk") => `(tactic| repeat (first | exact look_hit | exact look_nil | refine look_miss (by decide +kernel) ?_))
local macro_rules | `(tactic| walk_at "rs") => `(tactic| try simp only [tAsg, gName, tVar, tC, tOp, rI, rI0, rU, tUn, tIfS, tTest, tB, tRet, tRetN, tDrop, tCal, tCons, tNil, tTup, tLst, tCB, tAnd, tOr, tNot, tAndV, tOrV, tNotV, tIf, tCmp, t2I, rEq, rNe, tNext, tChain, tSl, tPart, tNoPart, tPar, gSub, rSetL, rIxL, rIxT, rSlL, tSMeth, tMak, rOwnC, tFmtSp, tBM, rAppend, tDrop, gTup, gCons, gNil, iList, iTup, iRng1, iRng2, tWhile, tAug, ipI, tFld, sFld, rSum, rIsi, tM1, tM0, rNewStrs, ClX.tCMeth, tMakL, rOwnI, rOwnS, rIxS,
  L2.start, cxK, List.map_cons, List.map_nil, List.length_cons, List.length_nil, Nat.zero_add, Nat.reduceAdd, Nat.reduceSub, List.replicate_succ, List.replicate_zero, List.cons_append, List.nil_append, List.append_nil,
  List.getElem?_cons_zero, List.getElem?_cons_succ, List.set_cons_zero, List.set_cons_succ, Option.some.injEq, V.int.injEq, V.ref.injEq, V.bl.injEq, V.str.injEq, List.cons.injEq, reduceCtorEq, and_true, true_and, and_assoc, exists_eq_left', exists_eq_left, exists_eq_right, exists_and_left, exists_and_right, false_and, and_false, or_false, false_or, exists_const, exists_false, if_false, if_true, eq_self, wipe, tYes, Bool.false_eq_true,  scal, decide_eq_true_eq, Bool.not_eq_true', decide_eq_false_iff_not])
section
variable {P : Program} {w : World} {K : PySem.W.Frag} {mg : Str → Option Value} {base : Heap}
theorem ok_number_in (T : Bn mg) (dd : DefIn K mg "number_in" "number_in" s_number_in ["text", "least", "most"]) (c_DIGITS : ConstIn mg "DIGITS" (.str "0123456789")) : Has P w K mg base CX0 1 "number_in" ["text", "least", "most"] (sp3 bNumIn) := by
  refine has_of dd sc_number_in (fun vs H Q E h => by obtain ⟨x0, x1, x2, rfl, _⟩ := h; rfl) (fun f cdv A outer s H vs Q E hr h => ?_)
  obtain ⟨_, _, _, rfl, h⟩ := h
  refine ⟨_, Evl.pss_cut (ps_if (PW.pt (pw_or (pt_not (pt_chain op_le op_le (pv 1) (pe_callB call_len_str (by rfl) T.b_len PySem.boot_len (pa_cons (pv 0) pa_nil)) (pv 2))) (pw_or1 (pt_not (pt_val (pe_callB (cr_all rfl) (by rfl) T.b_all (by decide +kernel) (pa_cons (pe_lc (own := [("sign", 3)]) (g := gName 3) (by rfl) sc_number_in.nd (pi_str (pv 0)) (blkOk_by (own := [("sign", 3)]) (N := ["text", "least", "most", "sign"]) (sc := defScope s_number_in) (by decide +kernel)) (fun _ _ _ _ _ => pg_name (i := 3) sc_number_in.nd rfl (Or.inl rfl)) (fun _ _ _ _ _ => pts_nil) (fun _ _ _ _ _ => (pe_cmpR op_in_sign (pv 3) (pe_globC c_DIGITS (by rfl)) (by rfl)))) pa_nil))))))) (pss_one (ps_ret (pe_non))) (pss_nil))
      (pss_one (ps_ret (pe_callTy call_int_str (by rfl) T.b_int (by decide +kernel) (pa_cons (pv 0) pa_nil)))), ?_⟩
  obtain ⟨t, n, lo, hi, rfl, rfl, rfl, hw, l1, l2, l3, q⟩ := h
  refine st_gen fun N0 hN0 => ?_
  walk_at "rs"
  refine ⟨Nat.le_trans l3 (by decide), ?_⟩
  rw [if_pos l1, if_neg (fun z => z l2)]
  refine ⟨_, rfl, t, rfl, fun D hD => lc_str (fun i H1 => H1 D = some (.lst ((List.replicate i true).map V.bl)) ∧ Same H H1) ⟨upd_same, same_new hD⟩ ?_ ?_⟩
  · rintro i c H1 hc ⟨h1, s1⟩
    have cm : c ∈ t.cps.toList := by
      have z := List.mem_of_getElem? (l := t.cps.toList) (i := i) (a := c) (by rw [Array.getElem?_toList]; exact hc)
      exact z
    have hd := hw.ad c cm
    have hi := (Array.getElem?_eq_some_iff.mp hc).1
    have e : decide (c ∈ (Str.ofString "0123456789").cps.toList) = true := by
      have e0 : (Str.ofString "0123456789").cps.toList = [48, 49, 50, 51, 52, 53, 54, 55, 56, 57] := by decide +kernel
      rw [e0]
      refine decide_eq_true ?_
      simp only [List.mem_cons, List.not_mem_nil, or_false]
      omega
    walk_at "rs"
    refine ⟨c, rfl, _, h1, ?_, ?_, same_own s1 hD⟩
    · rw [List.length_map, List.length_replicate]
      have hsz : t.cps.size = t.length := rfl
      exact Nat.lt_of_lt_of_le (show i < 1000 by omega) (by decide)
    · rw [e, upd_same, List.map_replicate, ← List.replicate_succ', List.replicate_succ]
  · rintro H1 ⟨h1, s1⟩
    refine ⟨D, _, rfl, SqL.of h1, _, rfl, ?_⟩
    rw [if_neg (by simp)]
    refine hN0 _ _ ?_
    walk_at "rs"
    exact ⟨n, hw.int l3, l3, q _ s1⟩
theorem ok_date_in (T : Bn mg) (dd : DefIn K mg "date_in" "date_in" s_date_in ["word"]) (h_number_in : Has P w K mg base CX0 1 "number_in" ["text", "least", "most"] (sp3 bNumIn)) (h_wrong_part : Has P w K mg base CX0 3 "wrong_part" ["year", "month", "day", "hour", "minute"] (sp5 (bWrong K))) : Has P w K mg base CX0 4 "date_in" ["word"] (sp1 bDateIn) := by
  refine has_of dd sc_date_in (fun vs H Q E h => by obtain ⟨x0, rfl, _⟩ := h; rfl) (fun f cdv A outer s H vs Q E hr h => ?_)
  obtain ⟨_, rfl, h⟩ := h
  refine ⟨_, Evl.pss_cut (ps_set (i := 1) sc_date_in.nd rfl (Or.inl rfl) (pe_split (pv 0) pe_str))
      (Evl.pss_cut (ps_if (PW.pt (pw_or (pt_cmpR op_ne (pe_callB call_len_seq (by rfl) T.b_len PySem.boot_len (pa_cons (pv 1) pa_nil)) (pe_int) (nomark _)) (pw_or1 (PW.pt (pw_and (pt_cmpR op_gt (pe_callB call_len_str (by rfl) T.b_len PySem.boot_len (pa_cons (pe_ix ix_list (pv 1) (pe_int) (fun _ _ => rfl)) pa_nil)) (pe_int) (nomark _)) (pw_and1 (pt_cmpR op_eq (pe_ix ix_str (pe_ix ix_list (pv 1) (pe_int) (fun _ _ => rfl)) (pe_int) (fun _ _ => rfl)) (pe_str) (nomark _)))))))) (pss_one (ps_ret (pe_non))) (pss_nil))
      (Evl.pss_cut (ps_set (i := 2) sc_date_in.nd rfl (Or.inl rfl) (pe_lst (pa_cons (pe_callH h_number_in hr pass0 (pa_cons (pe_ix ix_list (pv 1) (pe_int) (fun _ _ => rfl)) (pa_cons (pe_int) (pa_cons (pe_int) pa_nil)))) (pa_cons (pe_callH h_number_in hr pass0 (pa_cons (pe_ix ix_list (pv 1) (pe_int) (fun _ _ => rfl)) (pa_cons (pe_int) (pa_cons (pe_int) pa_nil)))) (pa_cons (pe_callH h_number_in hr pass0 (pa_cons (pe_ix ix_list (pv 1) (pe_int) (fun _ _ => rfl)) (pa_cons (pe_int) (pa_cons (pe_int) pa_nil)))) pa_nil)))))
      (pss_one (ps_ret (pe_ifExp (pt_cmpR op_isN (pe_callH h_wrong_part hr pass0 (pa_cons (pe_ix ix_list (pv 2) (pe_int) (fun _ _ => rfl)) (pa_cons (pe_ix ix_list (pv 2) (pe_int) (fun _ _ => rfl)) (pa_cons (pe_ix ix_list (pv 2) (pe_int) (fun _ _ => rfl)) (pa_cons (pe_int) (pa_cons (pe_int) pa_nil)))))) (pe_non) (nomark _)) (pv 2) (pe_non)))))), ?_⟩
  obtain ⟨o, rfl, ho, q⟩ := h
  have bd := ho.bds
  refine st_gen fun N0 hN0 => ?_
  walk_at "rs"
  refine ⟨⟨_, rfl⟩, by decide +kernel, Nat.le_trans (Nat.add_le_add_right (date_len ho) 2) (by decide), fun p hp => hN0 _ _ ?_⟩
  rw [date_split ho]
  have p4 := pad_four (n := o.y) (by omega) (by omega)
  have p2 := pad_two (n := o.m) (by omega) (by omega)
  have p3 := pad_two (n := o.d) (by omega) (by omega)
  have s1 := same_new (o := .lst ([pad 4 o.y, pad 2 o.m, pad 2 o.d].map V.str)) hp
  have h1 : upd H p (.lst ([pad 4 o.y, pad 2 o.m, pad 2 o.d].map V.str)) p = some (.lst [.str (pad 4 o.y), .str (pad 2 o.m), .str (pad 2 o.d)]) := upd_same
  generalize upd H p (.lst ([pad 4 o.y, pad 2 o.m, pad 2 o.d].map V.str)) = H1 at s1 h1 ⊢
  refine st_gen fun N1 hN1 => ?_
  walk_at "rs"
  have sz : ∀ {n : Nat}, n ≤ 1000 → n ≤ sizeLine := fun h => Nat.le_trans h (by decide)
  refine ⟨_, .inl (SqL.of h1), ?_⟩
  rw [if_neg (fun z => z rfl)]
  refine ⟨_, SqL.of h1, _, rfl, _, rfl, sz (by omega), ?_⟩
  have nxt : N1 [some (.str (dateText o)), some (.ref p), none] H1 := by
    refine hN1 _ _ ?_
    refine st_gen fun N2 hN2 => ?_
    walk_at "rs"
    refine ⟨_, SqL.of h1, _, rfl, _, _, _, rfl, pad 4 o.y, o.y, 4, 6, rfl, rfl, rfl, wr_pad (by omega), by omega, by omega, by omega, fun H2 s2 => ?_⟩
    have h2 := s2 _ _ h1
    refine ⟨_, SqL.of h2, _, rfl, _, _, _, rfl, pad 2 o.m, o.m, 2, 2, rfl, rfl, rfl, wr_pad (by omega), by omega, by omega, by omega, fun H3 s3 => ?_⟩
    have h3 := s3 _ _ h2
    refine ⟨_, SqL.of h3, _, rfl, _, _, _, rfl, pad 2 o.d, o.d, 2, 2, rfl, rfl, rfl, wr_pad (by omega), by omega, by omega, by omega, fun H4 s4 => ?_⟩
    refine ⟨by decide, fun l hl => hN2 _ _ ?_⟩
    have s14 := ((s1.trans s2).trans s3).trans s4
    have s5 := same_new (o := .lst [.int o.y, .int o.m, .int o.d]) hl
    have h5 : upd H4 l (.lst [.int o.y, .int o.m, .int o.d]) l = some (.lst [.int o.y, .int o.m, .int o.d]) := upd_same
    generalize upd H4 l (.lst [.int o.y, .int o.m, .int o.d]) = H5 at s5 h5 ⊢
    walk_at "rs"
    refine ⟨_, SqL.of h5, _, rfl, _, SqL.of h5, _, rfl, _, SqL.of h5, _, rfl, _, _, _, _, _, rfl, whole_int, whole_int, whole_int, whole_int, whole_int, ?_⟩
    rw [wrong_ok (o := ⟨o.y, o.m, o.d, 0, 0⟩) (okDate ho.1)]
    show (if V.non = V.non then Q (.ref l) H5 else Q .non H5)
    rw [if_pos rfl]
    exact q l H5 (same_back s14 hl) h5 (s14.trans s5)
  by_cases c : 4 < ((pad 4 o.y).length : Int)
  · rw [if_pos c]
    obtain ⟨c0, e0, n0⟩ := pad_first bd.1 (by omega)
    refine ⟨_, SqL.of h1, _, rfl, _, rfl, sz (by omega), c0, (atI_nat e0 : atI _ ((0 : Nat) : Int) = _), ?_⟩
    rw [if_neg (fun z => n0 ?_)]
    · exact nxt
    · have e := congrArg (fun x : Str => x.cps.toList) z
      have e1 : (Str.ofString "0").cps.toList = [48] := by decide +kernel
      have e2 : [c0] = (Str.ofString "0").cps.toList := e
      rw [e1] at e2
      exact (List.cons.inj e2).1
  · rw [if_neg c]
    exact nxt
theorem ok_time_in (T : Bn mg) (dd : DefIn K mg "time_in" "time_in" s_time_in ["word"]) (h_number_in : Has P w K mg base CX0 1 "number_in" ["text", "least", "most"] (sp3 bNumIn)) (h_wrong_part : Has P w K mg base CX0 3 "wrong_part" ["year", "month", "day", "hour", "minute"] (sp5 (bWrong K))) : Has P w K mg base CX0 4 "time_in" ["word"] (sp1 bTimeIn) := by
  refine has_of dd sc_time_in (fun vs H Q E h => by obtain ⟨x0, rfl, _⟩ := h; rfl) (fun f cdv A outer s H vs Q E hr h => ?_)
  obtain ⟨_, rfl, h⟩ := h
  refine ⟨_, Evl.pss_cut (ps_set (i := 1) sc_time_in.nd rfl (Or.inl rfl) (pe_split (pv 0) pe_str))
      (Evl.pss_cut (ps_if (pt_cmpR op_ne (pe_callB call_len_seq (by rfl) T.b_len PySem.boot_len (pa_cons (pv 1) pa_nil)) (pe_int) (nomark _)) (pss_one (ps_ret (pe_non))) (pss_nil))
      (Evl.pss_cut (ps_set (i := 2) sc_time_in.nd rfl (Or.inl rfl) (pe_lst (pa_cons (pe_callH h_number_in hr pass0 (pa_cons (pe_ix ix_list (pv 1) (pe_int) (fun _ _ => rfl)) (pa_cons (pe_int) (pa_cons (pe_int) pa_nil)))) (pa_cons (pe_callH h_number_in hr pass0 (pa_cons (pe_ix ix_list (pv 1) (pe_int) (fun _ _ => rfl)) (pa_cons (pe_int) (pa_cons (pe_int) pa_nil)))) pa_nil))))
      (pss_one (ps_ret (pe_ifExp (pt_cmpR op_isN (pe_callH h_wrong_part hr pass0 (pa_cons (pe_int) (pa_cons (pe_int) (pa_cons (pe_int) (pa_cons (pe_ix ix_list (pv 2) (pe_int) (fun _ _ => rfl)) (pa_cons (pe_ix ix_list (pv 2) (pe_int) (fun _ _ => rfl)) pa_nil)))))) (pe_non) (nomark _)) (pv 2) (pe_non)))))), ?_⟩
  obtain ⟨o, rfl, ho, q⟩ := h
  have bd := ho.bds
  refine st_gen fun N0 hN0 => ?_
  walk_at "rs"
  refine ⟨⟨_, rfl⟩, by decide +kernel, Nat.le_trans (Nat.add_le_add_right (time_len ho) 2) (by decide), fun p hp => hN0 _ _ ?_⟩
  rw [time_split ho]
  have p2 := pad_two (n := o.h) (by omega) (by omega)
  have p3 := pad_two (n := o.mi) (by omega) (by omega)
  have s1 := same_new (o := .lst ([pad 2 o.h, pad 2 o.mi].map V.str)) hp
  have h1 : upd H p (.lst ([pad 2 o.h, pad 2 o.mi].map V.str)) p = some (.lst [.str (pad 2 o.h), .str (pad 2 o.mi)]) := upd_same
  generalize upd H p (.lst ([pad 2 o.h, pad 2 o.mi].map V.str)) = H1 at s1 h1 ⊢
  refine st_gen fun N1 hN1 => ?_
  walk_at "rs"
  refine ⟨_, .inl (SqL.of h1), ?_⟩
  rw [if_neg (fun z => z rfl)]
  refine hN1 _ _ ?_
  refine st_gen fun N2 hN2 => ?_
  walk_at "rs"
  refine ⟨_, SqL.of h1, _, rfl, _, _, _, rfl, pad 2 o.h, o.h, 2, 2, rfl, rfl, rfl, wr_pad (by omega), by omega, by omega, by omega, fun H2 s2 => ?_⟩
  have h2 := s2 _ _ h1
  refine ⟨_, SqL.of h2, _, rfl, _, _, _, rfl, pad 2 o.mi, o.mi, 2, 2, rfl, rfl, rfl, wr_pad (by omega), by omega, by omega, by omega, fun H3 s3 => ?_⟩
  refine ⟨by decide, fun l hl => hN2 _ _ ?_⟩
  have s14 := (s1.trans s2).trans s3
  have s5 := same_new (o := .lst [.int o.h, .int o.mi]) hl
  have h5 : upd H3 l (.lst [.int o.h, .int o.mi]) l = some (.lst [.int o.h, .int o.mi]) := upd_same
  generalize upd H3 l (.lst [.int o.h, .int o.mi]) = H5 at s5 h5 ⊢
  walk_at "rs"
  refine ⟨_, SqL.of h5, _, rfl, _, SqL.of h5, _, rfl, _, _, _, _, _, rfl, whole_int, whole_int, whole_int, whole_int, whole_int, ?_⟩
  rw [wrong_ok (o := ⟨1, 1, 1, o.h, o.mi⟩) (okTime bd.2.2.2.2.2.2.1 bd.2.2.2.2.2.2.2.1 bd.2.2.2.2.2.2.2.2.1 bd.2.2.2.2.2.2.2.2.2)]
  show (if V.non = V.non then Q (.ref l) H5 else Q .non H5)
  rw [if_pos rfl]
  exact q l H5 (same_back s14 hl) h5 (s14.trans s5)
theorem ok_Moment_earliest (T : Bn mg) {C : Addr} (dd : StatAt K C "earliest" "Moment.earliest" s_Moment_earliest) (h_Moment : HasM P w K mg base CX0 4 C [.int 0, .int 0] (sp6 (bInit C))) (gm : mg "Moment" = some (.ref C)) : HasS P w K mg base CX0 6 C "earliest" (sp0 (bEarly C)) := by
  refine stat_of dd bd_Moment_earliest sc_Moment_earliest (fun vs H Q E h => by obtain ⟨rfl, _⟩ := h; rfl) (fun f cdv A outer s H vs Q E hr h => ?_)
  obtain ⟨rfl, h⟩ := h
  refine ⟨_, pss_one (ps_ret (pe_makeH h_Moment gm hr pass0 (pa_cons (pe_int) (pa_cons (pe_int) (pa_cons (pe_int) pa_nil))))), ?_⟩
  walk_at "rs"
  intro x dx hx hdx ne
  refine ⟨_, _, _, _, _, _, rfl, x, dx, ⟨1, 1, 1, 0, 0⟩, rfl, rfl, rfl, rfl, rfl, rfl, okTime (by decide) (by decide) (by decide) (by decide), upd_same, fun H2 h2 b2 => ⟨rfl, ?_⟩⟩
  exact h x H2 hx ⟨dx, h2⟩ fun b o e => b2 b o (same_make hx hdx _ _ e) (ne_of_none e hx)
theorem ok_Moment_is_date (T : Bn mg) {C : Addr} (dd : StatAt K C "is_date" "Moment.is_date" s_Moment_is_date) (h_wrong_part : Has P w K mg base CX0 3 "wrong_part" ["year", "month", "day", "hour", "minute"] (sp5 (bWrong K))) : HasS P w K mg base CX0 4 C "is_date" (sp3 bIsDate) := by
  refine stat_of dd bd_Moment_is_date sc_Moment_is_date (fun vs H Q E h => by obtain ⟨x0, x1, x2, rfl, _⟩ := h; rfl) (fun f cdv A outer s H vs Q E hr h => ?_)
  obtain ⟨_, _, _, rfl, h⟩ := h
  refine ⟨_, pss_one (ps_ret (pe_cmpR op_isN (pe_callH h_wrong_part hr pass0 (pa_cons (pv 0) (pa_cons (pv 1) (pa_cons (pv 2) (pa_cons (pe_int) (pa_cons (pe_int) pa_nil)))))) (pe_non) (nomark _))), ?_⟩
  obtain ⟨y, m, d, rfl, rfl, rfl, q⟩ := h
  walk_at "rs"
  refine ⟨_, _, _, _, _, rfl, whole_int, whole_int, whole_int, whole_int, whole_int, ?_⟩
  rw [← wrong_dt] at q
  exact q
theorem ok_Moment_add (T : Bn mg) {C : Addr} (dd : MethAt K C "__add__" "Moment.__add__" s_Moment_add) (h_moment_at : Has P w K mg base CX0 6 "moment_at" ["number"] (sp1 (bAt C))) (M : MoCls K C) : OwnCmp P w K mg base CX0 7 C "__add__" (sp2 (bAdd C)) := by
  refine own_of dd bd_Moment_add sc_Moment_add (fun vs H Q E h => by obtain ⟨x0, x1, rfl, _⟩ := h; rfl) (fun f cdv A outer s H vs Q E hr h => ?_)
  obtain ⟨_, _, rfl, h⟩ := h
  refine ⟨_, pss_one (ps_ret (pe_callH h_moment_at hr pass0 (pa_cons (pe_op op_add (pe_fld (pv 0) rfl) (pv 1)) pa_nil))), ?_⟩
  obtain ⟨p, o, n, rfl, rfl, ⟨dx, hp⟩, b0, b1, q⟩ := h
  walk_at "rs"
  exact ⟨C, dx, _, hp, M.cl, M.at_ _ (by decide +kernel), _, mo_num, _, rfl, _, rfl, _, rfl, b0, b1, fun p' o' H' a b c d s => q p' o' H' a b c d s⟩
theorem ok_Moment_sub (T : Bn mg) {C : Addr} (dd : MethAt K C "__sub__" "Moment.__sub__" s_Moment_sub) (h_moment_at : Has P w K mg base CX0 6 "moment_at" ["number"] (sp1 (bAt C))) (M : MoCls K C) (c_Moment : ConstIn mg "Moment" (.ref C)) (ki : PySem.W.kitOne K (.type "int") (.ref C) = some false) : OwnCmp P w K mg base CX0 7 C "__sub__" (sp2 (bSub C)) := by
  refine own_of dd bd_Moment_sub sc_Moment_sub (fun vs H Q E h => by obtain ⟨x0, x1, rfl, _⟩ := h; rfl) (fun f cdv A outer s H vs Q E hr h => ?_)
  obtain ⟨_, _, rfl, h⟩ := h
  refine ⟨_, Evl.pss_cut (ps_if (pt_val (pe_callB call_isi (by rfl) T.b_isinstance (by decide +kernel) (pa_cons (pv 1) (pa_cons (pe_globC c_Moment (by rfl)) pa_nil)))) (pss_one (ps_ret (pe_op op_sub (pe_fld (pv 0) rfl) (pe_fld (pv 1) rfl)))) (pss_nil))
      (pss_one (ps_ret (pe_callH h_moment_at hr pass0 (pa_cons (pe_op op_sub (pe_fld (pv 0) rfl) (pv 1)) pa_nil)))), ?_⟩
  obtain ⟨p, o, rfl, ⟨dx, hp⟩, k⟩ := h
  refine st_gen fun N0 hN0 => ?_
  walk_at "rs"
  rcases k with ⟨n, rfl, b0, b1, q⟩ | ⟨q', o', rfl, ⟨dy, hq⟩, q⟩
  · refine ⟨_, _, .own C, .base (.int n), false, ki, iteF (hN0 _ _ ?_)⟩
    walk_at "rs"
    exact ⟨C, dx, _, hp, M.cl, M.at_ _ (by decide +kernel), _, mo_num, _, rfl, _, rfl, _, rfl, b0, b1, fun p' o' H' a b c d s => q p' o' H' a b c d s⟩
  · refine ⟨_, _, .own C, M.ty ⟨dy, hq⟩, true, M.ki, iteT ?_⟩
    walk_at "rs"
    refine ⟨C, dx, _, hp, M.cl, M.at_ _ (by decide +kernel), _, mo_num, C, dy, _, hq, M.cl, M.at_ _ (by decide +kernel), _, mo_num, ?_⟩
    walk_at "rs"
    exact q
theorem ok_Moment_read (T : Bn mg) {C : Addr} (dd : ClsmAt K C "read" "Moment.read" s_Moment_read) (h_date_in : Has P w K mg base CX0 4 "date_in" ["word"] (sp1 bDateIn)) (h_time_in : Has P w K mg base CX0 4 "time_in" ["word"] (sp1 bTimeIn)) (h_Moment : HasM P w K mg base CX0 4 C [] (sp6 (bInit C))) : HasC P w K mg base CX0 6 C "read" (sp2 (bRead C)) := by
  refine clsm_of dd bd_Moment_read sc_Moment_read (fun vs H Q E h => by obtain ⟨x0, x1, rfl, _⟩ := h; rfl) (fun f cdv A outer s H vs Q E hr h => ?_)
  obtain ⟨_, _, rfl, h⟩ := h
  refine ⟨_, Evl.pss_cut (ps_set (i := 2) sc_Moment_read.nd rfl (Or.inl rfl) (pe_ifExp (pt_val (pe_callB call_isi (by rfl) T.b_isinstance (by decide +kernel) (pa_cons (pv 1) (pa_cons (pe_bltn (v := .ty "str") (u := .type "str") (by rfl) T.b_str (by decide +kernel) rfl) pa_nil)))) (pe_split (pv 1) pe_str) (pe_lst (pa_cons (pe_str) pa_nil))))
      (Evl.pss_cut (ps_set (i := 3) sc_Moment_read.nd rfl (Or.inl rfl) (pe_callH h_date_in hr pass0 (pa_cons (pe_ix ix_list (pv 2) (pe_int) (fun _ _ => rfl)) pa_nil)))
      (Evl.pss_cut (ps_if (pt_cmpR op_isN (pv 3) (pe_non) (nomark _)) (pss_one (ps_never)) (pss_nil))
      (Evl.pss_cut (ps_set (i := 4) sc_Moment_read.nd rfl (Or.inl rfl) (pe_ifExp (pt_cmpR op_gt (pe_callB call_len_seq (by rfl) T.b_len PySem.boot_len (pa_cons (pv 2) pa_nil)) (pe_int) (nomark _)) (pe_callH h_time_in hr pass0 (pa_cons (pe_ix ix_list (pv 2) (pe_int) (fun _ _ => rfl)) pa_nil)) (pe_non)))
      (Evl.pss_cut (ps_if (pt_cmpR op_isN (pv 4) (pe_non) (nomark _)) (pss_one (ps_never)) (pss_nil))
      (Evl.pss_cut (ps_if (pt_cmpR op_gt (pe_callB call_len_seq (by rfl) T.b_len PySem.boot_len (pa_cons (pv 2) pa_nil)) (pe_int) (nomark _)) (pss_one (ps_never)) (pss_nil))
      (pss_one (ps_ret (pe_makeL (i := 0) h_Moment hr rfl (Or.inl rfl) pass0 (pa_cons (pe_ix ix_list (pv 3) (pe_int) (fun _ _ => rfl)) (pa_cons (pe_ix ix_list (pv 3) (pe_int) (fun _ _ => rfl)) (pa_cons (pe_ix ix_list (pv 3) (pe_int) (fun _ _ => rfl)) (pa_cons (pe_ix ix_list (pv 4) (pe_int) (fun _ _ => rfl)) (pa_cons (pe_ix ix_list (pv 4) (pe_int) (fun _ _ => rfl)) pa_nil))))))))))))), ?_⟩
  obtain ⟨o, rfl, rfl, ho, q⟩ := h
  refine st_gen fun N0 hN0 => ?_
  walk_at "rs"
  refine ⟨_, _, .ty _, .base (.str _), true, kit_ty (by decide +kernel), iteT ⟨⟨_, rfl⟩, by decide +kernel, Nat.le_trans (Nat.add_le_add_right (mo_len ho) 2) (by decide), fun p hp => hN0 _ _ ?_⟩⟩
  rw [mo_split ho]
  have s1 := same_new (o := .lst ([dateText o, timeText o].map V.str)) hp
  have h1 : upd H p (.lst ([dateText o, timeText o].map V.str)) p = some (.lst [.str (dateText o), .str (timeText o)]) := upd_same
  generalize upd H p (.lst ([dateText o, timeText o].map V.str)) = H1 at s1 h1 ⊢
  refine st_gen fun N1 hN1 => ?_
  walk_at "rs"
  refine ⟨_, SqL.of h1, _, rfl, _, rfl, o, rfl, ho, fun l H2 hl h2 s2 => hN1 _ _ ?_⟩
  refine st_gen fun N2 hN2 => ?_
  walk_at "rs"
  refine hN2 _ _ ?_
  refine st_gen fun N3 hN3 => ?_
  walk_at "rs"
  refine ⟨_, .inl (SqL.of (s2 _ _ h1)), ?_⟩
  rw [if_pos (show (1 : Int) < (([V.str (dateText o), V.str (timeText o)].length : Nat) : Int) from (by decide : (1 : Int) < ((2 : Nat) : Int)))]
  refine ⟨_, SqL.of (s2 _ _ h1), _, rfl, _, rfl, o, rfl, ho, fun l3 H3 hl3 h3 s3 => hN3 _ _ ?_⟩
  refine st_gen fun N4 hN4 => ?_
  walk_at "rs"
  refine hN4 _ _ ?_
  refine st_gen fun N5 hN5 => ?_
  walk_at "rs"
  refine ⟨_, .inl (SqL.of (s3 _ _ (s2 _ _ h1))), ?_⟩
  rw [if_neg (show ¬ (2 : Int) < (([V.str (dateText o), V.str (timeText o)].length : Nat) : Int) from (by decide : ¬ (2 : Int) < ((2 : Nat) : Int)))]
  refine hN5 _ _ ?_
  walk_at "rs"
  have h2' := s3 _ _ h2
  refine ⟨_, SqL.of h2', _, rfl, _, SqL.of h2', _, rfl, _, SqL.of h2', _, rfl, _, SqL.of h3, _, rfl, _, SqL.of h3, _, rfl, fun x dx hx hdx ne => ?_⟩
  have s13 := (s1.trans s2).trans s3
  refine ⟨_, _, _, _, _, _, rfl, x, dx, o, rfl, rfl, rfl, rfl, rfl, rfl, ho, upd_same, fun H4 h4 b4 => ⟨rfl, ?_⟩⟩
  exact q x H4 (same_back s13 hx) ⟨dx, h4⟩ fun b o' e => b4 b o' (same_make hx hdx _ _ (s13 _ _ e)) (ne_of_none (s13 _ _ e) hx)
end
end RB
namespace RB
open PySem PySem.Spec PyProof.Rows L2
def bNext (C : Addr) : B1 := fun v H Q _ => ∃ (p : Addr) (o : Mo), v = .ref p ∧ MoAt C H p o ∧ o.Ok ∧ ∀ l H', H l = none → H' l = some (.lst [.int (Cal.nx o.y o.m o.d).1, .int (Cal.nx o.y o.m o.d).2.1, .int (Cal.nx o.y o.m o.d).2.2]) → Same H H' → Q (.ref l) H'
def bWalk (C : Addr) : B2 := fun v u H Q _ => ∃ (p : Addr) (o : Mo), v = .ref p ∧ u = .int 40 ∧ MoAt C H p o ∧ o.Ok ∧ o.num + 57600 < 525948672960 ∧ ∀ H', Same H H' → Q (.bl true) H'
def bRound (C : Addr) : B1 := fun v H Q _ => ∃ (p : Addr) (o : Mo), v = .ref p ∧ MoAt C H p o ∧ o.Ok ∧ o.y ≤ 999000 ∧ ∀ H', Same H H' → Q (.bl true) H'
theorem mo_wd {o : Mo} : (moF o).lookup ("weekday" : Str) = some (.int (Cal.dn o.y o.m o.d % 7)) := by unfold moF; repeat (first | exact look_hit | refine look_miss (by decide +kernel) ?_)
theorem mo_year {o : Mo} : (moF o).lookup ("year" : Str) = some (.int o.y) := by unfold moF; repeat (first | exact look_hit | refine look_miss (by decide +kernel) ?_)
theorem mo_month {o : Mo} : (moF o).lookup ("month" : Str) = some (.int o.m) := by unfold moF; repeat (first | exact look_hit | refine look_miss (by decide +kernel) ?_)
theorem mo_day {o : Mo} : (moF o).lookup ("day" : Str) = some (.int o.d) := by unfold moF; repeat (first | exact look_hit | refine look_miss (by decide +kernel) ?_)
theorem mo_hour {o : Mo} : (moF o).lookup ("hour" : Str) = some (.int o.h) := by unfold moF; repeat (first | exact look_hit | refine look_miss (by decide +kernel) ?_)
theorem mo_minute {o : Mo} : (moF o).lookup ("minute" : Str) = some (.int o.mi) := by unfold moF; repeat (first | exact look_hit | refine look_miss (by decide +kernel) ?_)
local macro_rules | `(tactic| walk_at "lk") => `(tactic| repeat (first | exact look_hit | exact look_nil | refine look_miss (by decide +kernel) ?_))
local macro_rules | `(tactic| walk_at "rs") => `(tactic| try simp only [tAsg, gName, tVar, tC, tOp, rI, rI0, rU, tUn, tIfS, tTest, tB, tRet, tRetN, tDrop, tCal, tCons, tNil, tTup, tLst, tCB, tAnd, tOr, tNot, tAndV, tOrV, tNotV, tIf, tCmp, t2I, rEq, rNe, tNext, tChain, tSl, tPart, tNoPart, tPar, gSub, rSetL, rIxL, rIxT, rSlL, tSMeth, tMak, rOwnC, tFmtSp, tBM, rAppend, tDrop, gTup, gCons, gNil, iList, iTup, iRng1, iRng2, tWhile, tAug, ipI, tFld, sFld, rSum, rIsi, tM1, tM0, rNewStrs, ClX.tCMeth, tMakL, rOwnI, rOwnS, rIxS,
  L2.start, cxK, List.map_cons, List.map_nil, List.length_cons, List.length_nil, Nat.zero_add, Nat.reduceAdd, Nat.reduceSub, List.replicate_succ, List.replicate_zero, List.cons_append, List.nil_append, List.append_nil,
  List.getElem?_cons_zero, List.getElem?_cons_succ, List.set_cons_zero, List.set_cons_succ, Option.some.injEq, V.int.injEq, V.ref.injEq, V.bl.injEq, V.str.injEq, List.cons.injEq, reduceCtorEq, and_true, true_and, and_assoc, exists_eq_left', exists_eq_left, exists_eq_right, exists_and_left, exists_and_right, false_and, and_false, or_false, false_or, exists_const, exists_false, if_false, if_true, eq_self, wipe, tYes, Bool.false_eq_true,  scal, decide_eq_true_eq, Bool.not_eq_true', decide_eq_false_iff_not])
section
variable {P : Program} {w : World} {K : PySem.W.Frag} {mg : Str → Option Value} {base : Heap}
theorem ok_law_next (T : Bn mg) (dd : DefIn K mg "_law_next" "_law_next" s__law_next ["_law_moment"]) {C : Addr} (M : MoCls K C) (h_month_length : Has P w K mg base CX0 2 "month_length" ["year", "month"] (sp2 bMl)) : Has P w K mg base CX0 3 "_law_next" ["_law_moment"] (sp1 (bNext C)) := by
  refine has_of dd sc__law_next (fun vs H Q E h => by obtain ⟨x0, rfl, _⟩ := h; rfl) (fun f cdv A outer s H vs Q E hr h => ?_)
  obtain ⟨_, rfl, h⟩ := h
  refine ⟨_, Evl.pss_cut (ps_if (pt_cmpR op_lt (pe_fld (pv 0) rfl) (pe_callH h_month_length hr pass0 (pa_cons (pe_fld (pv 0) rfl) (pa_cons (pe_fld (pv 0) rfl) pa_nil))) (nomark _)) (pss_one (ps_ret (pe_lst (pa_cons (pe_fld (pv 0) rfl) (pa_cons (pe_fld (pv 0) rfl) (pa_cons (pe_op op_add (pe_fld (pv 0) rfl) (pe_int)) pa_nil)))))) (pss_nil))
      (Evl.pss_cut (ps_if (pt_cmpR op_lt (pe_fld (pv 0) rfl) (pe_int) (nomark _)) (pss_one (ps_ret (pe_lst (pa_cons (pe_fld (pv 0) rfl) (pa_cons (pe_op op_add (pe_fld (pv 0) rfl) (pe_int)) (pa_cons (pe_int) pa_nil)))))) (pss_nil))
      (pss_one (ps_ret (pe_lst (pa_cons (pe_op op_add (pe_fld (pv 0) rfl) (pe_int)) (pa_cons (pe_int) (pa_cons (pe_int) pa_nil))))))), ?_⟩
  obtain ⟨p, o, rfl, ⟨dx, hp⟩, ho, q⟩ := h
  have bd := ho.bds
  have l3 : 3 ≤ sizeLine := by decide
  unfold Cal.nx at q
  refine st_gen fun N0 hN0 => ?_
  walk_at "rs"
  refine ⟨C, dx, _, hp, M.cl, M.at_ _ (by decide +kernel), _, mo_day, C, dx, _, hp, M.cl, M.at_ _ (by decide +kernel), _, mo_year, C, dx, _, hp, M.cl, M.at_ _ (by decide +kernel), _, mo_month, _, _, rfl, o.y, o.m, rfl, rfl, bd.2.2.1, bd.2.2.2.1, ?_⟩
  by_cases c1 : o.d < Cal.ml o.y o.m
  · rw [if_pos c1] at q
    refine ⟨_, rfl, _, rfl, ?_⟩
    rw [if_pos c1]
    refine ⟨C, dx, _, hp, M.cl, M.at_ _ (by decide +kernel), _, mo_year, C, dx, _, hp, M.cl, M.at_ _ (by decide +kernel), _, mo_month, C, dx, _, hp, M.cl, M.at_ _ (by decide +kernel), _, mo_day, _, rfl, l3, fun l hl => ?_⟩
    exact q l _ hl upd_same (same_new hl)
  · rw [if_neg c1] at q
    refine ⟨_, rfl, _, rfl, ?_⟩
    rw [if_neg c1]
    refine hN0 _ _ ?_
    refine st_gen fun N1 hN1 => ?_
    walk_at "rs"
    refine ⟨C, dx, _, hp, M.cl, M.at_ _ (by decide +kernel), _, mo_month, _, rfl, ?_⟩
    by_cases c2 : o.m < 12
    · rw [if_pos c2] at q
      rw [if_pos c2]
      refine ⟨C, dx, _, hp, M.cl, M.at_ _ (by decide +kernel), _, mo_year, C, dx, _, hp, M.cl, M.at_ _ (by decide +kernel), _, mo_month, _, rfl, l3, fun l hl => ?_⟩
      exact q l _ hl upd_same (same_new hl)
    · rw [if_neg c2] at q
      rw [if_neg c2]
      refine hN1 _ _ ?_
      walk_at "rs"
      refine ⟨C, dx, _, hp, M.cl, M.at_ _ (by decide +kernel), _, mo_year, _, rfl, l3, fun l hl => ?_⟩
      exact q l _ hl upd_same (same_new hl)
theorem ok_law_walk_right (T : Bn mg) (dd : DefIn K mg "_law_walk_right" "_law_walk_right" s__law_walk_right ["_law_moment", "_law_many"]) {C : Addr} (M : MoCls K C) (n_eq : OwnNe K C) (h_eq : OwnCmp P w K mg base CX0 1 C "__eq__" (sp2 (bEq K C))) (h_str : OwnCmp P w K mg base CX0 1 C "__str__" (sp1 (bStr C))) (h_add : OwnCmp P w K mg base CX0 7 C "__add__" (sp2 (bAdd C))) (h_sub : OwnCmp P w K mg base CX0 7 C "__sub__" (sp2 (bSub C))) (B_add : OwnT K C .Add "int") (B_sub : OwnT K C .Sub "int") (c_Moment : ConstIn mg "Moment" (.ref C)) (h_read : HasC P w K mg base CX0 6 C "read" (sp2 (bRead C))) (h_law_next : Has P w K mg base CX0 3 "_law_next" ["_law_moment"] (sp1 (bNext C))) : Has P w K mg base CX0 8 "_law_walk_right" ["_law_moment", "_law_many"] (sp2 (bWalk C)) := by
  refine has_of dd sc__law_walk_right (fun vs H Q E h => by obtain ⟨x0, x1, rfl, _⟩ := h; rfl) (fun f cdv A outer s H vs Q E hr h => ?_)
  obtain ⟨_, _, rfl, h⟩ := h
  refine ⟨_, Evl.pss_cut (ps_for PassesOwn.never rfl (pi_range1 (by rfl) T.b_range (pa_cons (pv 1) pa_nil)) (pg_name (i := 2) sc__law_walk_right.nd rfl (Or.inl rfl)) (Evl.pss_cut (ps_set (i := 3) sc__law_walk_right.nd rfl (Or.inl rfl) (pe_op (op_ownI h_add B_add hr (by decide) pass0) (pv 0) (pe_int)))
      (Evl.pss_cut (ps_if (PW.pt (pw_or (pt_cmpR (op_neD hr.units) (pe_lst (pa_cons (pe_fld (pv 3) rfl) (pa_cons (pe_fld (pv 3) rfl) (pa_cons (pe_fld (pv 3) rfl) pa_nil)))) (pe_callH h_law_next hr pass0 (pa_cons (pv 0) pa_nil)) (nomark _)) (pw_or1 (pt_cmpR op_ne (pe_fld (pv 3) rfl) (pe_op op_mod (pe_callTy call_int1 (by rfl) T.b_int (by decide +kernel) (pa_cons (pe_op op_add (pe_fld (pv 0) rfl) (pe_int)) pa_nil)) (pe_int)) (nomark _))))) (pss_one (ps_ret (pe_bl))) (pss_nil))
      (Evl.pss_cut (ps_if (PW.pt (pw_or (pt_cmpR op_ne (pe_op (op_ownS h_sub B_sub.sf hr (by decide) pass0) (pv 3) (pv 0)) (pe_int) (nomark _)) (pw_or (pt_cmpR (op_neC h_eq n_eq hr (by decide) pass0) (pe_cmethH (pe_globC c_Moment (by rfl)) h_read hr pass0 (pa_cons (pe_callTy (call_strC h_str hr (by decide) pass0) (by rfl) T.b_str (by decide +kernel) (pa_cons (pv 3) pa_nil)) pa_nil)) (pv 3) (nomark _)) (pw_or1 (pt_cmpR (op_neC h_eq n_eq hr (by decide) pass0) (pe_op (op_ownI h_sub B_sub hr (by decide) pass0) (pv 3) (pe_int)) (pv 0) (nomark _)))))) (pss_one (ps_ret (pe_bl))) (pss_nil))
      (pss_one (ps_set (i := 0) sc__law_walk_right.nd rfl (Or.inl rfl) (pv 3)))))))
      (pss_one (ps_ret (pe_bl))), ?_⟩
  obtain ⟨p, o, rfl, rfl, hp, ho, hn, q⟩ := h
  refine st_cut (fun σ H2 => Same H H2) ?_ (fun σ H2 hM => by walk_at "rs"; exact q H2 hM)
  refine ⟨_, rfl, 40, rfl, by decide, by decide, for_range (lo := 0) (n := (40 : Int).toNat) (fun i σ H2 => ∃ (p2 : Addr) (o2 : Mo) (v2 v3 : Option V), σ = [some (.ref p2), some (.int 40), v2, v3] ∧ Same H H2 ∧ MoAt C H2 p2 o2 ∧ o2.Ok ∧ o2.num = o.num + 1440 * (i : Int)) ?_ ?_ ?_⟩
  · exact ⟨p, o, none, none, rfl, Same.refl _, hp, ho, by omega⟩
  · rintro i σ H2 hi ⟨p2, o2, v2, v3, rfl, s2, m2, k2, n2⟩
    have hi40 : i < 40 := hi
    show Evl.tCut _ _ _ _ _
    refine st_gen fun N1 hN1 => ?_
    walk_at "rs"
    refine ⟨let ⟨d2, e2⟩ := m2; ⟨d2, _, e2⟩, _, _, rfl, p2, o2, 1440, rfl, rfl, m2, by have := Mo.num_lo k2; omega, by omega, fun lt ol H3 hl ml kl nl s3 => hN1 _ _ ?_⟩
    have m3 := m2.same s3
    have nx := Cal.nx_dn k2.1.v0
    have b2 := k2.bds
    have bl := kl.bds
    have eqs : ol.y = (Cal.nx o2.y o2.m o2.d).1 ∧ ol.m = (Cal.nx o2.y o2.m o2.d).2.1 ∧ ol.d = (Cal.nx o2.y o2.m o2.d).2.2 := by
      refine Cal.dn_inj kl.1.v0 nx.1 ?_
      rw [nx.2]
      unfold Mo.num at nl
      omega
    have wds : Cal.dn ol.y ol.m ol.d = Cal.dn o2.y o2.m o2.d + 1 := by
      rw [eqs.1, eqs.2.1, eqs.2.2]
      exact nx.2
    obtain ⟨d2, e2⟩ := m3
    obtain ⟨dl, el⟩ := ml
    have l3 : 3 ≤ sizeLine := by decide
    refine st_gen fun N2 hN2 => ?_
    walk_at "rs"
    refine ⟨C, dl, _, el, M.cl, M.at_ _ (by decide +kernel), _, mo_year, C, dl, _, el, M.cl, M.at_ _ (by decide +kernel), _, mo_month, C, dl, _, el, M.cl, M.at_ _ (by decide +kernel), _, mo_day, l3, fun l5 h5 => ?_⟩
    have s5 := same_new (o := .lst [.int ol.y, .int ol.m, .int ol.d]) h5
    refine ⟨_, rfl, p2, o2, rfl, ⟨d2, s5 _ _ e2⟩, k2, fun l6 H6 h6 hl6 s6 => rNe_ints (ns := [ol.y, ol.m, ol.d]) (ms := [(Cal.nx o2.y o2.m o2.d).1, (Cal.nx o2.y o2.m o2.d).2.1, (Cal.nx o2.y o2.m o2.d).2.2]) (SqL.of (s6 _ _ upd_same)) (SqL.of hl6) ⟨_, rfl, ?_⟩⟩
    have e : ([ol.y, ol.m, ol.d] : List Int) = [(Cal.nx o2.y o2.m o2.d).1, (Cal.nx o2.y o2.m o2.d).2.1, (Cal.nx o2.y o2.m o2.d).2.2] := by rw [eqs.1, eqs.2.1, eqs.2.2]
    rw [decide_eq_true e, if_neg (by decide)]
    have el6 := s6 _ _ (s5 _ _ el)
    have e26 := s6 _ _ (s5 _ _ e2)
    refine ⟨C, dl, _, el6, M.cl, M.at_ _ (by decide +kernel), _, mo_wd, C, d2, _, e26, M.cl, M.at_ _ (by decide +kernel), _, mo_wd, _, rfl, by decide, rfl, ?_⟩
    rw [if_neg (fun z => z (congrArg V.int (by omega)))]
    refine hN2 _ _ ?_
    have s36 := s5.trans s6
    refine st_gen fun N3 hN3 => ?_
    walk_at "rs"
    refine ⟨⟨dl, _, el6⟩, ⟨d2, _, e26⟩, _, _, rfl, lt, ol, rfl, ⟨dl, el6⟩, .inr ⟨p2, o2, rfl, ⟨d2, e26⟩, ?_⟩⟩
    refine ⟨rfl, ?_⟩
    rw [if_neg (fun z => z (congrArg V.int (by omega)))]
    refine ⟨lt, dl, _, rfl, el6, _, rfl, lt, ol, rfl, ⟨dl, el6⟩, kl, ⟨_, rfl⟩, ?_⟩
    refine ⟨_, _, rfl, ol, rfl, rfl, kl, fun rq H7 hrq mrq s7 => ?_⟩
    obtain ⟨dr, er⟩ := mrq
    have el7 := s7 _ _ el6
    have e27 := s7 _ _ e26
    refine ⟨rq, rfl, ⟨dr, _, er⟩, _, M.ty ⟨dl, el7⟩, M.nf, _, _, rfl, rq, ol, rfl, ⟨dr, er⟩, .inr ⟨lt, ol, rfl, ⟨dl, el7⟩, _, rfl, ?_⟩⟩
    rw [decide_eq_true rfl, if_neg (by decide)]
    refine ⟨⟨dl, _, el7⟩, _, _, rfl, lt, ol, rfl, ⟨dl, el7⟩, .inl ⟨1440, rfl, by have := Mo.num_lo k2; omega, by have := Mo.num_hi k2; omega, fun bq ob H8 hbq mb kb nb s8 => ?_⟩⟩
    obtain ⟨db, eb⟩ := mb
    have el8 := s8 _ _ el7
    have e28 := s8 _ _ e27
    refine ⟨bq, rfl, ⟨db, _, eb⟩, _, M.ty ⟨d2, e28⟩, M.nf, _, _, rfl, bq, ob, rfl, ⟨db, eb⟩, .inr ⟨p2, o2, rfl, ⟨d2, e28⟩, _, rfl, ?_⟩⟩
    rw [decide_eq_true (by omega), if_neg (by decide)]
    refine hN3 _ _ ?_
    exact ⟨_, rfl, lt, ol, _, _, rfl, (((s2.trans s3).trans s36).trans s7).trans s8, ⟨dl, el8⟩, kl, by omega⟩
  · rintro σ H2 ⟨p2, o2, v2, v3, rfl, s2, m2, k2, n2⟩
    exact s2
theorem ok_law_round_right (T : Bn mg) (dd : DefIn K mg "_law_round_right" "_law_round_right" s__law_round_right ["_law_moment"]) {C : Addr} (M : MoCls K C) (n_eq : OwnNe K C) (h_eq : OwnCmp P w K mg base CX0 1 C "__eq__" (sp2 (bEq K C))) (h_str : OwnCmp P w K mg base CX0 1 C "__str__" (sp1 (bStr C))) (h_add : OwnCmp P w K mg base CX0 7 C "__add__" (sp2 (bAdd C))) (h_sub : OwnCmp P w K mg base CX0 7 C "__sub__" (sp2 (bSub C))) (B_add : OwnT K C .Add "int") (B_sub : OwnT K C .Sub "int") : Has P w K mg base CX0 8 "_law_round_right" ["_law_moment"] (sp1 (bRound C)) := by
  refine has_of dd sc__law_round_right (fun vs H Q E h => by obtain ⟨x0, rfl, _⟩ := h; rfl) (fun f cdv A outer s H vs Q E hr h => ?_)
  obtain ⟨_, rfl, h⟩ := h
  refine ⟨_, Evl.pss_cut (ps_set (i := 1) sc__law_round_right.nd rfl (Or.inl rfl) (pe_op (op_ownI h_add B_add hr (by decide) pass0) (pv 0) (pe_op op_mul (pe_int) (pe_int))))
      (Evl.pss_cut (ps_set (i := 2) sc__law_round_right.nd rfl (Or.inl rfl) (pe_lst (pa_cons (pe_op op_sub (pe_fld (pv 1) rfl) (pe_int)) (pa_cons (pe_fld (pv 1) rfl) (pa_cons (pe_fld (pv 1) rfl) (pa_cons (pe_fld (pv 1) rfl) (pa_cons (pe_fld (pv 1) rfl) (pa_cons (pe_fld (pv 1) rfl) pa_nil))))))))
      (pss_one (ps_ret (pe_cmpR (op_eqD hr.units) (pv 2) (pe_lst (pa_cons (pe_fld (pv 0) rfl) (pa_cons (pe_fld (pv 0) rfl) (pa_cons (pe_fld (pv 0) rfl) (pa_cons (pe_fld (pv 0) rfl) (pa_cons (pe_fld (pv 0) rfl) (pa_cons (pe_fld (pv 0) rfl) pa_nil))))))) (nomark _))))), ?_⟩
  obtain ⟨p, o, rfl, ⟨dx, hp⟩, ho, hy, q⟩ := h
  have bd := ho.bds
  have b62 : (2 : Int) ^ 62 = 4611686018427387904 := by decide
  have l6 : 6 ≤ sizeLine := by decide
  have nl := Mo.num_lo ho
  have nh := Mo.num_hi ho
  refine st_gen fun N0 hN0 => ?_
  walk_at "rs"
  have hb : o.num + 146097 * 1440 < 525948672960 := by
    have a := Cal.dn_hi ho.1
    have b := Cal.dA_mono (a := o.y + 1) (b := 999001) (by omega) (by omega)
    have c : Cal.dA 999001 = 364876999 + (Cal.dA 999001 - 364876999) := by omega
    have d : Cal.dA 999001 ≤ 365000000 := by decide
    unfold Mo.num
    omega
  refine ⟨small_mul (by decide) (by decide), ⟨dx, _, hp⟩, _, _, rfl, p, o, _, rfl, rfl, ⟨dx, hp⟩, by omega, hb, fun lt ol H3 hl ml kl nl s3 => hN0 _ _ ?_⟩
  obtain ⟨dl, el⟩ := ml
  have e3 := s3 _ _ hp
  have b2 := kl.bds
  have dn4 := Cal.dn400 o.y o.m o.d
  have eqs : ol.y = o.y + 400 ∧ ol.m = o.m ∧ ol.d = o.d := by
    refine Cal.dn_inj kl.1.v0 (show Cal.V0 (o.y + 400) o.m o.d from ⟨by omega, bd.2.2.1, bd.2.2.2.1, bd.2.2.2.2.1, by rw [Cal.ml400]; exact ho.1.2.2.2.2.2⟩) ?_
    unfold Mo.num at nl
    omega
  have hs : ol.h = o.h ∧ ol.mi = o.mi := by
    have e4 : Cal.dn ol.y ol.m ol.d = Cal.dn o.y o.m o.d + 146097 := by rw [eqs.1, eqs.2.1, eqs.2.2, dn4]
    unfold Mo.num at nl
    omega
  refine st_gen fun N1 hN1 => ?_
  walk_at "rs"
  refine ⟨C, dl, _, el, M.cl, M.at_ _ (by decide +kernel), _, mo_year, _, rfl, C, dl, _, el, M.cl, M.at_ _ (by decide +kernel), _, mo_month, C, dl, _, el, M.cl, M.at_ _ (by decide +kernel), _, mo_day, C, dl, _, el, M.cl, M.at_ _ (by decide +kernel), _, mo_hour, C, dl, _, el, M.cl, M.at_ _ (by decide +kernel), _, mo_minute, C, dl, _, el, M.cl, M.at_ _ (by decide +kernel), _, mo_wd, l6, fun l5 h5 => hN1 _ _ ?_⟩
  have s5 := same_new (o := .lst [.int (ol.y - 400), .int ol.m, .int ol.d, .int ol.h, .int ol.mi, .int (Cal.dn ol.y ol.m ol.d % 7)]) h5
  have e5 : upd H3 l5 (.lst [.int (ol.y - 400), .int ol.m, .int ol.d, .int ol.h, .int ol.mi, .int (Cal.dn ol.y ol.m ol.d % 7)]) l5 = some (.lst [.int (ol.y - 400), .int ol.m, .int ol.d, .int ol.h, .int ol.mi, .int (Cal.dn ol.y ol.m ol.d % 7)]) := upd_same
  generalize upd H3 l5 (.lst [.int (ol.y - 400), .int ol.m, .int ol.d, .int ol.h, .int ol.mi, .int (Cal.dn ol.y ol.m ol.d % 7)]) = H5 at s5 e5 ⊢
  have e6 := s5 _ _ e3
  walk_at "rs"
  refine ⟨C, dx, _, e6, M.cl, M.at_ _ (by decide +kernel), _, mo_year, C, dx, _, e6, M.cl, M.at_ _ (by decide +kernel), _, mo_month, C, dx, _, e6, M.cl, M.at_ _ (by decide +kernel), _, mo_day, C, dx, _, e6, M.cl, M.at_ _ (by decide +kernel), _, mo_hour, C, dx, _, e6, M.cl, M.at_ _ (by decide +kernel), _, mo_minute, C, dx, _, e6, M.cl, M.at_ _ (by decide +kernel), _, mo_wd, l6, fun l7 h7 => rEq_ints (ns := [ol.y - 400, ol.m, ol.d, ol.h, ol.mi, Cal.dn ol.y ol.m ol.d % 7]) (ms := [o.y, o.m, o.d, o.h, o.mi, Cal.dn o.y o.m o.d % 7]) (SqL.of (same_new h7 _ _ e5)) (SqL.of upd_same) ?_⟩
  rw [decide_eq_true (by rw [eqs.1, eqs.2.1, eqs.2.2, hs.1, hs.2, dn4, show o.y + 400 - 400 = o.y by omega, show (Cal.dn o.y o.m o.d + 146097) % 7 = Cal.dn o.y o.m o.d % 7 by omega])]
  exact q _ ((s3.trans s5).trans (same_new h7))
end
end RB
namespace RB
open PySem PySem.Spec PyProof.Rows L2
local macro_rules | `(tactic| walk_at "lk") => `(tactic| repeat (first | exact look_hit | exact look_nil | refine look_miss (by decide +kernel) ?_))
local macro_rules | `(tactic| walk_at "rs") => `(tactic| try simp only [tAsg, gName, tVar, tC, tOp, rI, rI0, rU, tUn, tIfS, tTest, tB, tRet, tRetN, tDrop, tCal, tCons, tNil, tTup, tLst, tCB, tAnd, tOr, tNot, tAndV, tOrV, tNotV, tIf, tCmp, t2I, rEq, rNe, tNext, tChain, tSl, tPart, tNoPart, tPar, gSub, rSetL, rIxL, rIxT, rSlL, tSMeth, tMak, rOwnC, tFmtSp, tBM, rAppend, tDrop, gTup, gCons, gNil, iList, iTup, iRng1, iRng2, tWhile, tAug, ipI, tFld, sFld, rSum, rIsi, tM1, tM0, rNewStrs, ClX.tCMeth, tMakL, rOwnI, rOwnS, rIxS,
  L2.start, cxK, List.map_cons, List.map_nil, List.length_cons, List.length_nil, Nat.zero_add, Nat.reduceAdd, Nat.reduceSub, List.replicate_succ, List.replicate_zero, List.cons_append, List.nil_append, List.append_nil,
  List.getElem?_cons_zero, List.getElem?_cons_succ, List.set_cons_zero, List.set_cons_succ, Option.some.injEq, V.int.injEq, V.ref.injEq, V.bl.injEq, V.str.injEq, List.cons.injEq, reduceCtorEq, and_true, true_and, and_assoc, exists_eq_left', exists_eq_left, exists_eq_right, exists_and_left, exists_and_right, false_and, and_false, or_false, false_or, exists_const, exists_false, if_false, if_true, eq_self, wipe, tYes, Bool.false_eq_true,  scal, decide_eq_true_eq, Bool.not_eq_true', decide_eq_false_iff_not])
def bWds : B3 := fun v u z H Q _ => ∃ y m d : Int, v = .int y ∧ u = .int m ∧ z = .int d ∧ 1 ≤ y ∧ y ≤ 999600 ∧ Cal.Spot m d ∧ ∀ H', Same H H' → Q (.bl true) H'
section
variable {P : Program} {w : World} {K : PySem.W.Frag} {mg : Str → Option Value} {base : Heap}
theorem ok_law_weekdays_right (T : Bn mg) (dd : DefIn K mg "_law_weekdays_right" "_law_weekdays_right" s__law_weekdays_right ["_law_year", "_law_month", "_law_day"]) {C : Addr} (M : MoCls K C) (h_Moment : HasM P w K mg base CX0 4 C [] (sp6 (bInit C))) (h_Moment3 : HasM P w K mg base CX0 4 C [.int 0, .int 0] (sp6 (bInit C))) (gm : mg "Moment" = some (.ref C)) (c_Moment : ConstIn mg "Moment" (.ref C)) (h_is_date : HasS P w K mg base CX0 4 C "is_date" (sp3 bIsDate)) : Has P w K mg base CX0 6 "_law_weekdays_right" ["_law_year", "_law_month", "_law_day"] (sp3 bWds) := by
  refine has_of dd sc__law_weekdays_right (fun vs H Q E h => by obtain ⟨x0, x1, x2, rfl, _⟩ := h; rfl) (fun f cdv A outer s H vs Q E hr h => ?_)
  obtain ⟨_, _, _, rfl, h⟩ := h
  refine ⟨_, Evl.pss_cut (ps_set (i := 3) sc__law_weekdays_right.nd rfl (Or.inl rfl) (pe_lst pa_nil))
      (Evl.pss_cut (ps_for PassesOwn.never rfl (pi_range2 (by rfl) T.b_range (pa_cons (pv 0) (pa_cons (pe_op op_add (pv 0) (pe_int)) pa_nil))) (pg_name (i := 4) sc__law_weekdays_right.nd rfl (Or.inl rfl)) (pss_one (ps_if (pt_val (pe_smethH (pe_globC c_Moment (by rfl)) h_is_date hr pass0 (pa_cons (pv 4) (pa_cons (pv 1) (pa_cons (pv 2) pa_nil))))) (pss_one (ps_expr (pe_bm PySem.F.plainAttrs_list PySem.F.slot_list_append PySem.F.type_list_append mt_append (pv 3) (pa_cons (pe_fld (pe_makeH h_Moment3 gm hr pass0 (pa_cons (pv 4) (pa_cons (pv 1) (pa_cons (pv 2) pa_nil)))) rfl) pa_nil)))) (pss_nil))))
      (Evl.pss_cut (ps_set (i := 5) sc__law_weekdays_right.nd rfl (Or.inl rfl) (pe_ifExp (pt_cmpR (op_neD hr.units) (pe_lst (pa_cons (pv 1) (pa_cons (pv 2) pa_nil))) (pe_lst (pa_cons (pe_int) (pa_cons (pe_int) pa_nil))) (nomark _)) (pe_int) (pe_int)))
      (pss_one (ps_ret (pe_and (pe_cmpR op_eq (pe_callB call_len_seq (by rfl) T.b_len PySem.boot_len (pa_cons (pv 3) pa_nil)) (pv 5) (nomark _)) (pe_one (pe_cmpR (op_eqD hr.units) (pe_callB (cr_sortedSet rfl) (by rfl) T.b_sorted (by decide +kernel) (pa_cons (pe_callTy (cr_setOfI rfl) (by rfl) T.b_set (by decide +kernel) (pa_cons (pv 3) pa_nil)) pa_nil)) (pe_lst (pa_cons (pe_int) (pa_cons (pe_int) (pa_cons (pe_int) (pa_cons (pe_int) (pa_cons (pe_int) (pa_cons (pe_int) (pa_cons (pe_int) pa_nil)))))))) (nomark _)))))))), ?_⟩
  obtain ⟨y, m, d, rfl, rfl, rfl, h1, h2, hs, q⟩ := h
  have sm := hs.m
  refine st_gen fun N1 hN1 => ?_
  walk_at "rs"
  refine ⟨by decide, fun l hl => hN1 _ _ ?_⟩
  have s0 := same_new (o := .lst []) hl
  have e0 : upd H l (.lst []) l = some (.lst []) := upd_same
  generalize upd H l (.lst []) = H0 at s0 e0 ⊢
  have b62 : (2 : Int) ^ 62 = 4611686018427387904 := by decide
  refine st_cut (fun σ H2 => ∃ v4 : Option V, σ = [some (.int y), some (.int m), some (.int d), some (.ref l), v4, none] ∧ Same H H2 ∧ H2 l = some (.lst ((wdl y m d 400).map V.int))) ?_ (fun σ H2 hM => ?_)
  · refine ⟨_, rfl, _, rfl, _, _, rfl, rfl, y, y + 400, rfl, ⟨by rw [b62]; omega, by rw [b62]; omega, by rw [b62]; omega, by rw [b62]; omega⟩, ?_⟩
    rw [show (y + 400 - y).toNat = 400 by omega]
    refine for_range (lo := y) (n := 400) (fun i σ H2 => ∃ v4 : Option V, σ = [some (.int y), some (.int m), some (.int d), some (.ref l), v4, none] ∧ Same H H2 ∧ H2 l = some (.lst ((wdl y m d i).map V.int))) ?_ ?_ ?_
    · exact ⟨none, rfl, s0, e0⟩
    · rintro i σ H2 hi ⟨v4, rfl, s2, e2⟩
      walk_at "rs"
      refine ⟨_, _, _, rfl, _, _, _, rfl, rfl, rfl, _, rfl, ?_⟩
      by_cases c : isDt (y + (i : Int)) m d = true
      · rw [if_pos c]
        have v : Cal.Valid (y + (i : Int)) m d := by
          unfold isDt at c
          exact (decide_eq_true_iff.mp c : 1 ≤ y + (i : Int) ∧ y + (i : Int) ≤ 999999 ∧ 1 ≤ m ∧ m ≤ 12 ∧ 1 ≤ d ∧ d ≤ Cal.ml (y + (i : Int)) m)
        refine ⟨.inl ⟨rfl, _, SqL.of e2⟩, fun x dx hx hdx ne => ?_⟩
        refine ⟨_, _, _, _, _, _, rfl, x, dx, ⟨y + (i : Int), m, d, 0, 0⟩, rfl, rfl, rfl, rfl, rfl, rfl, okDate v, upd_same, fun H3 h3 b3 => ⟨rfl, ?_⟩⟩
        have s3 : Same H2 H3 := fun b o e => b3 b o (same_make hx hdx _ _ e) (ne_of_none e hx)
        refine ⟨C, dx, _, h3, M.cl, M.at_ _ (by decide +kernel), _, mo_wd, _, s3 _ _ e2, ?_, same_own (s2.trans s3) hl, ?_⟩
        · rw [List.length_map]
          exact Nat.lt_of_le_of_lt (Nat.le_trans (wdl_le y m d i) (show i ≤ 1000 by omega)) (by decide)
        · rw [upd_same, show wdl y m d (i + 1) = wdl y m d i ++ [Cal.dn (y + (i : Int)) m d % 7] from if_pos c, List.map_append]
          rfl
      · rw [if_neg c, show wdl y m d (i + 1) = wdl y m d i from if_neg c]
        exact ⟨s2, e2⟩
    · rintro σ H2 ⟨v4, rfl, s2, e2⟩
      exact ⟨v4, rfl, s2, e2⟩
  · obtain ⟨v4, rfl, s2, e2⟩ := hM
    refine st_gen fun N2 hN2 => ?_
    walk_at "rs"
    refine ⟨by decide, fun p hp => ⟨by decide, fun p1 hp1 => rNe_ints (ns := [m, d]) (ms := [2, 29]) (SqL.of (same_new hp1 _ _ upd_same)) (SqL.of upd_same) ⟨_, rfl, ?_⟩⟩⟩
    have s4 := (s2.trans (same_new (o := .lst [.int m, .int d]) hp)).trans (same_new (o := .lst [.int 2, .int 29]) hp1)
    have e4 := same_new (o := .lst [.int 2, .int 29]) hp1 _ _ (same_new (o := .lst [.int m, .int d]) hp _ _ e2)
    generalize upd (upd H2 p (.lst [.int m, .int d])) p1 (.lst [.int 2, .int 29]) = H4 at s4 e4 ⊢
    have nxt : N2 [some (.int y), some (.int m), some (.int d), some (.ref l), v4, some (.int (if m = 2 ∧ d = 29 then 97 else 400))] H4 := by
      refine hN2 _ _ ?_
      walk_at "rs"
      refine ⟨_, .inl (SqL.of e4), ?_⟩
      rw [if_pos (by rw [List.length_map]; exact wdl_many hs h1 h2)]
      refine ⟨l, wdl y m d 400, rfl, SqL.of e4, Nat.le_trans (wdl_le y m d 400) (by decide), fun ps c hps hc => ?_⟩
      refine ⟨ps, _, c, rfl, upd_same, Nat.lt_of_le_of_lt (hc [0, 1, 2, 3, 4, 5, 6] fun x hx => (wdl_all hs h1 h2 x).mp hx) (by decide), fun ns l2 up hm _ hl2 => ⟨by decide, fun l3 hl3 => ?_⟩⟩
      have en : ns = [0, 1, 2, 3, 4, 5, 6] := rise_eq up (by decide) fun x => (hm x).trans ⟨fun h => (wdl_all hs h1 h2 x).mp (of_decide_eq_true h), fun h => decide_eq_true ((wdl_all hs h1 h2 x).mpr h)⟩
      subst en
      refine rEq_ints (ms := [0, 1, 2, 3, 4, 5, 6]) (SqL.of (same_new hl3 _ _ upd_same)) (SqL.of upd_same) ?_
      rw [decide_eq_true rfl]
      exact q _ (((s4.trans (same_new hps)).trans (same_new hl2)).trans (same_new hl3))
    by_cases c : m = 2 ∧ d = 29
    · rw [if_pos c] at nxt
      rw [decide_eq_true (by rw [c.1, c.2]), if_neg (by decide)]
      exact nxt
    · rw [if_neg c] at nxt
      rw [decide_eq_false (fun z => c ⟨(List.cons.inj z).1, (List.cons.inj (List.cons.inj z).2).1⟩), if_pos (by decide)]
      exact nxt
end
end RB
namespace RB
open PySem PySem.Spec PyProof.Rows L2
local macro_rules | `(tactic| walk_at "lk") => `(tactic| repeat (first | exact look_hit | exact look_nil | refine look_miss (by decide +kernel) ?_))
local macro_rules | `(tactic| walk_at "rs") => `(tactic| try simp only [tAsg, gName, tVar, tC, tOp, rI, rI0, rU, tUn, tIfS, tTest, tB, tRet, tRetN, tDrop, tCal, tCons, tNil, tTup, tLst, tCB, tAnd, tOr, tNot, tAndV, tOrV, tNotV, tIf, tCmp, t2I, rEq, rNe, tNext, tChain, tSl, tPart, tNoPart, tPar, gSub, rSetL, rIxL, rIxT, rSlL, tSMeth, tMak, rOwnC, tFmtSp, tBM, rAppend, tDrop, gTup, gCons, gNil, iList, iTup, iRng1, iRng2, tWhile, tAug, ipI, tFld, sFld, rSum, rIsi, tM1, tM0, rNewStrs, ClX.tCMeth, tMakL, rOwnI, rOwnS, rIxS,
  L2.start, cxK, List.map_cons, List.map_nil, List.length_cons, List.length_nil, Nat.zero_add, Nat.reduceAdd, Nat.reduceSub, List.replicate_succ, List.replicate_zero, List.cons_append, List.nil_append, List.append_nil,
  List.getElem?_cons_zero, List.getElem?_cons_succ, List.set_cons_zero, List.set_cons_succ, Option.some.injEq, V.int.injEq, V.ref.injEq, V.bl.injEq, V.str.injEq, List.cons.injEq, reduceCtorEq, and_true, true_and, and_assoc, exists_eq_left', exists_eq_left, exists_eq_right, exists_and_left, exists_and_right, false_and, and_false, or_false, false_or, exists_const, exists_false, if_false, if_true, eq_self, wipe, tYes, Bool.false_eq_true,  scal, decide_eq_true_eq, Bool.not_eq_true', decide_eq_false_iff_not])
theorem fnG_at {P : Program} {w : World} {K : PySem.W.Frag} {mg : Str → Option Value} {base : Heap} {k : Nat} {x qual : Str} {st : Stmt} {N ps : List Str} {sp : Sp} {f : Addr} {fd : FuncData} (F : Fun K x qual st f fd) (S : FnScope N ps (defScope st)) (len : ∀ vs H Q E, sp vs H Q E → vs.length = ps.length)
    (hbody : ∀ (cdv : Value) (A : Around) (outer : List Env) (s : Shared) (H : Hp) (vs : List V) (Q : VK) (E : XK), A.guards = some [] → Room k (A.deeper (envOfC qual (defScope st) s.heap.objs.size f cdv)) → sp vs H Q E →
      ∃ t, PSs (cxOf CX0 P w K mg base N qual (defScope st) f cdv A outer s H E).nox (defBody st) t ∧ t { nx := fun _ H' => Q .non H', rt := Q } (start N vs) H) : FnG P w K mg base CX0 (k + 1) f fd ps sp := by
  obtain ⟨oc, od, kV, doc, pm, an, cdv, ct, osl, rfl, lk, hcd⟩ := F.ex
  refine fng_of lk hcd S len fun A outer s H vs Q E hg hr hsp => ?_
  obtain ⟨t, h, q⟩ := hbody cdv A outer s H vs Q E hg hr hsp
  exact ⟨t, h.nox, q⟩
def bLaw (K : PySem.W.Frag) : B1 := fun v H Q _ => ∃ (a : Addr) (ns : List Int), v = .ref a ∧ SqL K H a (ns.map V.int) ∧ ∀ H', Q (.bl true) H'
section
variable {P : Program} {w : World} {K : PySem.W.Frag} {mg : Str → Option Value} {base : Heap}
theorem ok_law (T : Bn mg) {f : Addr} {fd : FuncData} (dd : Fun K "law" "law" s_law f fd) {C : Addr} (M : MoCls K C) (h_sub : OwnCmp P w K mg base CX0 7 C "__sub__" (sp2 (bSub C))) (B_sub : OwnT K C .Sub "int") (h_Moment : HasM P w K mg base CX0 4 C [] (sp6 (bInit C))) (h_Moment3 : HasM P w K mg base CX0 4 C [.int 0, .int 0] (sp6 (bInit C))) (gm : mg "Moment" = some (.ref C)) (c_Moment : ConstIn mg "Moment" (.ref C)) (h_earliest : HasS P w K mg base CX0 6 C "earliest" (sp0 (bEarly C))) (h_law_pen : Has P w K mg base CX0 1 "_law_pen" ["_law_script"] (sp1 (bPen K))) (h_law_draw : Has P w K mg base CX0 1 "_law_draw" ["_law_pen_here", "_law_many"] (sp2 bDraw)) (h_law_pick : Has P w K mg base CX0 2 "_law_pick" ["_law_pen_here", "_law_some"] (sp2 (bPick K))) (h_month_length : Has P w K mg base CX0 2 "month_length" ["year", "month"] (sp2 bMl)) (h_is_leap : Has P w K mg base CX0 1 "is_leap" ["year"] (sp1 bLeap)) (h_law_walk_right : Has P w K mg base CX0 8 "_law_walk_right" ["_law_moment", "_law_many"] (sp2 (bWalk C))) (h_law_round_right : Has P w K mg base CX0 8 "_law_round_right" ["_law_moment"] (sp1 (bRound C))) (h_law_weekdays_right : Has P w K mg base CX0 6 "_law_weekdays_right" ["_law_year", "_law_month", "_law_day"] (sp3 bWds)) : FnG P w K mg base CX0 9 f fd ["_law_script"] (sp1 (bLaw K)) := by
  refine fnG_at dd sc_law (fun vs H Q E h => by obtain ⟨x0, rfl, _⟩ := h; rfl) (fun cdv A outer s H vs Q E hg hr h => ?_)
  obtain ⟨_, rfl, h⟩ := h
  refine ⟨_, Evl.pss_cut (ps_set (i := 1) sc_law.nd rfl (Or.inl rfl) (pe_callH h_law_pen hr pass0 (pa_cons (pv 0) pa_nil)))
      (Evl.pss_cut (ps_if (PW.pt (pw_or (pt_cmpR op_ne (pe_fld (pe_smethH0 (pe_globC c_Moment (by rfl)) h_earliest hr pass0) rfl) (pe_int) (nomark _)) (pw_or1 (pt_cmpR op_ne (pe_fld (pe_smethH0 (pe_globC c_Moment (by rfl)) h_earliest hr pass0) rfl) (pe_int) (nomark _))))) (pss_one (ps_ret (pe_bl))) (pss_nil))
      (Evl.pss_cut (ps_for PassesOwn.never rfl (pi_range1 (by rfl) T.b_range (pa_cons (pe_int) pa_nil)) (pg_name (i := 2) sc_law.nd rfl (Or.inl rfl)) (Evl.pss_cut (ps_set (i := 3) sc_law.nd rfl (Or.inr rfl) (pe_callH h_law_pick hr pass0 (pa_cons (pv 1) (pa_cons (pe_lst (pa_cons (pe_int) (pa_cons (pe_int) (pa_cons (pe_int) (pa_cons (pe_int) (pa_cons (pe_op op_add (pe_int) (pe_callH h_law_draw hr pass0 (pa_cons (pv 1) (pa_cons (pe_int) pa_nil)))) (pa_cons (pe_op op_mul (pe_int) (pe_op op_add (pe_int) (pe_callH h_law_draw hr pass0 (pa_cons (pv 1) (pa_cons (pe_int) pa_nil))))) pa_nil))))))) pa_nil))))
      (Evl.pss_cut (ps_par (i := 4) (j := 5) (by rfl) sc_law.nd rfl rfl (by decide) rfl rfl (pa_cons (pe_op op_add (pe_int) (pe_callH h_law_draw hr pass0 (pa_cons (pv 1) (pa_cons (pe_int) pa_nil)))) (pa_cons (pe_op op_add (pe_int) (pe_callH h_law_draw hr pass0 (pa_cons (pv 1) (pa_cons (pe_int) pa_nil)))) pa_nil)) (by rfl))
      (Evl.pss_cut (ps_set (i := 6) sc_law.nd rfl (Or.inl rfl) (pe_makeH h_Moment gm hr pass0 (pa_cons (pv 3) (pa_cons (pv 4) (pa_cons (pv 5) (pa_cons (pe_callH h_law_draw hr pass0 (pa_cons (pv 1) (pa_cons (pe_int) pa_nil))) (pa_cons (pe_callH h_law_draw hr pass0 (pa_cons (pv 1) (pa_cons (pe_int) pa_nil))) pa_nil)))))))
      (Evl.pss_cut (ps_if (PW.pt (pw_or (pt_not (pt_val (pe_callH h_law_walk_right hr pass0 (pa_cons (pv 6) (pa_cons (pe_int) pa_nil))))) (pw_or1 (pt_not (pt_val (pe_callH h_law_round_right hr pass0 (pa_cons (pv 6) pa_nil))))))) (pss_one (ps_ret (pe_bl))) (pss_nil))
      (Evl.pss_cut (ps_set (i := 7) sc_law.nd rfl (Or.inl rfl) (pe_callB (cr_sum rfl) (by rfl) T.b_sum (by decide +kernel) (pa_cons (pe_lc (own := [("_law_one", 8)]) (g := gName 8) (by rfl) sc_law.nd (pi_range2 (by rfl) T.b_range (pa_cons (pe_int) (pa_cons (pe_int) pa_nil))) (blkOk_by (own := [("_law_one", 8)]) (N := ["_law_script", "_law_pen_here", "_law_turn", "_law_year", "_law_month", "_law_day", "_law_made", "_law_days", "_law_one", "_law_spot"]) (sc := defScope s_law) (by decide +kernel)) (fun _ _ _ _ _ => pg_name (i := 8) sc_law.nd rfl (Or.inl rfl)) (fun _ _ _ _ _ => pts_nil) (fun _ _ _ _ _ => (pe_callH h_month_length hr pass0 (pa_cons (pv 3) (pa_cons (pv 8) pa_nil))))) pa_nil)))
      (pss_one (ps_if (PW.pt (pw_or (pt_cmpR op_ne (pv 7) (pe_op op_add (pe_int) (pe_callTy call_int1 (by rfl) T.b_int (by decide +kernel) (pa_cons (pe_callH h_is_leap hr pass0 (pa_cons (pv 3) pa_nil)) pa_nil))) (nomark _)) (pw_or1 (pt_cmpR op_ne (pe_op (op_ownS h_sub B_sub.sf hr (by decide) pass0) (pe_makeH h_Moment3 gm hr pass0 (pa_cons (pe_op op_add (pv 3) (pe_int)) (pa_cons (pe_int) (pa_cons (pe_int) pa_nil)))) (pe_makeH h_Moment3 gm hr pass0 (pa_cons (pv 3) (pa_cons (pe_int) (pa_cons (pe_int) pa_nil))))) (pe_op op_mul (pe_int) (pv 7)) (nomark _))))) (pss_one (ps_ret (pe_bl))) (pss_nil)))))))))
      (Evl.pss_cut (ps_set (i := 9) sc_law.nd rfl (Or.inl rfl) (pe_callH h_law_pick hr pass0 (pa_cons (pv 1) (pa_cons (pe_lst (pa_cons (pe_tup (pa_cons (pe_int) (pa_cons (pe_int) pa_nil))) (pa_cons (pe_tup (pa_cons (pe_int) (pa_cons (pe_int) pa_nil))) (pa_cons (pe_tup (pa_cons (pe_op op_add (pe_int) (pe_callH h_law_draw hr pass0 (pa_cons (pv 1) (pa_cons (pe_int) pa_nil)))) (pa_cons (pe_op op_add (pe_int) (pe_callH h_law_draw hr pass0 (pa_cons (pv 1) (pa_cons (pe_int) pa_nil)))) pa_nil))) (pa_cons (pe_tup (pa_cons (pe_int) (pa_cons (pe_int) pa_nil))) (pa_cons (pe_tup (pa_cons (pe_int) (pa_cons (pe_int) pa_nil))) pa_nil)))))) pa_nil))))
      (pss_one (ps_ret (pe_callH h_law_weekdays_right hr pass0 (pa_cons (pe_op op_add (pe_int) (pe_callH h_law_draw hr pass0 (pa_cons (pv 1) (pa_cons (pe_int) pa_nil)))) (pa_cons (pe_ix ix_tup (pv 9) (pe_int) (fun _ _ => rfl)) (pa_cons (pe_ix ix_tup (pv 9) (pe_int) (fun _ _ => rfl)) pa_nil))))))))), ?_⟩
  obtain ⟨a, ns, rfl, hS, q⟩ := h
  refine st_gen fun N1 hN1 => ?_
  walk_at "rs"
  refine ⟨_, rfl, a, ns, rfl, hS, fun p c H1 P1 s1 hp hc => hN1 _ _ ?_⟩
  refine st_gen fun N2 hN2 => ?_
  walk_at "rs"
  refine ⟨rfl, fun p1 H2 hp1 m1 s2 => ?_⟩
  obtain ⟨d1, e1⟩ := m1
  refine ⟨p1, rfl, C, d1, _, e1, M.cl, M.at_ _ (by decide +kernel), _, mo_wd, rfl, ?_⟩
  rw [if_neg (fun z => z (congrArg V.int (by decide +kernel)))]
  refine ⟨rfl, fun p3 H3 hp3 m3 s3 => ?_⟩
  obtain ⟨d3, e3⟩ := m3
  refine ⟨p3, rfl, C, d3, _, e3, M.cl, M.at_ _ (by decide +kernel), _, mo_num, rfl, ?_⟩
  rw [if_neg (fun z => z (congrArg V.int (by decide +kernel)))]
  have P3 := (P1.keep s2).keep s3
  refine hN2 _ _ ?_
  refine st_cut (fun σ H4 => ∃ v2 v3 v4 v5 v6 v7 v8 v9 : Option V, σ = [some (.ref a), some (.ref p), v2, v3, v4, v5, v6, v7, v8, v9] ∧ PenAt H4 p c 60) ?_ (fun σ H4 hM => ?_)
  · refine ⟨3, rfl, by decide, by decide, for_range (lo := 0) (n := (3 : Int).toNat) (fun i σ H4 => ∃ v2 v3 v4 v5 v6 v7 v8 v9 : Option V, σ = [some (.ref a), some (.ref p), v2, v3, v4, v5, v6, v7, v8, v9] ∧ PenAt H4 p c (20 * i)) ?_ ?_ ?_⟩
    · exact ⟨_, _, _, _, _, _, _, _, rfl, P3⟩
    · rintro i σ H4 hi ⟨v2, v3, v4, v5, v6, v7, v8, v9, rfl, P4⟩
      have hi3 : i < 3 := hi
      show Evl.tCut _ _ _ _ _
      refine st_gen fun N3 hN3 => ?_
      walk_at "rs"
      refine ⟨_, _, rfl, p, c, _, 999000, rfl, rfl, P4, by omega, by decide, by decide, fun r1 H5 a1 b1 P5 B5 => ⟨_, rfl, _, _, rfl, p, c, _, 9980, rfl, rfl, P5, by omega, by decide, by decide, fun r2 H6 a2 b2 P6 B6 => ⟨_, rfl, small_mul (by decide) (by decide), by decide, fun l hl => ?_⟩⟩⟩
      have lp : l ≠ p := fun z => by
        obtain ⟨oo, e⟩ := P6.at
        rw [z, e] at hl
        cases hl
      refine ⟨_, _, rfl, p, c, _, l, _, rfl, rfl, P6.keep (same_new hl), by omega, SqL.of upd_same, lp, by simp, by simp only [List.length_cons, List.length_nil]; omega, fun x H7 hx P7 B7 => hN3 _ _ ?_⟩
      have hx' : ∃ yy : Int, x = .int yy ∧ 1 ≤ yy ∧ yy ≤ 999000 := by
        simp only [List.mem_cons, List.not_mem_nil, or_false] at hx
        rcases hx with rfl | rfl | rfl | rfl | rfl | rfl
        · exact ⟨_, rfl, by decide, by decide⟩
        · exact ⟨_, rfl, by decide, by decide⟩
        · exact ⟨_, rfl, by decide, by decide⟩
        · exact ⟨_, rfl, by decide, by decide⟩
        · exact ⟨_, rfl, by omega, by omega⟩
        · exact ⟨_, rfl, by omega, by omega⟩
      obtain ⟨yy, rfl, y1, y2⟩ := hx'
      refine st_gen fun N4 hN4 => ?_
      walk_at "rs"
      refine ⟨_, _, rfl, p, c, _, 12, rfl, rfl, P7, by omega, by decide, by decide, fun r3 H8 a3 b3 P8 B8 => ⟨_, rfl, _, _, rfl, p, c, _, 28, rfl, rfl, P8, by omega, by decide, by decide, fun r4 H9 a4 b4 P9 B9 => ⟨_, rfl, hN4 _ _ ?_⟩⟩⟩
      refine st_gen fun N5 hN5 => ?_
      walk_at "rs"
      refine ⟨_, _, rfl, p, c, _, 24, rfl, rfl, P9, by omega, by decide, by decide, fun r5 Ha a5 b5 Pa Ba => ⟨_, _, rfl, p, c, _, 60, rfl, rfl, Pa, by omega, by decide, by decide, fun r6 Hb a6 b6 Pb Bb => fun x dx hx hdx ne => ?_⟩⟩
      have vd : Cal.Valid yy (1 + r3) (1 + r4) := ⟨y1, by omega, by omega, by omega, by omega, by have := Cal.ml_bd yy (m := 1 + r3) (by omega) (by omega); omega⟩
      have ok : (Mo.mk yy (1 + r3) (1 + r4) r5 r6).Ok := ⟨vd, a5, by show r5 ≤ 23; omega, a6, by show r6 ≤ 59; omega⟩
      refine ⟨_, _, _, _, _, _, rfl, x, dx, ⟨yy, 1 + r3, 1 + r4, r5, r6⟩, rfl, rfl, rfl, rfl, rfl, rfl, ok, upd_same, fun Hc hc1 bc => ⟨rfl, hN5 _ _ ?_⟩⟩
      have sc : Same Hb Hc := fun b o e => bc b o (same_make hx hdx _ _ e) (ne_of_none e hx)
      have Pc := Pb.keep sc
      have bdn := Cal.dn_hi vd
      have bda := Cal.dA_mono (a := yy + 1) (b := 999001) (by omega) (by omega)
      have bdc : Cal.dA 999001 ≤ 365000000 := by decide
      have nb : (Mo.mk yy (1 + r3) (1 + r4) r5 r6).num + 57600 < 525948672960 := by
        show Cal.dn yy (1 + r3) (1 + r4) * 1440 + r5 * 60 + r6 + 57600 < 525948672960
        omega
      refine st_gen fun N6 hN6 => ?_
      walk_at "rs"
      refine ⟨_, _, rfl, x, _, rfl, rfl, ⟨dx, hc1⟩, ok, nb, fun Hd sd => ⟨_, rfl, ?_⟩⟩
      rw [if_neg (by decide)]
      refine ⟨_, rfl, x, _, rfl, ⟨dx, sd _ _ hc1⟩, ok, y2, fun He se => ⟨_, rfl, ?_⟩⟩
      rw [if_neg (by decide)]
      refine hN6 _ _ ?_
      have Pe := (Pc.keep sd).keep se
      have b62 : (2 : Int) ^ 62 = 4611686018427387904 := by decide
      refine st_gen fun N7 hN7 => ?_
      walk_at "rs"
      refine ⟨1, 13, rfl, by rw [b62]; decide, fun D hD => ?_⟩
      refine lc_range (lo := 1) (n := (13 - 1 : Int).toNat) (fun i H' => H' D = some (.lst ((List.range i).map fun (k : Nat) => V.int (Cal.ml yy (1 + (k : Int))))) ∧ Same He H') ⟨upd_same, same_new hD⟩ (fun i H' hi hP => ?_) (fun Hf hP => ?_)
      · have hi12 : i < 12 := hi
        refine ⟨rfl, ?_⟩
        walk_at "rs"
        refine ⟨_, _, rfl, yy, 1 + (i : Int), rfl, rfl, by omega, by omega, _, hP.1, ?_, ?_, same_own hP.2 hD⟩
        · rw [List.length_map, List.length_range]
          exact small1000 (by omega)
        · rw [upd_same, List.range_succ, List.map_append]
          rfl
      · have e : ((List.range (13 - 1 : Int).toNat).map fun (k : Nat) => V.int (Cal.ml yy (1 + (k : Int)))) = (((List.range (13 - 1 : Int).toNat).map fun (k : Nat) => Cal.ml yy (1 + (k : Int)))).map V.int := by
          rw [List.map_map]
          rfl
        have e2 : (((List.range (13 - 1 : Int).toNat).map fun (k : Nat) => Cal.ml yy (1 + (k : Int)))).sum = 365 + Cal.lp yy := (sum_sm yy _).trans (Cal.sm12 yy)
        have Pf := Pe.keep hP.2
        refine ⟨D, rfl, _, SqL.of (by rw [hP.1, e]), ?_⟩
        rw [e2]
        refine hN7 _ _ ?_
        walk_at "rs"
        refine ⟨_, rfl, yy, rfl, .inr ⟨_, rfl, ?_⟩⟩
        rw [if_neg (fun z => z rfl)]
        intro xa da ha hda nea
        have va : Cal.Valid (yy + 1) 1 1 := ⟨by omega, by omega, by decide, by decide, by decide, by rw [Cal.ml1]; decide⟩
        have vb : Cal.Valid yy 1 1 := ⟨by omega, by omega, by decide, by decide, by decide, by rw [Cal.ml1]; decide⟩
        refine ⟨_, _, _, _, _, _, rfl, xa, da, ⟨yy + 1, 1, 1, 0, 0⟩, rfl, rfl, rfl, rfl, rfl, rfl, okDate va, upd_same, fun Hg hg1 bg => ⟨rfl, fun xb db hb hdb neb => ?_⟩⟩
        have sg : Same Hf Hg := fun b o e => bg b o (same_make ha hda _ _ e) (ne_of_none e ha)
        refine ⟨_, _, _, _, _, _, rfl, xb, db, ⟨yy, 1, 1, 0, 0⟩, rfl, rfl, rfl, rfl, rfl, rfl, okDate vb, upd_same, fun Hh hh1 bh => ⟨rfl, ?_⟩⟩
        have sh : Same Hg Hh := fun b o e => bh b o (same_make hb hdb _ _ e) (ne_of_none e hb)
        have dif : (Mo.mk (yy + 1) 1 1 0 0).num - (Mo.mk yy 1 1 0 0).num = 1440 * (365 + Cal.lp yy) := by
          have z := Cal.dA_succ yy
          show (Cal.dA (yy + 1) + 0 + 1 - 1) * 1440 + 0 * 60 + 0 - ((Cal.dA yy + 0 + 1 - 1) * 1440 + 0 * 60 + 0) = _
          omega
        refine ⟨⟨da, _, sh _ _ hg1⟩, ⟨db, _, hh1⟩, _, _, rfl, xa, _, rfl, ⟨da, sh _ _ hg1⟩, .inr ⟨xb, _, rfl, ⟨db, hh1⟩, small_mul (by decide) (by decide), rfl, ?_⟩⟩
        rw [if_neg (fun z => z (congrArg V.int dif))]
        exact ((Pf.keep sg).keep sh).mono (by omega)
    · rintro σ H4 ⟨v2, v3, v4, v5, v6, v7, v8, v9, rfl, P4⟩
      exact ⟨_, _, _, _, _, _, _, _, rfl, P4.mono (by decide)⟩
  · obtain ⟨v2, v3, v4, v5, v6, v7, v8, v9, rfl, P4⟩ := hM
    refine st_gen fun N3 hN3 => ?_
    walk_at "rs"
    refine ⟨by decide, fun t1 ht1 => ⟨by decide, fun t2 ht2 => ?_⟩⟩
    have u1 : upd H4 t1 (.tup [.int 2, .int 29]) t1 = some (.tup [.int 2, .int 29]) := upd_same
    have w1 := same_new (o := .tup [.int 2, .int 29]) ht1
    have w2 := same_new (o := .tup [.int 2, .int 29]) ht2
    have u2 : upd (upd H4 t1 (.tup [.int 2, .int 29])) t2 (.tup [.int 2, .int 29]) t2 = some (.tup [.int 2, .int 29]) := upd_same
    have P5 := (P4.keep w1).keep w2
    have u12 := w2 _ _ u1
    generalize upd (upd H4 t1 (.tup [.int 2, .int 29])) t2 (.tup [.int 2, .int 29]) = H5 at u2 P5 u12 ⊢
    refine ⟨_, _, rfl, p, c, _, 12, rfl, rfl, P5, by omega, by decide, by decide, fun r1 H6 a1 b1 P6 B6 => ⟨_, rfl, _, _, rfl, p, c, _, 28, rfl, rfl, P6, by omega, by decide, by decide, fun r2 H7 a2 b2 P7 B7 => ⟨_, rfl, by decide, fun t3 ht3 => ⟨by decide, fun t4 ht4 => ⟨by decide, fun t5 ht5 => ⟨by decide, fun l hl => ?_⟩⟩⟩⟩⟩⟩
    have np : ∀ {t : Addr}, (H5 t = some (.tup [.int 2, .int 29])) → t ≠ p := fun e z => by
      obtain ⟨⟨_, _, _, e2, _⟩⟩ := P5
      rw [z, e2] at e
      cases e
    have v1 := B7 _ _ (B6 _ _ u12 (np u12)) (np u12)
    have v2' := B7 _ _ (B6 _ _ u2 (np u2)) (np u2)
    have w3 := same_new (o := .tup [.int (1 + r1), .int (1 + r2)]) ht3
    have w4 := same_new (o := .tup [.int 12, .int 31]) ht4
    have w5 := same_new (o := .tup [.int 3, .int 30]) ht5
    have w6 := same_new (o := .lst [.ref t1, .ref t2, .ref t3, .ref t4, .ref t5]) hl
    have lp : l ≠ p := fun z => by
      obtain ⟨oo, e⟩ := (((P7.keep w3).keep w4).keep w5).at
      rw [z, e] at hl
      cases hl
    have x1 := w6 _ _ (w5 _ _ (w4 _ _ (w3 _ _ v1)))
    have x2 := w6 _ _ (w5 _ _ (w4 _ _ (w3 _ _ v2')))
    have x3 := w6 _ _ (w5 _ _ (w4 _ _ (upd_same (H := H7) (a := t3) (o := .tup [.int (1 + r1), .int (1 + r2)]))))
    have x4 := w6 _ _ (w5 _ _ (upd_same (a := t4) (o := .tup [.int 12, .int 31])))
    have x5 := w6 _ _ (upd_same (a := t5) (o := .tup [.int 3, .int 30]))
    have P8 := (((P7.keep w3).keep w4).keep w5).keep w6
    refine ⟨_, _, rfl, p, c, _, l, _, rfl, rfl, P8, by omega, SqL.of upd_same, lp, by simp, by simp only [List.length_cons, List.length_nil]; omega, fun x H8 hx P9 B9 => hN3 _ _ ?_⟩
    have hx' : ∃ (t : Addr) (m d : Int), x = .ref t ∧ H8 t = some (.tup [.int m, .int d]) ∧ Cal.Spot m d := by
      have nq : ∀ {H' : Hp} {t : Addr} {xs : List V}, PenAt H' p c 100 → H' t = some (.tup xs) → t ≠ p := fun P e z => by
        obtain ⟨⟨_, _, _, e2, _⟩⟩ := P
        rw [z, e2] at e
        cases e
      have P8' := P8.mono (m := 100) (by decide)
      simp only [List.mem_cons, List.not_mem_nil, or_false] at hx
      rcases hx with rfl | rfl | rfl | rfl | rfl
      · exact ⟨_, _, _, rfl, B9 _ _ x1 (nq P8' x1), .inr (.inr (.inr ⟨rfl, rfl⟩))⟩
      · exact ⟨_, _, _, rfl, B9 _ _ x2 (nq P8' x2), .inr (.inr (.inr ⟨rfl, rfl⟩))⟩
      · exact ⟨_, _, _, rfl, B9 _ _ x3 (nq P8' x3), .inl (by omega)⟩
      · exact ⟨_, _, _, rfl, B9 _ _ x4 (nq P8' x4), .inr (.inl ⟨rfl, rfl⟩)⟩
      · exact ⟨_, _, _, rfl, B9 _ _ x5 (nq P8' x5), .inr (.inr (.inl ⟨rfl, rfl⟩))⟩
    obtain ⟨t, m, d, rfl, et, sp⟩ := hx'
    have tp : t ≠ p := fun z => by
      obtain ⟨⟨_, _, _, e2, _⟩⟩ := P9
      rw [z, e2] at et
      cases et
    walk_at "rs"
    refine ⟨_, _, rfl, p, c, _, 999600, rfl, rfl, P9, by omega, by decide, by decide, fun r7 Ha a7 b7 Pa Ba => ⟨_, rfl, ?_⟩⟩
    have et2 := Ba _ _ et tp
    refine ⟨_, SqT.of et2, _, rfl, _, SqT.of et2, _, rfl, ?_⟩
    exact ⟨_, _, _, rfl, 1 + r7, m, d, rfl, rfl, rfl, by omega, by omega, sp, fun H' _ => q H'⟩
end
end RB
namespace RB
open PySem PySem.Spec PyProof.Rows L2
/-- a tuple behind a name -/
def TupCo (K : PySem.W.Frag) (x : Str) (xs : List V) : Prop := ∃ (a : Addr) (o : Obj) (its : Array Value) (n : Nat), PySem.W.nsIn K mainGlobals x = some (some (.ref a)) ∧ K.lookup a = some o ∧ o.cls = .type "tuple" ∧ o.data = .seq its n ∧ its.size ≤ sizeLine ∧ Vals xs its.toList
theorem TupCo.mk {K : PySem.W.Frag} {x : Str} {xs : List V} {a : Addr} {o : Obj} {its : Array Value} {n : Nat} (h : PySem.W.nsIn K mainGlobals x = some (some (.ref a))) (l : K.lookup a = some o) (c : o.cls = .type "tuple") (e : o.data = .seq its n) (z : its.size ≤ sizeLine) (r : Vals xs its.toList) : TupCo K x xs := ⟨a, o, its, n, h, l, c, e, z, r⟩
theorem TupCo.to {K : PySem.W.Frag} {mg : Str → Option Value} {h : Heap} {x : Str} {xs : List V} (d : TupCo K x xs) (X : K.In h) (G : h.Ns mainGlobals mg) : ∃ a, ConstIn mg x (.ref a) ∧ ∀ H, SqT K H a xs := by
  obtain ⟨a, o, its, n, e, r⟩ := d
  exact ⟨a, ⟨_, PySem.W.mg_of X G e, rfl⟩, fun H => .inr ⟨o, its, n, r⟩⟩
theorem all_mk {l : PySem.W.OpenLaw} {w : World} {K : PySem.W.Frag} {h : Heap} {mg : Str → Option Value} {fa C : Addr} (X : K.In h) (G : h.Ns mainGlobals mg) (hfa : mg "law" = some (.ref fa))
    (aC : PySem.W.nsIn K mainGlobals "Moment" = some (some (.ref C)))
    (d_is_whole : DefAt K "is_whole" "is_whole" s_is_whole)
    (d_is_between : DefAt K "is_between" "is_between" s_is_between)
    (d_is_leap : DefAt K "is_leap" "is_leap" s_is_leap)
    (d_month_length : DefAt K "month_length" "month_length" s_month_length)
    (d_days_ahead : DefAt K "days_ahead" "days_ahead" s_days_ahead)
    (d_day_number : DefAt K "day_number" "day_number" s_day_number)
    (d_date_of : DefAt K "date_of" "date_of" s_date_of)
    (d_weekday_of : DefAt K "weekday_of" "weekday_of" s_weekday_of)
    (d_wrong_part : DefAt K "wrong_part" "wrong_part" s_wrong_part)
    (d_number_in : DefAt K "number_in" "number_in" s_number_in)
    (d_date_in : DefAt K "date_in" "date_in" s_date_in)
    (d_time_in : DefAt K "time_in" "time_in" s_time_in)
    (d_moment_at : DefAt K "moment_at" "moment_at" s_moment_at)
    (d_law_pen : DefAt K "_law_pen" "_law_pen" s__law_pen)
    (d_law_draw : DefAt K "_law_draw" "_law_draw" s__law_draw)
    (d_law_pick : DefAt K "_law_pick" "_law_pick" s__law_pick)
    (d_law_next : DefAt K "_law_next" "_law_next" s__law_next)
    (d_law_walk_right : DefAt K "_law_walk_right" "_law_walk_right" s__law_walk_right)
    (d_law_round_right : DefAt K "_law_round_right" "_law_round_right" s__law_round_right)
    (d_law_weekdays_right : DefAt K "_law_weekdays_right" "_law_weekdays_right" s__law_weekdays_right)
    (d_law : DefAt K "law" "law" s_law)
    (d_Moment_eq : MethAt K C "__eq__" "Moment.__eq__" s_Moment_eq)
    (d_Moment_str : MethAt K C "__str__" "Moment.__str__" s_Moment_str)
    (d_Moment_add : MethAt K C "__add__" "Moment.__add__" s_Moment_add)
    (d_Moment_sub : MethAt K C "__sub__" "Moment.__sub__" s_Moment_sub)
    (d_Moment_earliest : StatAt K C "earliest" "Moment.earliest" s_Moment_earliest)
    (d_Moment_is_date : StatAt K C "is_date" "Moment.is_date" s_Moment_is_date)
    (d_Moment_read : ClsmAt K C "read" "Moment.read" s_Moment_read)
    (d_init : InitAt K C "Moment.__init__" s_Moment_init [.int 0, .int 0])
    (v_year : CvAt K C "MOST_YEAR" (.int 999999))
    (c_ROUND_YEARS : CoAt K "ROUND_YEARS" (.int 400))
    (c_ROUND_DAYS : CoAt K "ROUND_DAYS" (.int 146097))
    (c_DAY_MINUTES : CoAt K "DAY_MINUTES" (.int 1440))
    (c_DIGITS : CoAt K "DIGITS" (.str "0123456789"))
    (t_LENGTHS : TupCo K "LENGTHS" (Cal.LEN.map V.int))
    (z_int : PySem.W.nsIn K mainGlobals "int" = some none)
    (z_list : PySem.W.nsIn K mainGlobals "list" = some none)
    (z_len : PySem.W.nsIn K mainGlobals "len" = some none)
    (z_abs : PySem.W.nsIn K mainGlobals "abs" = some none)
    (z_range : PySem.W.nsIn K mainGlobals "range" = some none)
    (z_sum : PySem.W.nsIn K mainGlobals "sum" = some none)
    (z_str : PySem.W.nsIn K mainGlobals "str" = some none)
    (z_isinstance : PySem.W.nsIn K mainGlobals "isinstance" = some none)
    (z_bool : PySem.W.nsIn K mainGlobals "bool" = some none)
    (z_max : PySem.W.nsIn K mainGlobals "max" = some none)
    (z_repr : PySem.W.nsIn K mainGlobals "repr" = some none)
    (z_tuple : PySem.W.nsIn K mainGlobals "tuple" = some none)
    (z_all : PySem.W.nsIn K mainGlobals "all" = some none)
    (z_any : PySem.W.nsIn K mainGlobals "any" = some none)
    (z_set : PySem.W.nsIn K mainGlobals "set" = some none)
    (z_sorted : PySem.W.nsIn K mainGlobals "sorted" = some none)
    (z_min : PySem.W.nsIn K mainGlobals "min" = some none)
    (pg : PySem.W.plainGet K C Str.empty = true)
    (hd : PySem.W.hasDictIn K C = true)
    (po : PySem.W.plainOver K C = true)
    (sa : PySem.W.findIn K (.ref C) "__setattr__" = some (some (.builtin "object.__setattr__")))
    (n_year : PySem.W.findIn K (.ref C) "year" = some none)
    (n_month : PySem.W.findIn K (.ref C) "month" = some none)
    (n_day : PySem.W.findIn K (.ref C) "day" = some none)
    (n_hour : PySem.W.findIn K (.ref C) "hour" = some none)
    (n_minute : PySem.W.findIn K (.ref C) "minute" = some none)
    (n_date : PySem.W.findIn K (.ref C) "date" = some none)
    (n_weekday : PySem.W.findIn K (.ref C) "weekday" = some none)
    (n_number : PySem.W.findIn K (.ref C) "number" = some none)
    (ca : PySem.W.findIn K (.ref C) "__class__" = some (some (.builtin "object.__class__")))
    (cn : PySem.W.specialIn K (.builtin "object.__class__") "__get__" = some (some (.builtin "getset_descriptor.__get__")))
    (ct : PySem.W.takesIn K (.builtin "object.__class__") = some true)
    (cm : PySem.W.mroIn K C (.type "object") = some true)
    (kI : PySem.W.kitOne K (.ref C) (.ref C) = some true)
    (nF : PySem.W.notFirst K C (.ref C) = true)
    (ne : PySem.W.findIn K (.ref C) "__ne__" = some (some (.builtin "object.__ne__")))
    (k_int : PySem.W.kitOne K (.type "int") (.ref C) = some false)
    (B_add : OwnT K C .Add "int")
    (B_sub : OwnT K C .Sub "int") :
    ∃ fd : FuncData, (∀ (s : Shared) (v : Value), BindsTo s fd ⟨[v], []⟩ [("_law_script", v)]) ∧ ∀ base : Heap, K.In base → base.Ns mainGlobals mg → FnG l.prog w K mg base CX0 9 fa fd ["_law_script"] (sp1 (bLaw K)) := by
  have T : Bn mg := ⟨PySem.W.mg_none_of X G z_int, PySem.W.mg_none_of X G z_list, PySem.W.mg_none_of X G z_len, PySem.W.mg_none_of X G z_abs, PySem.W.mg_none_of X G z_range, PySem.W.mg_none_of X G z_sum, PySem.W.mg_none_of X G z_str, PySem.W.mg_none_of X G z_isinstance, PySem.W.mg_none_of X G z_bool, PySem.W.mg_none_of X G z_max, PySem.W.mg_none_of X G z_repr, PySem.W.mg_none_of X G z_tuple, PySem.W.mg_none_of X G z_all, PySem.W.mg_none_of X G z_any, PySem.W.mg_none_of X G z_set, PySem.W.mg_none_of X G z_sorted, PySem.W.mg_none_of X G z_min⟩
  have cl : Cls K C := ⟨pg, hd, po, sa⟩
  have at_ : ∀ x ∈ (["year", "month", "day", "hour", "minute", "date", "weekday", "number"] : List Str), NoAttr K C x := by
    intro x hx
    simp only [List.mem_cons, List.not_mem_nil, or_false] at hx
    rcases hx with rfl | rfl | rfl | rfl | rfl | rfl | rfl | rfl
    · exact n_year
    · exact n_month
    · exact n_day
    · exact n_hour
    · exact n_minute
    · exact n_date
    · exact n_weekday
    · exact n_number
  have M : MoCls K C := ⟨cl, at_, ca, cn, ct, cm, kI, nF⟩
  have gm := PySem.W.mg_of X G aC
  have cM : ConstIn mg "Moment" (.ref C) := ⟨_, gm, rfl⟩
  have cY := c_ROUND_YEARS.to X G
  have cD := c_ROUND_DAYS.to X G
  have cN := c_DAY_MINUTES.to X G
  have cG := c_DIGITS.to X G
  obtain ⟨aL, cL, hL⟩ := t_LENGTHS.to X G
  obtain ⟨f, oc, od, kV, doc, pm, an, cdv, ct', osl, a, lf, cf, kf⟩ := d_law
  cases hfa.symm.trans (PySem.W.mg_of X G a)
  refine ⟨PySem.W.fnOf "law" "law" (defArgs s_law) (defBody s_law) (defScope s_law) .none kV doc pm an cdv ct', fun s v => .of_eq rfl, fun base _ _ => ?_⟩
  have h_law_pen := ok_law_pen (P := l.prog) (w := w) (base := base) T (d_law_pen.to X G bd__law_pen)
  have h_law_draw := ok_law_draw (P := l.prog) (w := w) (base := base) T (d_law_draw.to X G bd__law_draw)
  have h_law_pick := ok_law_pick (P := l.prog) (w := w) (base := base) T (d_law_pick.to X G bd__law_pick) h_law_draw
  have h_is_whole := ok_is_whole (P := l.prog) (w := w) (base := base) T (d_is_whole.to X G bd_is_whole)
  have h_is_between := ok_is_between (P := l.prog) (w := w) (base := base) T (d_is_between.to X G bd_is_between) h_is_whole
  have h_is_leap := ok_is_leap (P := l.prog) (w := w) (base := base) T (d_is_leap.to X G bd_is_leap)
  have h_month_length := ok_month_length (P := l.prog) (w := w) (base := base) T (d_month_length.to X G bd_month_length) h_is_leap cL hL
  have h_days_ahead := ok_days_ahead (P := l.prog) (w := w) (base := base) T (d_days_ahead.to X G bd_days_ahead)
  have h_day_number := ok_day_number (P := l.prog) (w := w) (base := base) T (d_day_number.to X G bd_day_number) h_days_ahead h_month_length
  have h_date_of := ok_date_of (P := l.prog) (w := w) (base := base) T (d_date_of.to X G bd_date_of) h_days_ahead h_month_length cY cD
  have h_weekday_of := ok_weekday_of (P := l.prog) (w := w) (base := base) T (d_weekday_of.to X G bd_weekday_of)
  have h_wrong_part := ok_wrong_part (P := l.prog) (w := w) (base := base) T (d_wrong_part.to X G bd_wrong_part) h_is_between h_month_length cM v_year
  have h_number_in := ok_number_in (P := l.prog) (w := w) (base := base) T (d_number_in.to X G bd_number_in) cG
  have h_date_in := ok_date_in (P := l.prog) (w := w) (base := base) T (d_date_in.to X G bd_date_in) h_number_in h_wrong_part
  have h_time_in := ok_time_in (P := l.prog) (w := w) (base := base) T (d_time_in.to X G bd_time_in) h_number_in h_wrong_part
  have h_Moment_init := ok_Moment_init (P := l.prog) (w := w) (base := base) T d_init cl at_ h_wrong_part h_day_number h_weekday_of cN
  have h_moment_at := ok_moment_at (P := l.prog) (w := w) (base := base) T (d_moment_at.to X G bd_moment_at) cM h_is_between h_days_ahead h_date_of h_Moment_init.six v_year cN gm
  have h_Moment_eq := ok_Moment_eq (P := l.prog) (w := w) (base := base) T d_Moment_eq M cM
  have h_Moment_str := ok_Moment_str (P := l.prog) (w := w) (base := base) T d_Moment_str M
  have h_Moment_earliest := ok_Moment_earliest (P := l.prog) (w := w) (base := base) T d_Moment_earliest h_Moment_init.four gm
  have h_Moment_is_date := ok_Moment_is_date (P := l.prog) (w := w) (base := base) T d_Moment_is_date h_wrong_part
  have h_Moment_add := ok_Moment_add (P := l.prog) (w := w) (base := base) T d_Moment_add h_moment_at M
  have h_Moment_sub := ok_Moment_sub (P := l.prog) (w := w) (base := base) T d_Moment_sub h_moment_at M cM k_int
  have h_Moment_read := ok_Moment_read (P := l.prog) (w := w) (base := base) T d_Moment_read h_date_in h_time_in h_Moment_init.six
  have h_law_next := ok_law_next (P := l.prog) (w := w) (base := base) T (d_law_next.to X G bd__law_next) M h_month_length
  have h_law_walk_right := ok_law_walk_right (P := l.prog) (w := w) (base := base) T (d_law_walk_right.to X G bd__law_walk_right) M ⟨ne, cm⟩ h_Moment_eq h_Moment_str h_Moment_add h_Moment_sub B_add B_sub cM h_Moment_read h_law_next
  have h_law_round_right := ok_law_round_right (P := l.prog) (w := w) (base := base) T (d_law_round_right.to X G bd__law_round_right) M ⟨ne, cm⟩ h_Moment_eq h_Moment_str h_Moment_add h_Moment_sub B_add B_sub
  have h_law_weekdays_right := ok_law_weekdays_right (P := l.prog) (w := w) (base := base) T (d_law_weekdays_right.to X G bd__law_weekdays_right) M h_Moment_init.six h_Moment_init.four gm cM h_Moment_is_date
  exact ok_law T (fun_mk lf cf kf) M h_Moment_sub B_sub h_Moment_init.six h_Moment_init.four gm cM h_Moment_earliest h_law_pen h_law_draw h_law_pick h_month_length h_is_leap h_law_walk_right h_law_round_right h_law_weekdays_right
end RB
set_option pp.oneline true
set_option pp.maxSteps 100
open PySem PySem.W PyProof.Rows
set_option maxRecDepth 100000 in
set_option maxHeartbeats 0 in
theorem PySem.Challenge.cw_rungback_k06_whole_the_calendar_comes_ro_holds : PySem.Challenge.rw_rungback_k06_whole_the_calendar_comes_ro.Holds := by
  w_on; o_law; k_head; (case hw => w_witness2)
  k_fill
  refine RB.walk_ofG (l := PySem.Challenge.rw_rungback_k06_whole_the_calendar_comes_ro) (n := 63) (k := 9) (x := "_law_script") (sp := fun w => RB.sp1 (RB.bLaw _)) rfl (by decide) rfl ⟨rfl, by decide, by decide⟩ (fun w h Y => PySem.W.kIn_of Y) ?F (fun w H a ns _ _ hS => ⟨_, rfl, a, ns, rfl, hS, fun _ => rfl⟩)
  case F =>
    intro w mg fa h KX G hmg
    refine' RB.all_mk KX G hmg ?aC ?d_is_whole ?d_is_between ?d_is_leap ?d_month_length ?d_days_ahead ?d_day_number ?d_date_of ?d_weekday_of ?d_wrong_part ?d_number_in ?d_date_in ?d_time_in ?d_moment_at ?d_law_pen ?d_law_draw ?d_law_pick ?d_law_next ?d_law_walk_right ?d_law_round_right ?d_law_weekdays_right ?d_law ?d_Moment_eq ?d_Moment_str ?d_Moment_add ?d_Moment_sub ?d_Moment_earliest ?d_Moment_is_date ?d_Moment_read ?d_init ?v_year ?c_ROUND_YEARS ?c_ROUND_DAYS ?c_DAY_MINUTES ?c_DIGITS ?t_LENGTHS ?z_int ?z_list ?z_len ?z_abs ?z_range ?z_sum ?z_str ?z_isinstance ?z_bool ?z_max ?z_repr ?z_tuple ?z_all ?z_any ?z_set ?z_sorted ?z_min ?pg ?hd ?po ?sa ?n_year ?n_month ?n_day ?n_hour ?n_minute ?n_date ?n_weekday ?n_number ?ca ?cn ?ct ?cm ?kI ?nF ?ne ?k_int ?B_add ?B_sub
    (case aC => k_is)
    (case d_is_whole => refine' RB.DefAt.mk ?a ?l ?c ?k; (case a => k_is); (case l => k_is); (case c => k_is); (case k => k_is))
    (case d_is_between => refine' RB.DefAt.mk ?a ?l ?c ?k; (case a => k_is); (case l => k_is); (case c => k_is); (case k => k_is))
    (case d_is_leap => refine' RB.DefAt.mk ?a ?l ?c ?k; (case a => k_is); (case l => k_is); (case c => k_is); (case k => k_is))
    (case d_month_length => refine' RB.DefAt.mk ?a ?l ?c ?k; (case a => k_is); (case l => k_is); (case c => k_is); (case k => k_is))
    (case d_days_ahead => refine' RB.DefAt.mk ?a ?l ?c ?k; (case a => k_is); (case l => k_is); (case c => k_is); (case k => k_is))
    (case d_day_number => refine' RB.DefAt.mk ?a ?l ?c ?k; (case a => k_is); (case l => k_is); (case c => k_is); (case k => k_is))
    (case d_date_of => refine' RB.DefAt.mk ?a ?l ?c ?k; (case a => k_is); (case l => k_is); (case c => k_is); (case k => k_is))
    (case d_weekday_of => refine' RB.DefAt.mk ?a ?l ?c ?k; (case a => k_is); (case l => k_is); (case c => k_is); (case k => k_is))
    (case d_wrong_part => refine' RB.DefAt.mk ?a ?l ?c ?k; (case a => k_is); (case l => k_is); (case c => k_is); (case k => k_is))
    (case d_number_in => refine' RB.DefAt.mk ?a ?l ?c ?k; (case a => k_is); (case l => k_is); (case c => k_is); (case k => k_is))
    (case d_date_in => refine' RB.DefAt.mk ?a ?l ?c ?k; (case a => k_is); (case l => k_is); (case c => k_is); (case k => k_is))
    (case d_time_in => refine' RB.DefAt.mk ?a ?l ?c ?k; (case a => k_is); (case l => k_is); (case c => k_is); (case k => k_is))
    (case d_moment_at => refine' RB.DefAt.mk ?a ?l ?c ?k; (case a => k_is); (case l => k_is); (case c => k_is); (case k => k_is))
    (case d_law_pen => refine' RB.DefAt.mk ?a ?l ?c ?k; (case a => k_is); (case l => k_is); (case c => k_is); (case k => k_is))
    (case d_law_draw => refine' RB.DefAt.mk ?a ?l ?c ?k; (case a => k_is); (case l => k_is); (case c => k_is); (case k => k_is))
    (case d_law_pick => refine' RB.DefAt.mk ?a ?l ?c ?k; (case a => k_is); (case l => k_is); (case c => k_is); (case k => k_is))
    (case d_law_next => refine' RB.DefAt.mk ?a ?l ?c ?k; (case a => k_is); (case l => k_is); (case c => k_is); (case k => k_is))
    (case d_law_walk_right => refine' RB.DefAt.mk ?a ?l ?c ?k; (case a => k_is); (case l => k_is); (case c => k_is); (case k => k_is))
    (case d_law_round_right => refine' RB.DefAt.mk ?a ?l ?c ?k; (case a => k_is); (case l => k_is); (case c => k_is); (case k => k_is))
    (case d_law_weekdays_right => refine' RB.DefAt.mk ?a ?l ?c ?k; (case a => k_is); (case l => k_is); (case c => k_is); (case k => k_is))
    (case d_law => refine' RB.DefAt.mk ?a ?l ?c ?k; (case a => k_is); (case l => k_is); (case c => k_is); (case k => k_is))
    (case d_Moment_eq => refine' RB.MethAt.mk ?a ?i ?l ?c ?k; (case a => k_is); (case i => k_is); (case l => k_is); (case c => k_is); (case k => k_is))
    (case d_Moment_str => refine' RB.MethAt.mk ?a ?i ?l ?c ?k; (case a => k_is); (case i => k_is); (case l => k_is); (case c => k_is); (case k => k_is))
    (case d_Moment_add => refine' RB.MethAt.mk ?a ?i ?l ?c ?k; (case a => k_is); (case i => k_is); (case l => k_is); (case c => k_is); (case k => k_is))
    (case d_Moment_sub => refine' RB.MethAt.mk ?a ?i ?l ?c ?k; (case a => k_is); (case i => k_is); (case l => k_is); (case c => k_is); (case k => k_is))
    (case d_Moment_earliest => refine' RB.StatAt.mk ?t ?rd ?ga ?gA ?rc ?l ?c ?k; (case t => k_is); (case rd => k_is); (case ga => k_is); (case gA => k_is); (case rc => k_is); (case l => k_is); (case c => k_is); (case k => k_is))
    (case d_Moment_is_date => refine' RB.StatAt.mk ?t ?rd ?ga ?gA ?rc ?l ?c ?k; (case t => k_is); (case rd => k_is); (case ga => k_is); (case gA => k_is); (case rc => k_is); (case l => k_is); (case c => k_is); (case k => k_is))
    (case d_Moment_read => refine' RB.ClsmAt.mk ?t ?rd ?ga ?gA ?rc ?fi ?l ?c ?k; (case t => k_is); (case rd => k_is); (case ga => k_is); (case gA => k_is); (case rc => k_is); (case fi => k_is); (case l => k_is); (case c => k_is); (case k => k_is))
    (case d_init => refine' RB.InitAt.mk ?a ?i ?l ?c ?k ?mk ?kc ?lT ?oT ?rT; (case a => k_is); (case i => k_is); (case l => k_is); (case c => k_is); (case k => k_is); (case mk => k_is); (case kc => k_is); (case lT => k_is); (case oT => rfl); (case rT => exact .cons ⟨_, rfl⟩ (.cons ⟨_, rfl⟩ .nil)))
    (case v_year => refine' RB.CvAt.mk ?t ?rd ?ga ?gA ?r; (case t => k_is); (case rd => k_is); (case ga => k_is); (case gA => k_is); (case r => exact ⟨_, rfl⟩))
    (case c_ROUND_YEARS => refine' RB.CoAt.mk ?a ?r; (case a => k_is); (case r => exact ⟨_, rfl⟩))
    (case c_ROUND_DAYS => refine' RB.CoAt.mk ?a ?r; (case a => k_is); (case r => exact ⟨_, rfl⟩))
    (case c_DAY_MINUTES => refine' RB.CoAt.mk ?a ?r; (case a => k_is); (case r => exact ⟨_, rfl⟩))
    (case c_DIGITS => refine' RB.CoAt.mk ?a ?r; (case a => k_is); (case r => exact ⟨_, rfl⟩))
    (case t_LENGTHS => refine' RB.TupCo.mk ?a ?l ?c ?e ?z ?r; (case a => k_is); (case l => k_is); (case c => rfl); (case e => rfl); (case z => decide); (case r => exact .cons ⟨_, rfl⟩ (.cons ⟨_, rfl⟩ (.cons ⟨_, rfl⟩ (.cons ⟨_, rfl⟩ (.cons ⟨_, rfl⟩ (.cons ⟨_, rfl⟩ (.cons ⟨_, rfl⟩ (.cons ⟨_, rfl⟩ (.cons ⟨_, rfl⟩ (.cons ⟨_, rfl⟩ (.cons ⟨_, rfl⟩ (.cons ⟨_, rfl⟩ (.nil))))))))))))))
    (case z_int => k_is)
    (case z_list => k_is)
    (case z_len => k_is)
    (case z_abs => k_is)
    (case z_range => k_is)
    (case z_sum => k_is)
    (case z_str => k_is)
    (case z_isinstance => k_is)
    (case z_bool => k_is)
    (case z_max => k_is)
    (case z_repr => k_is)
    (case z_tuple => k_is)
    (case z_all => k_is)
    (case z_any => k_is)
    (case z_set => k_is)
    (case z_sorted => k_is)
    (case z_min => k_is)
    (case pg => k_is)
    (case hd => k_is)
    (case po => k_is)
    (case sa => k_is)
    (case n_year => k_is)
    (case n_month => k_is)
    (case n_day => k_is)
    (case n_hour => k_is)
    (case n_minute => k_is)
    (case n_date => k_is)
    (case n_weekday => k_is)
    (case n_number => k_is)
    (case ca => k_is)
    (case cn => k_is)
    (case ct => k_is)
    (case cm => k_is)
    (case kI => kit_is)
    (case nF => k_is)
    (case ne => k_is)
    (case k_int => kit_is)
    (case B_add => refine' RB.OwnT.of ?sf ?r ?rk ?l ?t ?su; (case sf => k_is); (case r => k_is); (case rk => first | exact .inl rfl | exact .inr ⟨_, rfl⟩); (case l => k_is); (case t => k_is); (case su => k_is))
    (case B_sub => refine' RB.OwnT.of ?sf ?r ?rk ?l ?t ?su; (case sf => k_is); (case r => k_is); (case rk => first | exact .inl rfl | exact .inr ⟨_, rfl⟩); (case l => k_is); (case t => k_is); (case su => k_is))
