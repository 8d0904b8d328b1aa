import PyProof.Rows.All
import Wide.All
import OpenK.AllK
import Wide.FinOn
import PyProof.EqAt
import PyProof.EqKinds
import PyProof.TupleCall
import HandS.ForMost
import HandS.IsInst
import HandS.Star
import HandS.ClsMeth
import HandS.Property
import HandS.Defaults
import HandS.Wide
import HandS.FStr
import HandS.SlotsOwn
import KE.KMethU
import KE.KCallOwn
import PyProof.Rows.NestShow
import PyProof.FString3
import PyProof.Rows.StrIntSpec
import HandS.Evl
import KE.RegKIsAll
import PySem.Challenge.RW_rungback_k05_moments_in_order
set_option Elab.async false
set_option linter.all false
set_option maxRecDepth 100000
set_option maxHeartbeats 4000000
namespace Cal
/-! ### the calendar in plain Lean -/
def LEN : List Int := [31, 28, 31, 30, 31, 30, 31, 31, 30, 31, 30, 31]
def leap (y : Int) : Bool := decide (y % 4 = 0) && (!decide (y % 100 = 0) || decide (y % 400 = 0))
def lp (y : Int) : Int := if leap y = true then 1 else 0
def ml (y m : Int) : Int := LEN.getD (m - 1).toNat 0 + (if m = 2 ∧ leap y = true then 1 else 0)
def dA (y : Int) : Int := 365 * (y - 1) + (y - 1) / 4 - (y - 1) / 100 + (y - 1) / 400
/-- the days of the first n months -/
def sm (y : Int) : Nat → Int
  | 0 => 0
  | n + 1 => sm y n + ml y (n + 1)
def dn (y m d : Int) : Int := dA y + sm y (m - 1).toNat + d - 1
theorem leap_iff (y : Int) : leap y = true ↔ y % 4 = 0 ∧ (y % 100 ≠ 0 ∨ y % 400 = 0) := by
  unfold leap
  simp only [Bool.and_eq_true, Bool.or_eq_true, decide_eq_true_eq, Bool.not_eq_true', decide_eq_false_iff_not]
theorem lp_cases (y : Int) : (lp y = 1 ∧ y % 4 = 0 ∧ (y % 100 ≠ 0 ∨ y % 400 = 0)) ∨ (lp y = 0 ∧ ¬ (y % 4 = 0 ∧ (y % 100 ≠ 0 ∨ y % 400 = 0))) := by
  unfold lp
  by_cases h : leap y = true
  · rw [if_pos h]; exact .inl ⟨rfl, (leap_iff y).mp h⟩
  · rw [if_neg h]; exact .inr ⟨rfl, fun z => h ((leap_iff y).mpr z)⟩
theorem dA_succ (y : Int) : dA (y + 1) = dA y + 365 + lp y := by
  unfold dA
  rcases lp_cases y with ⟨e, h1, h2⟩ | ⟨e, h⟩
  · rw [e]; omega
  · rw [e]; omega
theorem dA_one : dA 1 = 0 := by decide
theorem lp_nn (y : Int) : 0 ≤ lp y ∧ lp y ≤ 1 := by rcases lp_cases y with ⟨e, _⟩ | ⟨e, _⟩ <;> rw [e] <;> omega
theorem dA_lo (y : Int) (h : 1 ≤ y) : y - 1 ≤ dA y := by unfold dA; omega
theorem dA_mono {a b : Int} (h : a ≤ b) (h1 : 1 ≤ a) : dA a ≤ dA b := by unfold dA; omega
theorem dA_lt {a b : Int} (h1 : 1 ≤ a) (h2 : 1 ≤ b) (h : dA a < dA b) : a < b := by
  by_cases c : a < b
  · exact c
  · have := dA_mono (a := b) (b := a) (by omega) h2; omega
theorem dA_last : dA 1000000 = 365242134 := by decide
theorem ml1 (y : Int) : ml y 1 = 31 := by unfold ml LEN; simp
theorem ml2 (y : Int) : ml y 2 = 28 + lp y := by unfold ml LEN lp; simp
theorem ml3 (y : Int) : ml y 3 = 31 := by unfold ml LEN; simp
theorem ml4 (y : Int) : ml y 4 = 30 := by unfold ml LEN; simp
theorem ml5 (y : Int) : ml y 5 = 31 := by unfold ml LEN; simp
theorem ml6 (y : Int) : ml y 6 = 30 := by unfold ml LEN; simp
theorem ml7 (y : Int) : ml y 7 = 31 := by unfold ml LEN; simp
theorem ml8 (y : Int) : ml y 8 = 31 := by unfold ml LEN; simp
theorem ml9 (y : Int) : ml y 9 = 30 := by unfold ml LEN; simp
theorem ml10 (y : Int) : ml y 10 = 31 := by unfold ml LEN; simp
theorem ml11 (y : Int) : ml y 11 = 30 := by unfold ml LEN; simp
theorem ml12 (y : Int) : ml y 12 = 31 := by unfold ml LEN; simp
theorem m_cases {P : Int → Prop} {m : Int} (h1 : 1 ≤ m) (h2 : m ≤ 12) (a1 : P 1) (a2 : P 2) (a3 : P 3) (a4 : P 4) (a5 : P 5) (a6 : P 6) (a7 : P 7) (a8 : P 8) (a9 : P 9) (a10 : P 10) (a11 : P 11) (a12 : P 12) : P m := by
  have : m = 1 ∨ m = 2 ∨ m = 3 ∨ m = 4 ∨ m = 5 ∨ m = 6 ∨ m = 7 ∨ m = 8 ∨ m = 9 ∨ m = 10 ∨ m = 11 ∨ m = 12 := by omega
  rcases this with h | h | h | h | h | h | h | h | h | h | h | h <;> rw [h] <;> assumption
theorem ml_bd (y : Int) {m : Int} (h1 : 1 ≤ m) (h2 : m ≤ 12) : 28 ≤ ml y m ∧ ml y m ≤ 31 := by
  have l := lp_nn y
  refine m_cases (P := fun m => 28 ≤ ml y m ∧ ml y m ≤ 31) h1 h2 ?_ ?_ ?_ ?_ ?_ ?_ ?_ ?_ ?_ ?_ ?_ ?_ <;>
    simp only [ml1, ml2, ml3, ml4, ml5, ml6, ml7, ml8, ml9, ml10, ml11, ml12] <;> omega
theorem sm12 (y : Int) : sm y 12 = 365 + lp y := by
  have e : ∀ n : Nat, sm y (n + 1) = sm y n + ml y (n + 1) := fun _ => rfl
  rw [e 11, e 10, e 9, e 8, e 7, e 6, e 5, e 4, e 3, e 2, e 1, e 0]
  show (0 : Int) + ml y 1 + ml y 2 + ml y 3 + ml y 4 + ml y 5 + ml y 6 + ml y 7 + ml y 8 + ml y 9 + ml y 10 + ml y 11 + ml y 12 = _
  rw [ml1, ml2, ml3, ml4, ml5, ml6, ml7, ml8, ml9, ml10, ml11, ml12]
  omega
theorem sm_succ (y : Int) {m : Int} (h : 1 ≤ m) : sm y (m + 1 - 1).toNat = sm y (m - 1).toNat + ml y m := by
  obtain ⟨n, e⟩ : ∃ n : Nat, m = n + 1 := ⟨(m - 1).toNat, by omega⟩
  subst e
  have e1 : ((n : Int) + 1 + 1 - 1).toNat = n + 1 := by omega
  have e2 : ((n : Int) + 1 - 1).toNat = n := by omega
  rw [e1, e2]
  rfl
theorem sm_nn (y : Int) : ∀ n : Nat, n ≤ 12 → 0 ≤ sm y n
  | 0, _ => Int.le_refl _
  | n + 1, h => by
    have a := sm_nn y n (by omega)
    have b := ml_bd y (m := (n : Int) + 1) (by omega) (by omega)
    show 0 ≤ sm y n + ml y (n + 1)
    omega
theorem sm_mono (y : Int) {a : Nat} : ∀ {b : Nat}, a ≤ b → b ≤ 12 → sm y a ≤ sm y b
  | 0, h, _ => by
    have e : a = 0 := by omega
    subst e
    exact Int.le_refl _
  | b + 1, h, h2 => by
    by_cases c : a = b + 1
    · subst c; exact Int.le_refl _
    · have i := sm_mono y (a := a) (b := b) (by omega) (by omega)
      have m := ml_bd y (m := (b : Int) + 1) (by omega) (by omega)
      show sm y a ≤ sm y b + ml y (b + 1)
      omega
/-- a date -/
def Valid (y m d : Int) : Prop := 1 ≤ y ∧ y ≤ 999999 ∧ 1 ≤ m ∧ m ≤ 12 ∧ 1 ≤ d ∧ d ≤ ml y m
theorem dn_lo {y m d : Int} (v : Valid y m d) : 0 ≤ dn y m d := by
  obtain ⟨h1, h2, h3, h4, h5, h6⟩ := v
  have a := dA_lo y h1
  have b := sm_nn y (m - 1).toNat (by omega)
  unfold dn
  omega
theorem dn_hi {y m d : Int} (v : Valid y m d) : dn y m d < dA (y + 1) := by
  obtain ⟨h1, h2, h3, h4, h5, h6⟩ := v
  have a := sm_succ y h3
  have e : (m + 1 - 1).toNat = m.toNat := by omega
  rw [e] at a
  have b := sm_mono y (a := m.toNat) (b := 12) (by omega) (by omega)
  rw [sm12] at b
  have c := dA_succ y
  unfold dn
  omega
theorem dn_hi2 {y m d : Int} (v : Valid y m d) : dn y m d < 365242134 := by
  have a := dn_hi v
  have b := dA_mono (a := y + 1) (b := 1000000) (by have := v.2.1; omega) (by have := v.1; omega)
  rw [dA_last] at b
  omega
end Cal
namespace RB
open PySem PySem.Spec PyProof.Rows L2
/-! ### promises by the number of their arguments -/
abbrev B1 := V → Hp → VK → XK → Prop
abbrev B2 := V → V → Hp → VK → XK → Prop
abbrev B3 := V → V → V → Hp → VK → XK → Prop
abbrev B4 := V → V → V → V → Hp → VK → XK → Prop
abbrev B5 := V → V → V → V → V → Hp → VK → XK → Prop
abbrev B6 := V → V → V → V → V → V → Hp → VK → XK → Prop
abbrev sp0 (b : Hp → VK → XK → Prop) : Sp := fun vs H Q E => vs = [] ∧ b H Q E
abbrev sp1 (b : B1) : Sp := fun vs H Q E => ∃ x, vs = [x] ∧ b x H Q E
abbrev sp2 (b : B2) : Sp := fun vs H Q E => ∃ x y, vs = [x, y] ∧ b x y H Q E
abbrev sp3 (b : B3) : Sp := fun vs H Q E => ∃ x y z, vs = [x, y, z] ∧ b x y z H Q E
abbrev sp4 (b : B4) : Sp := fun vs H Q E => ∃ x y z u, vs = [x, y, z, u] ∧ b x y z u H Q E
abbrev sp5 (b : B5) : Sp := fun vs H Q E => ∃ x y z u v, vs = [x, y, z, u, v] ∧ b x y z u v H Q E
abbrev sp6 (b : B6) : Sp := fun vs H Q E => ∃ x y z u v w, vs = [x, y, z, u, v, w] ∧ b x y z u v w H Q E
section
variable (P : Program) (w : World) (K : PySem.W.Frag) (mg : Str → Option Value) (base : Heap) (CX : CXT)
/-- a def of the module by its name keeps a promise -/
def Has (k : Nat) (x : Str) (ps : List Str) (sp : Sp) : Prop :=
  ∃ (f : Addr) (fd : FuncData), FnOk P w K mg base CX k f fd ps sp ∧ mg x = some (.ref f) ∧ PySem.W.keepIn K (.ref f) = true ∧ Binds K fd ps []
/-- a def of the text stands behind its name -/
def DefIn (x qual : Str) (st : Stmt) (ps : List Str) : Prop :=
  ∃ (f : Addr) (fd : FuncData), Fun K x qual st f fd ∧ mg x = some (.ref f) ∧ Binds K fd ps []
end
section
variable {P : Program} {w : World} {K : PySem.W.Frag} {mg : Str → Option Value} {base : Heap} {CX : CXT}
theorem Has.of {k : Nat} {x : Str} {ps : List Str} {sp : Sp} {f : Addr} {fd : FuncData} {qual : Str} {st : Stmt} (F : Fun K x qual st f fd) (gm : mg x = some (.ref f)) (b : Binds K fd ps [])
    (h : FnOk P w K mg base CX k f fd ps sp) : Has P w K mg base CX k x ps sp := ⟨f, fd, h, gm, F.kp, b⟩
/-- THE RULE for a def of the module, without exceptions -/
theorem has_of {k : Nat} {x qual : Str} {st : Stmt} {N ps : List Str} {sp : Sp} (d : DefIn K mg x qual st ps) (S : FnScope N ps (defScope st)) (len : ∀ vs H Q E, sp vs H Q E → vs.length = ps.length)
    (hbody : ∀ (f : Addr) (cdv : Value) (A : Around) (outer : List Env) (s : Shared) (H : Hp) (vs : List V) (Q : VK) (E : XK), Room k (A.deeper (envOfC qual (defScope st) s.heap.objs.size f cdv)) → sp vs H Q E →
      ∃ t, PSs (cxOf CX0 P w K mg base N qual (defScope st) f cdv A outer s H E).nox (defBody st) t ∧ t { nx := fun _ H' => Q .non H', rt := Q } (start N vs) H) : Has P w K mg base CX0 (k + 1) x ps sp := by
  obtain ⟨f, fd, F, gm, b⟩ := d
  exact ⟨f, fd, F.ok S len (fun cdv A outer s H vs Q E hr h => hbody f cdv A outer s H vs Q E hr h), gm, F.kp, b⟩
theorem Has.imp {k : Nat} {x : Str} {ps : List Str} {sp sp' : Sp} (h : Has P w K mg base CX k x ps sp) (i : ∀ vs H Q E, sp' vs H Q E → sp vs H Q E) : Has P w K mg base CX k x ps sp' := by
  obtain ⟨f, fd, F, r⟩ := h
  exact ⟨f, fd, F.imp i, r⟩
end
/-- a call's reading -/
def tCal (sp : Sp) (E : XK) (t : TA) : TE := fun σ H Q => t σ H fun vs H1 => sp vs H1 Q E
section
variable {X : Cx} {CX : CXT} {k j : Nat} {x : Str} {ps : List Str} {sp : Sp} {E : XK} {p pos : Pos} {e : Expr} {es : List Expr} {t : TA}
theorem pe_callH (h : Has X.prog X.w X.K X.mg X.base CX j x ps sp) (hr : Room k X.A) (hx : Passes CX X E) (ha : PA X (e :: es) t) (hj : j ≤ k := by decide) (hg : Gl X x := by rfl) (hdb : (x == ("__debug__" : Str)) = false := by decide)
    (he : starEach (e :: es) X.env = (false, eval e X.env) :: starEach es X.env := by rfl) (hpl : (backTo pos (starEach es X.env)).any (·.1) = false := by rfl) : PE X (.Call (.Name x p) (e :: es) [] pos) (tCal sp E t) := by
  obtain ⟨f, fd, F, gm, kp, b⟩ := h
  have z := pe_call (pos := pos) (p := p) F (hr.mono hj) hg gm kp b .nil hx ha hdb he hpl
  refine ⟨fun pins s σ H Q I hq => z.run pins s σ H Q I ?_⟩
  show t σ H fun vs H1 => sp (vs ++ []) H1 Q E
  simp only [List.append_nil]
  exact hq
theorem pe_callH0 (h : Has X.prog X.w X.K X.mg X.base CX j x ps sp) (hr : Room k X.A) (hx : Passes CX X E) (hj : j ≤ k := by decide) (hg : Gl X x := by rfl) (hdb : (x == ("__debug__" : Str)) = false := by decide) :
    PE X (.Call (.Name x p) [] [] pos) (tCal sp E tNil) := by
  obtain ⟨f, fd, F, gm, kp, b⟩ := h
  have z := pe_call0 (pos := pos) (p := p) F (hr.mono hj) hg gm kp b .nil hx hdb
  exact ⟨fun pins s σ H Q I hq => z.run pins s σ H Q I hq⟩
/-- a constant of the module -/
def ConstIn (mg : Str → Option Value) (x : Str) (v : V) : Prop := ∃ u, mg x = some u ∧ RelV v u
theorem pe_globC {v : V} (h : ConstIn X.mg x v) (hg : Gl X x) (hd : (x == ("__debug__" : Str)) = false := by decide) : PE X (.Name x pos) (tC v) := by
  obtain ⟨u, hm, r⟩ := h
  exact pe_glob hg hm r hd
end
/-! ### a def that runs where nothing is being shown (repr wants it): A.guards = some [] -/
structure FnG (P : Program) (w : World) (K : PySem.W.Frag) (mg : Str → Option Value) (base : Heap) (CX : CXT) (k : Nat) (f : Addr) (fd : FuncData) (ps : List Str) (sp : Sp) : Prop where
  len : ∀ vs H Q E, sp vs H Q E → vs.length = ps.length
  run : ∀ (A : Around) (outer : List Env) (s : Shared) (H : Hp) (args : Args) (us : List Value) (vs : List V) (Q : VK) (E : XK),
    A.guards = some [] → Room k A → Env0 P w K mg base A outer s H → BindsTo s fd args (ps.zip us) → Vals vs us → sp vs H Q E →
    codeAny (model P w) A (.call (.ref f) args) (CR CX outer P w H s Q E) s
theorem guards_deeper {A : Around} {env : Env} (h : A.guards = some []) : (A.deeper env).guards = some [] := h
end RB
namespace RB
open PySem PySem.Spec PyProof.Rows L2
/-! ### static methods, asked of the class -/
structure SMet (K : PySem.W.Frag) (C : Addr) (mc : Value) (m : Str) (p g : Addr) : Prop where
  rd : PySem.W.readsIn K C mc = true
  ga : PySem.W.specialIn K (.ref C) "__getattribute__" = some (some (.builtin "type.__getattribute__"))
  at_ : PySem.W.findCls K (.ref C) mc m = some (.get (.builtin "staticmethod.__get__") (.ref p) .none (.ref C))
  rc : ∃ rest, PySem.W.recIn K p "staticmethod" = some (.ref g :: rest)
  kp : PySem.W.keepIn K (.ref g) = true
def tSMeth (C : Addr) (sp : Sp) (E : XK) (ta : TE) (t : TA) : TE := fun σ H Q => ta σ H fun x H1 => x = .ref C ∧ t σ H1 fun vs H2 => sp vs H2 Q E
section
variable {X : Cx} {pins : List (Addr × Obj)} {σ : L2.St} {H : Hp} {s : Shared} {C p g : Addr} {mc : Value} {m : Str} {A : Around} {E' : Value → Shared → Prop}
theorem getsm_ok {pl : Sem Bool} {Q : Value × List Value → Shared → Prop} (I : Inv X pins σ H s) (r : SMet X.K C mc m p g) (h : ∀ s', Inv X pins σ H s' → Q (.ref g, []) s') :
    wpAny (model X.prog X.w) A (getMethod (.ref C) m pl) Q E' s := by
  obtain ⟨rest, hp⟩ := r.rc
  refine PySem.W.method_cls I.kIn r.ga (PySem.W.cls_bind I.kIn r.rd r.at_ ?_)
  exact wpAny_call (PySem.W.sm_get (s := { s with toks := s.toks + 1 }) I.kIn hp (PySem.W.handed_on rfl (h _ (I.tok _))))
end
section
variable {X : Cx} {CX : CXT} {k j : Nat} {C p g : Addr} {mc : Value} {fd : FuncData} {ps : List Str} {sp : Sp} {E : XK} {o e : Expr} {es : List Expr} {m : Str} {pos apos : Pos} {ta : TE} {t : TA} {pl : Sem Bool}
theorem pe_smeth (he : PE X o ta) (r : SMet X.K C mc m p g) (F : FnOk X.prog X.w X.K X.mg X.base CX j g fd ps sp) (b : Binds X.K fd ps []) (hr : Room k X.A) (hj : j ≤ k) (hx : Passes CX X E) (ha : PA X (e :: es) t)
    (hst : starEach (e :: es) X.env = (false, eval e X.env) :: starEach es X.env := by rfl) (hpl : (backTo pos (starEach es X.env)).any (·.1) = false := by rfl)
    (ht : eval (.Call (.Attribute o m apos) (e :: es) [] pos) X.env = (do
      let ov ← eval o X.env
      standAt apos.atName
      let (f, first) ← holding [ov] (getMethod ov m pl)
      callWith pos f first (backTo pos (starEach (e :: es) X.env)) (backToKw pos (keywordEach [] X.env))) := by rfl) :
    PE X (.Call (.Attribute o m apos) (e :: es) [] pos) (tSMeth C sp E ta t) := by
  refine ⟨fun pins s σ H Q I h => ?_⟩
  refine PySem.W.methodCall_KW (pl := pl) (thn (he.run pins s σ H _ I h) fun u s1 ⟨x, H1, I1, rx, ex, q⟩ => ?_) ht
  subst ex
  obtain rfl : u = Value.ref C := rx
  refine getsm_ok I1 r fun s2 I2 => ?_
  refine PySem.W.callWith_K (first := []) (h₀ := X.base) I.ok.mod.kin r.kp (thn (ha.run pos pins s2 σ H1 _ I2 q) fun us s3 ⟨vs, H2, I3, rv, q2⟩ => ⟨I3.kIn, ?_⟩) hst hpl
  refine run_fn (us := us) (vs := vs) (F.mono hj) hr b .nil hx I3 rv ?_
  rw [List.append_nil]
  exact q2
theorem pe_smeth0 (he : PE X o ta) (r : SMet X.K C mc m p g) (F : FnOk X.prog X.w X.K X.mg X.base CX j g fd ps sp) (b : Binds X.K fd ps []) (hr : Room k X.A) (hj : j ≤ k) (hx : Passes CX X E)
    (ht : eval (.Call (.Attribute o m apos) [] [] pos) X.env = (do
      let ov ← eval o X.env
      standAt apos.atName
      let (f, first) ← holding [ov] (getMethod ov m pl)
      callWith pos f first (backTo pos (starEach [] X.env)) (backToKw pos (keywordEach [] X.env))) := by rfl) :
    PE X (.Call (.Attribute o m apos) [] [] pos) (tSMeth C sp E ta tNil) := by
  refine ⟨fun pins s σ H Q I h => ?_⟩
  refine PySem.W.methodCall_KW (pl := pl) (thn (he.run pins s σ H _ I h) fun u s1 ⟨x, H1, I1, rx, ex, q⟩ => ?_) ht
  subst ex
  obtain rfl : u = Value.ref C := rx
  refine getsm_ok I1 r fun s2 I2 => ?_
  exact PySem.W.callWith_K0 (first := []) I2.kIn r.kp (run_fn (us := []) (vs := []) (F.mono hj) hr b .nil hx I2 .nil q)
end
/-! ### own comparisons: x an instance whose class has the def, y anything whose type is told -/
structure OwnCmp (P : Program) (w : World) (K : PySem.W.Frag) (mg : Str → Option Value) (base : Heap) (CX : CXT) (k : Nat) (C : Addr) (m : Str) (sp : Sp) : Prop where
  ex : ∃ (g : Addr) (fd : FuncData) (ps : List Str), PySem.W.findIn K (.ref C) m = some (some (.ref g)) ∧ PySem.W.isFn K (.ref g) = true ∧ FnOk P w K mg base CX k g fd ps sp ∧ Binds K fd ps []
theorem looks_ref {M : Model} {h : Heap} {a : Addr} {o : Obj} (e : h.get? a = some o) : PySem.W.Looks M h (typeOf (.ref a)) o.cls := fun _ _ _ _ kp q => wpAny_typeOf_ref (kp _ _ e) q
/-- the type of a value, told as Looks wants it -/
theorem looks_ty {X : Cx} {pins : List (Addr × Obj)} {σ : L2.St} {H : Hp} {s : Shared} {y : V} {u t : Value} (I : Inv X pins σ H s) (ry : RelV y u) (ty : TyX X.K H y t) : PySem.W.Looks (model X.prog X.w) s.heap (typeOf u) t := by
  cases ty with
  | base ty =>
    cases ty with
    | non => cases (show u = Value.none from ry); exact PySem.W.Looks.of_pure rfl
    | bl y => cases (show u = Value.bool y from ry); exact PySem.W.Looks.of_pure rfl
    | int i => obtain ⟨t, q⟩ := (show ∃ t, u = Value.int i t from ry); cases q; exact PySem.W.Looks.of_pure rfl
    | str y => obtain ⟨t, q⟩ := (show ∃ t, u = Value.str y t from ry); cases q; exact PySem.W.Looks.of_pure rfl
    | flt y => obtain ⟨t, q⟩ := (show ∃ t, u = Value.float y t from ry); cases q; exact PySem.W.Looks.of_pure rfl
    | @lst a xs ea =>
      cases (show u = Value.ref a from ry)
      obtain ⟨_, _, n, _, h1⟩ := (show ObjOk X.prog X.w H s.heap a (.lst xs) from I.hok a _ ea)
      exact looks_ref h1
    | @frz a ob xs ea =>
      cases (show u = Value.ref a from ry)
      obtain ⟨_, _, _, n, _, h1⟩ := (show ObjOk X.prog X.w H s.heap a (.frz ob (.lst xs)) from I.hok a _ ea)
      exact looks_ref h1
    | @tup a xs ea =>
      cases (show u = Value.ref a from ry)
      obtain ⟨_, _, _, o, h1, h2, _⟩ := (show ObjOk X.prog X.w H s.heap a (.tup xs) from I.hok a _ ea)
      exact h2 ▸ looks_ref h1
    | @dK a kvs ea =>
      cases (show u = Value.ref a from ry)
      obtain ⟨_, _, vs, _, o, es, ep, h1, h2, _⟩ := (show ObjOk X.prog X.w H s.heap a (.dK kvs) from I.hok a _ ea)
      exact h2.1 ▸ looks_ref h1
    | @dT a kvs ea =>
      cases (show u = Value.ref a from ry)
      obtain ⟨_, _, xs, _, o, es, ep, h1, h2, _⟩ := (show ObjOk X.prog X.w H s.heap a (.dT kvs) from I.hok a _ ea)
      exact h2.1 ▸ looks_ref h1
    | @ins a C dx fs ea cl ha hn htk hm =>
      cases (show u = Value.ref a from ry)
      obtain ⟨mA, O, _⟩ := ins_get I.hok ea
      obtain ⟨od, J, _⟩ := O.look
      exact J.type
  | byt b => obtain ⟨t, q⟩ := (show ∃ t, u = Value.bytes b t from ry); cases q; exact PySem.W.Looks.of_pure rfl
  | @set a S n e =>
    cases (show u = Value.ref a from ry)
    obtain ⟨o, _, _, _, h1, h2, _⟩ := (show ObjOk X.prog X.w H s.heap a (.set S n) from I.hok a _ e)
    exact (show o.cls = Value.type "set" from h2.1) ▸ looks_ref h1
  | @kList a o e c => cases (show u = Value.ref a from ry); exact c ▸ looks_ref (I.kIn a o e)
  | @kTuple a o e c => cases (show u = Value.ref a from ry); exact c ▸ looks_ref (I.kIn a o e)
  | @kDict a o e c => cases (show u = Value.ref a from ry); exact c ▸ looks_ref (I.kIn a o e)
  | @fTuple a ob xs ea =>
    cases (show u = Value.ref a from ry)
    obtain ⟨_, _, _, _, o, h1, h2, _⟩ := (show ObjOk X.prog X.w H s.heap a (.frz ob (.tup xs)) from I.hok a _ ea)
    exact h2 ▸ looks_ref h1
  | @fDict a ob kvs ea =>
    cases (show u = Value.ref a from ry)
    obtain ⟨_, _, _, vs, _, o, es, ep, h1, h2, _⟩ := (show ObjOk X.prog X.w H s.heap a (.frz ob (.dK kvs)) from I.hok a _ ea)
    exact h2.1 ▸ looks_ref h1
/-- x op y by the def of x's class -/
def rOwnC (K : PySem.W.Frag) (C : Addr) (sp : Sp) (E : XK) : R2 := fun x y H Q => ∃ a dx fs t, x = .ref a ∧ H a = some (.ins C dx fs) ∧ TyX K H y t ∧ PySem.W.notFirst K C t = true ∧ sp [x, y] H (fun v H' => (∃ k, v = .bl k) ∧ Q v H') E
theorem op_ownC {X : Cx} {CX : CXT} {op : CmpOp} {k j : Nat} {C : Addr} {sp : Sp} {E : XK} (hop : ∀ a b, compareOp op a b = richCompare op a b) (h : OwnCmp X.prog X.w X.K X.mg X.base CX j C (cmpInfo op).2.1 sp) (hr : Room k X.A) (hj : j ≤ k) (hx : Passes CX X E) :
    OpR X (compareOp op) (rOwnC X.K C sp E) := by
  intro pins s σ H x y v u Q I rx ry hh
  obtain ⟨a, dx, fs, t, rfl, ha, ty, hn, q⟩ := hh
  cases (show v = Value.ref a from rx)
  obtain ⟨mA, O, _⟩ := ins_get I.hok ha
  obtain ⟨od, J, _⟩ := O.look
  obtain ⟨m, hF⟩ := I.fr
  obtain ⟨⟨g, fd, ps, hs, hf, F, b⟩⟩ := h
  rw [hop]
  refine PySem.W.cmp_K (op := op) hr.units0 hF I.ok.mod.kin J (looks_ty I ry ty) hn hs hf ?_
  refine wpAny_mono (run_fn (us := [.ref a, u]) (vs := [.ref a, y]) (F.mono hj) hr b .nil hx I (.cons rfl (.cons ry .nil)) (by rw [List.append_nil]; exact q)) (fun w s' z => ?_) fun _ _ x => x
  obtain ⟨z', H', I', rz, ⟨kk, ek⟩, qz⟩ := z
  subst ek
  cases (show w = Value.bool kk from rz)
  exact ⟨.bl kk, H', I', rfl, qz⟩
section
open PySem.W
variable {prog : Program} {w : World} {M : Model} {A : Around} {E : Value → Shared → Prop} {s : Shared} {K : PySem.W.Frag} {x C f : Addr} {ox : Obj} {od : Option Obj} {b tb : Value}
/-- a special of the class that is a built-in -/
theorem ifBound_B {id : String} {name : Str} {args : List Value} {Q : Option Value → Shared → Prop} (bnd : bindSpecial (.builtin id) (.ref x) = pure (.builtin id, [.ref x])) (X : K.In s.heap) (I : InstAt s.heap x ox C od) (hs : findIn K (.ref C) name = some (some (.builtin id)))
    (h : wpAny M A (call (.builtin id) (.ref x :: args)) (fun v => Q (some v)) E s) : wpAny M A (callSpecialIfBound? (.ref x) name args) Q E s := by
  have fin : wpAny M A (call (.builtin id) ([.ref x] ++ args) >>= fun v => pure (some v)) Q E s := wpAny_bind (wpAny_mono h (fun v s' z => wpAny_pure z) fun _ _ z => z)
  have one := wpAny_of_eq (M := M) (A := A) (E := E) (s := s) bnd (Q := fun p s' => wpAny M A (pure (some p) >>= fun (r : Option (Value × List Value)) => match r with | some (g, first) => (call g (first ++ args) >>= fun v => pure (some v)) | none => pure none) Q E s') (wpAny_bind (wpAny_pure fin))
  simp only [callSpecialIfBound?, bindSpecialIfBound?]
  refine wpAny_holding (wpAny_bind (wpAny_bind (wpAny_bind (I.type.here ((looks_findIn X hs).here (wpAny_bind (wpAny_askSetting (wpAny_ite ?_))))))))
  split
  · exact wpAny_bind (wpAny_of_eq bnd (wpAny_pure (by exact fin)))
  · exact wpAny_tryCatch (wpAny_bind (wpAny_of_eq bnd (wpAny_pure (by exact fin))))
/-- x != y where the class has __eq__ alone -/
theorem ne_own {Q : Value → Shared → Prop}
    (hu : A.units + 1 < cLine) (X : K.In s.heap) (I : InstAt s.heap x ox C od) (hb : Looks (model prog w) s.heap (typeOf b) tb) (hn : notFirst K C tb = true)
    (hne : findIn K (.ref C) "__ne__" = some (some (.builtin "object.__ne__"))) (hm : mroIn K C (.type "object") = some true)
    (hs : findIn K (.ref C) "__eq__" = some (some (.ref f))) (hf : isFn K (.ref f) = true)
    (h : wpAny (model prog w) A.in1 (call (.ref f) [.ref x, b]) (fun v s' => ∃ k, v = .bool k ∧ Q (.bool (!k)) s') E s) : wpAny (model prog w) A (compareOp .NotEq (.ref x) b) Q E s := by
  have core : wpAny (model prog w) A.in1 (Builtin.«object.__ne__» ⟨[.ref x, b], []⟩) (fun r s' => ∃ k, r = .done (.ret (.bool k)) ∧ Q (.bool k) s') E s := by
    unfold Builtin.«object.__ne__»
    have hu1 : A.in1.units < cLine := hu
    repeat (first
      | with_reducible refine wpAny_cRoomFor hu1 ?_
      | (refine wpAny_bind (m := callSpecialIfBound? (.ref x) (Str.ofString "__eq__") [b]) (ifBound_K X I hs hf (wpAny_mono h (fun r s' hr => by
          obtain ⟨k, rfl, hq⟩ := hr
          repeat (first | exact hq | exact ⟨_, rfl, hq⟩ | exact wpAny_pure ⟨_, rfl, hq⟩ | exact wpAny_pure hq | (refine wpAny_bind (m := truthy (.bool _)) (wpAny_truthy_bool ?_)) | wp_step)) fun _ _ e => e)))
      | wp_step)
  have tc : wpAny (model prog w) A (tryCompare (.ref x) "__ne__" b) (fun r s' => ∃ k, r = some (.bool k) ∧ Q (.bool k) s') E s := by
    unfold tryCompare
    refine wpAny_bind (ifBound_B (PySem.F.slot_object_ne.bind _) X I hne (wpAny_call (codeAny_call_builtin PySem.F.slot_object_ne.plain PySem.F.entry_object_ne
      (@PySem.W.check_slot (model prog w) _ _ s "object.__ne__" "object" "__ne__" (.ref x) [b] [] _ (by decide +kernel) (by decide +kernel) (I.type.andThen (looks_mroIn X hm)) (PySem.F.args_object_ne_2 _ _) (wpAny_mono core (fun r s' z => ?_) fun _ _ e => e)))))
    obtain ⟨k, rfl, q⟩ := z
    exact wpAny_pure ⟨k, rfl, q⟩
  unfold compareOp richCompare
  simp only [oneThing_ref]
  refine wpAny_holding (wpAny_bind (wpAny_cRoomFor (Nat.lt_of_succ_lt hu) ?_))
  rw [cmpInfo_NotEq]
  dsimp only
  refine wpAny_bind (I.type.here (wpAny_bind (hb.here ?_)))
  have fin : wpAny (model prog w) A (tryCompare (.ref x) "__ne__" b) (fun r s' => ∃ k, r = some (.bool k) ∧ Q (.bool k) s') E s := tc
  split
  · rename_i q
    have e : subIn K tb (.ref C) = some false := by
      rcases Bool.or_eq_true_iff.mp hn with e | e
      · rw [beq_iff_eq.mp e] at q
        simp at q
      · exact beq_iff_eq.mp e
    refine wpAny_bind ((looks_subIn X e).here ?_)
    simp only [Bool.false_eq_true, if_false]
    refine wpAny_bind (wpAny_mono fin (fun r s' z => ?_) fun _ _ e => e)
    obtain ⟨k, rfl, q⟩ := z
    exact wpAny_pure q
  · refine wpAny_bind (wpAny_pure ?_)
    simp only [Bool.false_eq_true, if_false]
    refine wpAny_bind (wpAny_mono fin (fun r s' z => ?_) fun _ _ e => e)
    obtain ⟨k, rfl, q⟩ := z
    exact wpAny_pure q
end
structure OwnNe (K : PySem.W.Frag) (C : Addr) : Prop where
  ne : PySem.W.findIn K (.ref C) "__ne__" = some (some (.builtin "object.__ne__"))
  mr : PySem.W.mroIn K C (.type "object") = some true
theorem op_neC {X : Cx} {CX : CXT} {k j : Nat} {C : Addr} {sp : Sp} {E : XK} (h : OwnCmp X.prog X.w X.K X.mg X.base CX j C "__eq__" sp) (n : OwnNe X.K C) (hr : Room k X.A) (hj : j + 1 ≤ k) (hx : Passes CX X E) :
    OpR X (compareOp .NotEq) (fun x y H Q => ∃ a dx fs t, x = .ref a ∧ H a = some (.ins C dx fs) ∧ TyX X.K H y t ∧ PySem.W.notFirst X.K C t = true ∧ sp [x, y] H (fun v H' => ∃ k, v = .bl k ∧ Q (.bl (!k)) H') E) := by
  intro pins s σ H x y v u Q I rx ry hh
  obtain ⟨a, dx, fs, t, rfl, ha, ty, hn, q⟩ := hh
  cases (show v = Value.ref a from rx)
  obtain ⟨mA, O, _⟩ := ins_get I.hok ha
  obtain ⟨od, J, _⟩ := O.look
  obtain ⟨⟨g, fd, ps, hs, hf, F, b⟩⟩ := h
  have hr1 : Room j X.A.in1 := (hr.mono hj).in1
  have e0 := I.env0.in1
  have hq : sp ([V.ref a, y] ++ []) H (fun v H' => ∃ k, v = .bl k ∧ Q (.bl (!k)) H') E := by rw [List.append_nil]; exact q
  have hl : ([Value.ref a, u] ++ []).length = ps.length := by
    have z := F.len _ _ _ _ q
    rw [← z]; rfl
  refine ne_own (show X.A.units + 1 < cLine by have := hr.units; omega) I.kIn J (looks_ty I ry ty) hn n.ne n.mr hs hf ?_
  refine wpAny_call (codeAny_mono (F.run X.A.in1 X.stack s H ⟨[.ref a, u], []⟩ ([.ref a, u] ++ []) ([.ref a, y] ++ []) _ E hr1 e0 (b s [.ref a, u] I.kIn hl) (show Vals ([V.ref a, y] ++ []) ([Value.ref a, u] ++ []) from Paired.cons (show RelV (.ref a) (.ref a) from rfl) (Paired.cons ry Paired.nil)) hq) fun r s' hq => ?_)
  cases r with
  | error e => exact hx pins σ H s e s' I hq
  | ok fl =>
    cases fl with
    | ret u' =>
      obtain ⟨z', H', I', rz, kk, ek, qz⟩ := I.after hq
      subst ek
      cases (show u' = Value.bool kk from rz)
      exact ⟨kk, rfl, .bl (!kk), H', I', rfl, qz⟩
    | next => exact False.elim hq
    | brk => exact False.elim hq
    | cont => exact False.elim hq
/-- str(x) by the class's def -/
def rStrC (C : Addr) (sp : Sp) (E : XK) : List V → Hp → VK → Prop := fun xs H Q => ∃ a dx fs, xs = [.ref a] ∧ H a = some (.ins C dx fs) ∧ sp [.ref a] H (fun v H' => (∃ z, v = .str z) ∧ Q v H') E
theorem call_strC {X : Cx} {CX : CXT} {k j : Nat} {C : Addr} {sp : Sp} {E : XK} (h : OwnCmp X.prog X.w X.K X.mg X.base CX j C "__str__" sp) (hr : Room k X.A) (hj : j + 2 ≤ k) (hx : Passes CX X E) : CallR X (.type "str") (rStrC C sp E) := by
  intro pins s σ H xs us Q I r hh
  obtain ⟨a, dx, fs, rfl, ha, q⟩ := hh
  obtain ⟨u, rfl, ru⟩ := r.one
  cases (show u = Value.ref a from ru)
  obtain ⟨mA, O, _⟩ := ins_get I.hok ha
  obtain ⟨od, J, _⟩ := O.look
  obtain ⟨⟨g, fd, ps, hs, hf, F, b⟩⟩ := h
  have hr1 : Room j X.A.in1.in1 := ((hr.mono hj : Room (j + 2) X.A).in1).in1
  have hl : ([Value.ref a] ++ []).length = ps.length := by
    have z := F.len _ _ _ _ q
    rw [← z]; rfl
  refine PySem.W.kso_call (by have := hr.units; show X.A.units + 1 + 1 < cLine; omega) I.kIn J hs hf ?_
  refine wpAny_call (codeAny_mono (F.run X.A.in1.in1 X.stack s H ⟨[.ref a], []⟩ ([.ref a] ++ []) ([.ref a] ++ []) _ E hr1 I.env0.in1.in1 (b s [.ref a] I.kIn hl) (show Vals ([V.ref a] ++ []) ([Value.ref a] ++ []) from Paired.cons (show RelV (.ref a) (.ref a) from rfl) Paired.nil) (by rw [List.append_nil]; exact q)) fun r s' hq => ?_)
  cases r with
  | error e => exact hx pins σ H s e s' I hq
  | ok fl =>
    cases fl with
    | ret u' =>
      obtain ⟨z', H', I', rz, ⟨zz, ez⟩, qz⟩ := I.after hq
      subst ez
      obtain ⟨t, e⟩ := (show ∃ t, u' = Value.str zz t from rz)
      cases e
      exact ⟨.str zz, H', I', ⟨t, rfl⟩, qz⟩
    | next => exact False.elim hq
    | brk => exact False.elim hq
    | cont => exact False.elim hq
end RB
namespace RB
open PySem PySem.Spec PyProof.Rows L2
/-! ### defs that run where nothing is being shown -/
theorem FnG.of {P : Program} {w : World} {K : PySem.W.Frag} {mg : Str → Option Value} {base : Heap} {CX : CXT} {k : Nat} {f : Addr} {fd : FuncData} {ps : List Str} {sp : Sp} (F : FnOk P w K mg base CX k f fd ps sp) : FnG P w K mg base CX k f fd ps sp :=
  ⟨F.len, fun A outer s H args us vs Q E _ hr e0 hb r h => F.run A outer s H args us vs Q E hr e0 hb r h⟩
section
variable {CX : CXT} {P : Program} {w : World} {K : PySem.W.Frag} {mg : Str → Option Value} {base : Heap}
theorem fng_of {k : Nat} {f : Addr} {name qual : Str} {params : Arguments} {body : List Stmt} {scope : Scope} {dV kV doc pm cdv ct oc : Value} {an od : Option Addr} {osl : Array (Option Value)} {N ps : List Str} {sp : Sp}
    (lk : K.lookup f = some ⟨oc, od, .func (PySem.W.fnOf name qual params body scope dV kV doc pm an cdv ct), osl⟩) (hcd : PySem.W.codeIn K cdv qual = true) (S : FnScope N ps scope) (len : ∀ vs H Q E, sp vs H Q E → vs.length = ps.length)
    (hbody : ∀ (A : Around) (outer : List Env) (s : Shared) (H : Hp) (vs : List V) (Q : VK) (E : XK), A.guards = some [] → Room k (A.deeper (envOfC qual scope s.heap.objs.size f cdv)) → sp vs H Q E →
      ∃ t, PSs (cxOf CX P w K mg base N qual scope f cdv A outer s H E) body t ∧ t { nx := fun _ H' => Q .non H', rt := Q } (start N vs) H) :
    FnG P w K mg base CX (k + 1) f (PySem.W.fnOf name qual params body scope dV kV doc pm an cdv ct) ps sp := by
  refine ⟨len, fun A outer s H args us vs Q E hg hr e0 hb r hsp => ?_⟩
  have hl := len _ _ _ _ hsp
  have kp : ∀ b o, base.get? b = some o → s.heap.get? b = some o := fun b o e => (e0.bs b o e).1
  have KX : K.In s.heap := e0.mod.kin.keeps kp
  have kinds : ∀ y ∈ ps.zip us, scope.names.lookup y.1 = some .local ∨ (scope.names.lookup y.1 = some .cell ∧ ((cellsFrom (s.heap.objs.size + 1) scope.names []).lookup y.1).isSome = true) := by
    intro y hy
    have hy1 : y.1 ∈ ps := (List.of_mem_zip (show (y.1, y.2) ∈ ps.zip us from hy)).1
    exact (S.par y.1 hy1).elim (fun q => .inl q) fun q => .inr ⟨q, PySem.W.cellsFrom_some _ _ _ (.inl q)⟩
  refine codeAny_call_function hr.depth (KX _ _ lk) rfl S.co S.gen rfl (PySem.W.codeRec_of KX hcd) (hb _ _ _ _ (wpAny_newFunctionEnv_cells S.kind kinds fun env he s1 x => ?_))
  subst he
  refine ⟨(e0.mod.nolimit.keeps kp).keeps x.toInCall.keep, codeAny_func ?_⟩
  obtain ⟨t, ht, hq⟩ := hbody A outer s H vs Q E hg (hr.deeper _) hsp
  refine wpAny_mono (ht.run [] s1 (start N vs) H _ (inv_start S hr.hd e0 hl r x) hq) (fun fl s' hs => ?_) fun e s' hs => hs
  cases fl with
  | ret u => exact let ⟨v, _, H', J, rv, q⟩ := hs; ⟨v, H', J.os, J.bare, J.base, J.hok, rv, q⟩
  | next => exact let ⟨_, H', J, q⟩ := hs; ⟨V.non, H', J.os, J.bare, J.base, J.hok, rfl, q⟩
  | brk => exact let ⟨_, _, _, q⟩ := hs; False.elim q
  | cont => exact let ⟨_, _, _, q⟩ := hs; False.elim q
def HasG (P : Program) (w : World) (K : PySem.W.Frag) (mg : Str → Option Value) (base : Heap) (CX : CXT) (k : Nat) (x : Str) (ps : List Str) (sp : Sp) : Prop :=
  ∃ (f : Addr) (fd : FuncData), FnG P w K mg base CX k f fd ps sp ∧ mg x = some (.ref f) ∧ PySem.W.keepIn K (.ref f) = true ∧ Binds K fd ps []
theorem hasG_of {k : Nat} {x qual : Str} {st : Stmt} {N ps : List Str} {sp : Sp} (d : DefIn K mg x qual st ps) (S : FnScope N ps (defScope st)) (len : ∀ vs H Q E, sp vs H Q E → vs.length = ps.length)
    (hbody : ∀ (f : Addr) (cdv : Value) (A : Around) (outer : List Env) (s : Shared) (H : Hp) (vs : List V) (Q : VK) (E : XK), A.guards = some [] → Room k (A.deeper (envOfC qual (defScope st) s.heap.objs.size f cdv)) → sp vs H Q E →
      ∃ t, PSs (cxOf CX0 P w K mg base N qual (defScope st) f cdv A outer s H E).nox (defBody st) t ∧ t { nx := fun _ H' => Q .non H', rt := Q } (start N vs) H) : HasG P w K mg base CX0 (k + 1) x ps sp := by
  obtain ⟨f, fd, F, gm, b⟩ := d
  obtain ⟨oc, od, kV, doc, pm, an, cdv, ct, osl, rfl, lk, hcd⟩ := F.ex
  refine ⟨f, _, fng_of lk hcd S len fun A outer s H vs Q E hg hr hsp => ?_, gm, F.kp, b⟩
  obtain ⟨t, h, q⟩ := hbody f cdv A outer s H vs Q E hg hr hsp
  exact ⟨t, h.nox, q⟩
end
section
variable {X : Cx} {CX : CXT} {k j : Nat} {x : Str} {ps : List Str} {sp : Sp} {E : XK} {p pos : Pos} {e : Expr} {es : List Expr} {t : TA}
theorem run_fnG {pins : List (Addr × Obj)} {σ : L2.St} {H : Hp} {s : Shared} {Q : VK} {us : List Value} {vs : List V} {f : Addr} {fd : FuncData} (F : FnG X.prog X.w X.K X.mg X.base CX k f fd ps sp) (hg : X.A.guards = some []) (hr : Room k X.A) (hb : Binds X.K fd ps []) (hx : Passes CX X E)
    (I : Inv X pins σ H s) (r : Vals vs us) (h : sp vs H Q E) : wpAny (model X.prog X.w) X.A (call (.ref f) us) (EP X pins σ Q) X.xe s := by
  have hl : (us ++ []).length = ps.length := by rw [List.append_nil, ← r.length]; exact F.len _ _ _ _ h
  refine wpAny_call (codeAny_mono (F.run X.A X.stack s H ⟨us, []⟩ (us ++ []) vs Q E hg hr I.env0 (hb s us I.kIn hl) (by rw [List.append_nil]; exact r) h) fun r s' hq => ?_)
  cases r with
  | error e => exact hx pins σ H s e s' I hq
  | ok fl => cases fl <;> first | exact I.after hq | exact False.elim hq
theorem pe_callG (h : HasG X.prog X.w X.K X.mg X.base CX j x ps sp) (hG : X.A.guards = some []) (hr : Room k X.A) (hx : Passes CX X E) (ha : PA X (e :: es) t) (hj : j ≤ k := by decide) (hg : Gl X x := by rfl) (hdb : (x == ("__debug__" : Str)) = false := by decide)
    (he : starEach (e :: es) X.env = (false, eval e X.env) :: starEach es X.env := by rfl) (hpl : (backTo pos (starEach es X.env)).any (·.1) = false := by rfl) : PE X (.Call (.Name x p) (e :: es) [] pos) (tCal sp E t) := by
  obtain ⟨f, fd, F, gm, kp, b⟩ := h
  refine ⟨fun pins s σ H Q I h => wpAny_Call_Name_kw (ld_glob I hg gm ?_ hdb)⟩
  refine PySem.W.callWith_K (h₀ := X.base) I.ok.mod.kin kp (thn (ha.run pos pins s σ H _ I h) fun us s1 ⟨vs, H1, I1, r, q⟩ => ⟨I1.kIn, ?_⟩) he hpl
  exact run_fnG F hG (hr.mono hj) b hx I1 r q
end
/-! ### the law's end -/
theorem law_callG {P : Program} {w : World} {K : PySem.W.Frag} {mg mb : Str → Option Value} {k : Nat} {fa a : Addr} {fd : FuncData} {x : Str} {sp : Sp} {s₁ : Shared} {vs : List Value} {ns : List Int}
    (KX : K.In s₁.heap) (hns : s₁.heap.Ns mainGlobals mg) (hb : s₁.heap.Ns builtinsNs mb) (hbb : ∀ x : Str, x ≠ "__name__" → mb x = bootBuiltins x) (hlim : s₁.heap.NoLimit) (hg : s₁.gens = #[])
    (ha : s₁.heap.get? a = some { cls := .type "list", data := .seq vs.toArray }) (hi : IntsAre vs ns) (hl : ns.length ≤ sizeLine) (hr : Room k callerA) (F : ∀ base : Heap, K.In base → base.Ns mainGlobals mg → FnG P w K mg base CX0 k fa fd [x] sp)
    (hbind : ∀ (s : Shared) (u : Value), BindsTo s fd ⟨[u], []⟩ [(x, u)]) (hsp : ∀ H : Hp, Only H → SqL K H a (ns.map V.int) → sp [.ref a] H (fun v _ => v = .bl true) fun _ _ _ => False) :
    codeAny (model P w) callerA (.call (.ref fa) ⟨[.ref a], []⟩) (fun r s' => r = .ok (.ret (.bool true)) ∧ OldK s₁.heap s'.heap ∧ s'.os = s₁.os ∧ AllBare s'.gens) s₁ := by
  have rv := vals_ints hi
  -- the script tracked as locked, or as a written object of the module
  have go : ∀ H : Hp, Only H → SqL K H a (ns.map V.int) → HOk P w H s₁.heap → (∀ b, H b ≠ none → b = a) → (H a ≠ none → K.lookup a = none) →
      codeAny (model P w) callerA (.call (.ref fa) ⟨[.ref a], []⟩) (fun r s' => r = .ok (.ret (.bool true)) ∧ OldK s₁.heap s'.heap ∧ s'.os = s₁.os ∧ AllBare s'.gens) s₁ := by
    intro H hO hS hok hA hK
    have free : ∀ b, b ≠ a → H b = none := fun b hb => by
      cases q : H b with
      | none => rfl
      | some u => exact absurd (hA b (by rw [q]; simp)) hb
    have nsT : ∀ {b : Addr} {m : Str → Option Value}, s₁.heap.Ns b m → (hidT s₁.heap H).Ns b m := by
      rintro b m ⟨o, es, ep, e, d, r⟩
      refine ⟨o, es, ep, hidT_get e (free b fun z => ?_), d, r⟩
      rw [z, ha] at e
      cases e
      cases d
    have kT : K.In (hidT s₁.heap H) := fun b o e => hidT_get (KX b o e) (by
      cases q : H b with
      | none => rfl
      | some u =>
        have z := hA b (by rw [q]; simp)
        rw [z] at q e
        rw [hK (by rw [q]; simp)] at e
        cases e)
    have hM : Mod K mg (hidT s₁.heap H) := ⟨kT, nsT hns, ⟨mb, nsT hb, hbb⟩, hlim.elim fun mc h => ⟨mc, nsT h.1, h.2⟩⟩
    have e0 : Env0 P w K mg (hidT s₁.heap H) callerA [] s₁ H := ⟨rfl, hM, fun b o e => of_hidT e, Nat.le_of_eq (hidT_size _ _), trivial, fun b z => absurd (show b ∈ ([] : List Addr) from z) (by simp), hok, .of_eq hg⟩
    refine codeAny_mono ((F _ kT (nsT hns)).run callerA [] s₁ H ⟨[.ref a], []⟩ [.ref a] [.ref a] _ _ rfl hr e0 (hbind s₁ (.ref a)) (.cons rfl .nil) (hsp H hO hS)) fun r s' h => ?_
    cases r with
    | error e => exact False.elim h
    | ok fl =>
      cases fl with
      | next => exact False.elim h
      | brk => exact False.elim h
      | cont => exact False.elim h
      | ret u =>
        obtain ⟨v, H', os, bare, un, hok', r', q⟩ := h
        subst q
        obtain rfl : u = Value.bool true := r'
        refine ⟨rfl, OldK.of_keep fun b o e => ?_, os, bare⟩
        rcases hO b with z | ⟨ob, xs, z⟩
        · exact un.keep b o e z (fun z => absurd (show b ∈ ([] : List Addr) from z) (by simp)) (by simp)
        · have e1 := (hok b _ z).1
          have e2 := (hok' b _ (un.frzs b ob _ z)).1
          rw [e] at e1
          cases e1
          exact e2
  cases hk : K.lookup a with
  | some o =>
    have e := KX a o hk
    rw [ha] at e
    cases e
    exact go (fun _ => none) (fun _ => .inl rfl) (.inr ⟨_, vs.toArray, _, hk, rfl, rfl, rfl, by have z := hi.length; rw [List.size_toArray]; omega, by simpa using rv⟩) (fun b o q => nomatch q) (fun b q => absurd rfl q) (fun q => absurd rfl q)
  | none =>
    have hx : ∀ b, (fun c : Addr => if c = a then some (HO.frz { cls := .type "list", data := .seq vs.toArray } (.lst (ns.map V.int))) else (none : Option HO)) b ≠ none → b = a := fun b q => by
      by_cases z : b = a
      · exact z
      · exact absurd (if_neg z) q
    refine go (fun c => if c = a then some (.frz { cls := .type "list", data := .seq vs.toArray } (.lst (ns.map V.int))) else none) (fun b => ?_) (.inl (.inr ⟨_, if_pos rfl⟩)) (fun b o q => ?_) hx (fun _ => hk)
    · by_cases z : b = a
      · exact .inr ⟨_, _, if_pos z⟩
      · exact .inl (if_neg z)
    · have z : b = a := hx b (by rw [q]; simp)
      subst z
      have q2 : some (HO.frz { cls := .type "list", data := .seq vs.toArray } (.lst (ns.map V.int))) = some o := by rw [← q]; exact (if_pos rfl).symm
      cases q2
      exact ⟨ha, by rw [List.length_map]; exact hl, vs, _, rv, ha⟩
theorem walk_ofG {l : PySem.W.OpenLaw} {n k : Nat} {q : Program} {loose : List Str} {XP : (Str → Option Value) → Heap → Prop} {YP : World → Heap → Prop} {d : DefRec} {K : Params → PySem.W.Frag} {sp : World → Sp} {x : Str}
    (hn : l.most = some n) (hn2 : n ≤ sizeLine) (hdf : d.params.defaults = []) (hr : Room k callerA) (hY : ∀ (w : World) (h : Heap), YP w h → (K w.params).In h)
    (F : ∀ (w : World) (mg : Str → Option Value) (fa : Addr) (h : Heap), (K w.params).In h → h.Ns mainGlobals mg → mg d.name = some (.ref fa) →
      ∃ fd : FuncData, (∀ (s : Shared) (u : Value), BindsTo s fd ⟨[u], []⟩ [(x, u)]) ∧ ∀ base : Heap, (K w.params).In base → base.Ns mainGlobals mg → FnG l.prog w (K w.params) mg base CX0 k fa fd [x] (sp w))
    (hsp : ∀ (w : World) (H : Hp) (a : Addr) (ns : List Int), ns.length ≤ n → Only H → SqL (K w.params) H a (ns.map V.int) → sp w [.ref a] H (fun v _ => v = .bl true) fun _ _ _ => False) :
    PySem.W.WalkO q loose XP YP l.row.toRowW d [] (fun f vs => PySem.call f vs) := by
  refine Att.attach_call hn hdf fun w s₀ s₁ mg mb fa o pm cd doc a vs ns G Y ho hd hcd hmg hobj hints hlen hg => ?_
  obtain ⟨fd, hb, hF⟩ := F w mg fa _ (hY w _ Y) G.T.g hmg
  exact law_callG (hY w _ Y) G.T.g G.T.b G.T.builtins G.T.nolimit hg hobj hints (Nat.le_trans hlen hn2) hr hF hb fun H hO hS => hsp w H a ns hlen hO hS
/-! ### repr of data -/
def rReprD (K : PySem.W.Frag) : List V → Hp → VK → Prop := fun xs H Q => ∃ a d, xs = [.ref a] ∧ Dp K H (.ref a) d ∧ d.showable = true ∧ d.hasDict = false ∧ d.depth ≤ 60 ∧ d.shown.length ≤ sizeLine ∧ Q (.str d.shown) H
theorem call_reprD {X : Cx} (hg : X.A.guards = some []) (hu : X.A.units + 64 < cLine) : CallR X (.builtin "repr") (rReprD X.K) := by
  intro pins s σ H xs us Q I r h
  obtain ⟨a, d, rfl, hd, h1, h2, h3, h4, q⟩ := h
  obtain ⟨u, rfl, ru⟩ := r.one
  obtain ⟨as, rd⟩ := Dp.reads I d _ u hd ru
  cases (show u = Value.ref a from ru)
  refine repr_of_reads' rd h1 (PyData.noDict_hsm h2) hg (by omega) (fun _ _ e => e) (fun h' t tk hk => ?_) h4
  exact ⟨.str d.shown, H, I.kept (t' := tk) hk, ⟨t, rfl⟩, q⟩
end RB
namespace RB
open PySem PySem.Spec PyProof.Rows L2
section
open Builtin
variable {prog : Program} {w : World} {A : Around} {E : Value → Shared → Prop} {s : Shared}
theorem field_small {a : Int} {t : Tok} {spec : Str} {Q : Value → Shared → Prop} (hd : a.natAbs.log2 < 1920) (hok : intSpecOk spec = true)
    (h : Q (.str (intSpecTextOf spec a) (s.toks + 1)) { s with toks := s.toks + 1 + 1 }) (hsz : spec.length ≤ sizeLine) : wpAny (model prog w) A (formatField (.int a t) spec) Q E s := by
  unfold intSpecOk at hok
  cases hps : Builtin.Float.parseFormatSpec spec.cps.toList "int" 62 with
  | error m => rw [hps] at hok; simp at hok
  | ok f =>
    rw [hps] at hok
    simp only [Bool.and_eq_true, Bool.not_eq_true'] at hok
    obtain ⟨⟨hne, hasc⟩, hg⟩ := hok
    have ht : intSpecTextOf spec a = intSpecText f a := by unfold intSpecTextOf; rw [hps]
    rw [ht] at h
    unfold intSpecGood at hg
    simp only [Bool.and_eq_true] at hg
    obtain ⟨⟨⟨⟨⟨⟨hty, hpr⟩, hz⟩, hal⟩, hw⟩, hgr⟩, hsg⟩ := hg
    have ty := beq_iff_eq.mp hty
    have pr := Option.isNone_iff_eq_none.mp hpr
    have z0 : f.noNeg0 = false := by simpa using hz
    have al : f.alt = false := by simpa using hal
    have wd : ¬ (f.width.getD 0 > 100000) := by have : f.width.getD 0 ≤ 100000 := by simpa using hw
                                                omega
    have gr := Option.isNone_iff_eq_none.mp hgr
    have sg := Option.isNone_iff_eq_none.mp hsg
    have lt : a.natAbs < 2 ^ 1920 := by
      by_cases z : a.natAbs = 0
      · rw [z]; exact Nat.two_pow_pos _
      · exact (Nat.log2_lt z).mp hd
    have hdig : (Nat.toDigits 10 a.natAbs).length ≤ 4300 := by
      have e := (Nat.length_repr_le_iff (n := a.natAbs) (by decide : 0 < 4300)).mpr (Nat.lt_of_lt_of_le lt (by decide))
      rwa [← String.length_toList, Nat.toList_repr] at e
    have hlen : (intSpecText f a).length ≤ sizeLine := by
      have wd' : f.width.getD 0 ≤ 100000 := by omega
      rw [intSpecText_length a gr sg, sizeLine_eq]
      clear h
      split <;> omega
    show wpAny _ _ (holding [.int a t] (pyFormat (.int a t) spec)) Q E s
    unfold pyFormat
    refine wpAny_holding (wpAny_bind (wpAny_mkStr (wpAny_bind (m := callSpecial? (.int a t) (Str.ofString "__format__") [.str spec s.toks]) (wpAny_callSpecial?_slot (name := Str.ofString "__format__") (typeIs_int _ a t) slot_int_format ?_)) hsz))
    refine wpAny_call (codeAny_call_builtin slot_int_format.plain entry_int_format (slot_int_format.check _ _ _ _ _ _ _ _ (typeIs_int _ a t) (args_int_format _ _) ?_))
    unfold Builtin.«int.__format__»
    simp only [selfAndOne, noKeywords, Int.intOfSelf, asInt?, asStr?, List.isEmpty_nil, if_true, pure_bind, bind_pure, bind_assoc, hne, hasc, Bool.false_eq_true, if_false, show (Value.str spec s.toks == Value.none) = false from rfl]
    refine wpAny_bind (wpAny_typeNameOf (T := "str") (typeIs_str _ _ _) (by decide) fun _ => ?_)
    first | refine wpAny_bind (wpAny_typeNameOfCut_int ?_) | refine wpAny_bind (wpAny_typeNameOf_int ?_)
    simp only [hps, ty]
    rw [if_pos (by decide)]
    show wpAny _ _ (if _ then _ else _) _ _ _
    rw [if_neg (by simp [pr])]
    show wpAny _ _ (if _ then _ else _) _ _ _
    rw [if_neg (by simp [z0])]
    show wpAny _ _ (if _ then _ else _) _ _ _
    rw [if_neg (by decide)]
    show wpAny _ _ (do let r ← Builtin.overDigitLimit? a; _) _ _ _
    refine wpAny_bind (wpAny_of_eq (PySem.overDigitLimit_small hd) ?_)
    show wpAny _ _ (if _ then _ else _) _ _ _
    rw [if_neg (by simpa using wd)]
    show wpAny _ _ (retStr _) _ _ _
    unfold retStr
    refine wpAny_bind (wpAny_mkStr (wpAny_pure ?_) ?hs2)
    case hs2 =>
      simp only [al, Bool.false_eq_true, if_false, show ((10 : Nat) == 10) = true by decide, if_true]
      conv => lhs; arg 1; whnf
      simp only [intSpecText, intField', gr, sg, al, Bool.false_eq_true, if_false, show ((10 : Nat) == 10) = true by decide, if_true] at hlen ⊢
      exact hlen
    dsimp only
    refine wpAny_bind (wpAny_isInstance (typeIs_str _ _ _) isSubtype_str_str (wpAny_pure ?_))
    simp only [al, Bool.false_eq_true, if_false, show ((10 : Nat) == 10) = true by decide, if_true]
    conv => arg 1; arg 1; whnf
    simp only [intSpecText, intField', gr, sg, al, Bool.false_eq_true, if_false, show ((10 : Nat) == 10) = true by decide, if_true] at h ⊢
    exact h
end
def tFmtSp (sp : Str) (te : TE) : TE := fun σ H Q => te σ H fun x H1 => ∃ n, x = .int n ∧ n.natAbs.log2 < 1920 ∧ Q (.str (intSpecTextOf sp n)) H1
theorem pe_fmtSp {X : Cx} {e se : Expr} {te : TE} {sp : Str} {pos : Pos} (he : PE X e te) (hs : PE X se (tC (.str sp))) (hok : intSpecOk sp = true) (hz : sp.length ≤ 100) : PE X (.FormattedValue e (-1) (some se) pos) (tFmtSp sp te) := by
  refine ⟨fun pins s σ H Q I h => ?_⟩
  refine wpAny_FormattedValue_spec (thn (he.run pins s σ H _ I h) fun v s1 hh => ?_)
  obtain ⟨x, H1, I1, rx, n, rfl, hd, q⟩ := hh
  refine thn (hs.run pins s1 σ H1 (fun y H2 => y = .str sp ∧ H2 = H1) I1 ⟨rfl, rfl⟩) fun r s2 h2 => ?_
  obtain ⟨y, H2, I2, ry, rfl, rfl⟩ := h2
  obtain ⟨t, rfl⟩ := (show ∃ t, v = Value.int n t from rx)
  obtain ⟨u, rfl⟩ := (show ∃ u, r = Value.str sp u from ry)
  refine ⟨sp, u, rfl, field_small hd hok ?_ (Nat.le_trans hz (by decide))⟩
  exact ⟨.str (intSpecTextOf sp n), H2, (I2.tok _).tok _, ⟨_, rfl⟩, q⟩
end RB
namespace RB
open PySem PySem.Spec PyProof.Rows L2
/-! ### what the written part must show, as k_is shows it -/
def DefAt (K : PySem.W.Frag) (x qual : Str) (st : Stmt) : Prop :=
  ∃ (f : Addr) (oc : Value) (od : Option Addr) (kV doc pm : Value) (an : Option Addr) (cdv ct : Value) (osl : Array (Option Value)), PySem.W.nsIn K mainGlobals x = some (some (.ref f)) ∧
    K.lookup f = some ⟨oc, od, .func (PySem.W.fnOf x qual (defArgs st) (defBody st) (defScope st) .none kV doc pm an cdv ct), osl⟩ ∧ PySem.W.codeIn K cdv qual = true ∧ PySem.W.keepIn K (.ref f) = true
theorem DefAt.mk {K : PySem.W.Frag} {x qual : Str} {st : Stmt} {f : Addr} {oc : Value} {od : Option Addr} {kV doc pm : Value} {an : Option Addr} {cdv ct : Value} {osl : Array (Option Value)} (a : PySem.W.nsIn K mainGlobals x = some (some (.ref f)))
    (l : K.lookup f = some ⟨oc, od, .func (PySem.W.fnOf x qual (defArgs st) (defBody st) (defScope st) .none kV doc pm an cdv ct), osl⟩) (c : PySem.W.codeIn K cdv qual = true) (k : PySem.W.keepIn K (.ref f) = true) : DefAt K x qual st :=
  ⟨f, oc, od, kV, doc, pm, an, cdv, ct, osl, a, l, c, k⟩
/-- a method m of the class at C, name x -/
def MethAt (K : PySem.W.Frag) (C : Addr) (x qual : Str) (st : Stmt) : Prop :=
  ∃ (f : Addr) (oc : Value) (od : Option Addr) (kV doc pm : Value) (an : Option Addr) (cdv ct : Value) (osl : Array (Option Value)), PySem.W.findIn K (.ref C) x = some (some (.ref f)) ∧ PySem.W.isFn K (.ref f) = true ∧
    K.lookup f = some ⟨oc, od, .func (PySem.W.fnOf x qual (defArgs st) (defBody st) (defScope st) .none kV doc pm an cdv ct), osl⟩ ∧ PySem.W.codeIn K cdv qual = true ∧ PySem.W.keepIn K (.ref f) = true
theorem MethAt.mk {K : PySem.W.Frag} {C : Addr} {x qual : Str} {st : Stmt} {f : Addr} {oc : Value} {od : Option Addr} {kV doc pm : Value} {an : Option Addr} {cdv ct : Value} {osl : Array (Option Value)} (a : PySem.W.findIn K (.ref C) x = some (some (.ref f)))
    (i : PySem.W.isFn K (.ref f) = true) (l : K.lookup f = some ⟨oc, od, .func (PySem.W.fnOf x qual (defArgs st) (defBody st) (defScope st) .none kV doc pm an cdv ct), osl⟩) (c : PySem.W.codeIn K cdv qual = true) (k : PySem.W.keepIn K (.ref f) = true) : MethAt K C x qual st :=
  ⟨f, oc, od, kV, doc, pm, an, cdv, ct, osl, a, i, l, c, k⟩
/-- a static method -/
def StatAt (K : PySem.W.Frag) (C : Addr) (x qual : Str) (st : Stmt) : Prop :=
  ∃ (mc : Value) (p f : Addr) (rest : List Value) (oc : Value) (od : Option Addr) (kV doc pm : Value) (an : Option Addr) (cdv ct : Value) (osl : Array (Option Value)), PySem.W.typeIn K (.ref C) = some mc ∧ PySem.W.readsIn K C mc = true ∧
    PySem.W.specialIn K (.ref C) "__getattribute__" = some (some (.builtin "type.__getattribute__")) ∧ PySem.W.findCls K (.ref C) mc x = some (.get (.builtin "staticmethod.__get__") (.ref p) .none (.ref C)) ∧ PySem.W.recIn K p "staticmethod" = some (.ref f :: rest) ∧
    K.lookup f = some ⟨oc, od, .func (PySem.W.fnOf x qual (defArgs st) (defBody st) (defScope st) .none kV doc pm an cdv ct), osl⟩ ∧ PySem.W.codeIn K cdv qual = true ∧ PySem.W.keepIn K (.ref f) = true
theorem StatAt.mk {K : PySem.W.Frag} {C : Addr} {x qual : Str} {st : Stmt} {mc : Value} {p f : Addr} {rest : List Value} {oc : Value} {od : Option Addr} {kV doc pm : Value} {an : Option Addr} {cdv ct : Value} {osl : Array (Option Value)} (t : PySem.W.typeIn K (.ref C) = some mc) (rd : PySem.W.readsIn K C mc = true)
    (ga : PySem.W.specialIn K (.ref C) "__getattribute__" = some (some (.builtin "type.__getattribute__"))) (at_ : PySem.W.findCls K (.ref C) mc x = some (.get (.builtin "staticmethod.__get__") (.ref p) .none (.ref C))) (rc : PySem.W.recIn K p "staticmethod" = some (.ref f :: rest))
    (l : K.lookup f = some ⟨oc, od, .func (PySem.W.fnOf x qual (defArgs st) (defBody st) (defScope st) .none kV doc pm an cdv ct), osl⟩) (c : PySem.W.codeIn K cdv qual = true) (k : PySem.W.keepIn K (.ref f) = true) : StatAt K C x qual st :=
  ⟨mc, p, f, rest, oc, od, kV, doc, pm, an, cdv, ct, osl, t, rd, ga, at_, rc, l, c, k⟩
/-- a constant read off the class -/
def CvAt (K : PySem.W.Frag) (C : Addr) (x : Str) (v : V) : Prop := ∃ (mc u : Value), PySem.W.typeIn K (.ref C) = some mc ∧ PySem.W.readsIn K C mc = true ∧ PySem.W.specialIn K (.ref C) "__getattribute__" = some (some (.builtin "type.__getattribute__")) ∧ PySem.W.findCls K (.ref C) mc x = some (.val u) ∧ RelV v u
theorem CvAt.mk {K : PySem.W.Frag} {C : Addr} {x : Str} {v : V} {mc u : Value} (t : PySem.W.typeIn K (.ref C) = some mc) (rd : PySem.W.readsIn K C mc = true) (ga : PySem.W.specialIn K (.ref C) "__getattribute__" = some (some (.builtin "type.__getattribute__")))
    (at_ : PySem.W.findCls K (.ref C) mc x = some (.val u)) (r : RelV v u) : CvAt K C x v := ⟨mc, u, t, rd, ga, at_, r⟩
/-- a constant of the module -/
def CoAt (K : PySem.W.Frag) (x : Str) (v : V) : Prop := ∃ u, PySem.W.nsIn K mainGlobals x = some (some u) ∧ RelV v u
theorem CoAt.mk {K : PySem.W.Frag} {x : Str} {v : V} {u : Value} (a : PySem.W.nsIn K mainGlobals x = some (some u)) (r : RelV v u) : CoAt K x v := ⟨u, a, r⟩
/-- an __init__ with ints as defaults -/
def InitAt (K : PySem.W.Frag) (C : Addr) (qual : Str) (st : Stmt) (dvs : List V) : Prop :=
  ∃ (f T : Addr) (o : Obj) (its : List Value) (n : Nat) (oc : Value) (od : Option Addr) (kV doc pm : Value) (an : Option Addr) (cdv ct : Value) (osl : Array (Option Value)), PySem.W.findIn K (.ref C) "__init__" = some (some (.ref f)) ∧ PySem.W.isFn K (.ref f) = true ∧
    K.lookup f = some ⟨oc, od, .func (PySem.W.fnOf "__init__" qual (defArgs st) (defBody st) (defScope st) (.ref T) kV doc pm an cdv ct), osl⟩ ∧ PySem.W.codeIn K cdv qual = true ∧ PySem.W.keepIn K (.ref f) = true ∧ PySem.W.makesIn K C = true ∧ PySem.W.keepIn K (.ref C) = true ∧
    K.lookup T = some o ∧ o.data = .seq its.toArray n ∧ Vals dvs its
theorem InitAt.mk {K : PySem.W.Frag} {C : Addr} {qual : Str} {st : Stmt} {dvs : List V} {f T : Addr} {o : Obj} {its : List Value} {n : Nat} {oc : Value} {od : Option Addr} {kV doc pm : Value} {an : Option Addr} {cdv ct : Value} {osl : Array (Option Value)}
    (a : PySem.W.findIn K (.ref C) "__init__" = some (some (.ref f))) (i : PySem.W.isFn K (.ref f) = true) (l : K.lookup f = some ⟨oc, od, .func (PySem.W.fnOf "__init__" qual (defArgs st) (defBody st) (defScope st) (.ref T) kV doc pm an cdv ct), osl⟩) (c : PySem.W.codeIn K cdv qual = true)
    (k : PySem.W.keepIn K (.ref f) = true) (mk : PySem.W.makesIn K C = true) (kc : PySem.W.keepIn K (.ref C) = true) (lT : K.lookup T = some o) (oT : o.data = .seq its.toArray n) (rT : Vals dvs its) : InitAt K C qual st dvs :=
  ⟨f, T, o, its, n, oc, od, kV, doc, pm, an, cdv, ct, osl, a, i, l, c, k, mk, kc, lT, oT, rT⟩
/-- the arity of a def without defaults -/
def Bdg (x qual : Str) (st : Stmt) (ps : List Str) : Prop := ∀ (kV doc pm : Value) (an : Option Addr) (cdv ct : Value) (us : List Value), us.length = ps.length → bindArgs (PySem.W.fnOf x qual (defArgs st) (defBody st) (defScope st) .none kV doc pm an cdv ct) ⟨us, []⟩ = pure (ps.zip us)
section
variable {K : PySem.W.Frag} {mg : Str → Option Value} {h : Heap}
theorem DefAt.to {x qual : Str} {st : Stmt} {ps : List Str} (d : DefAt K x qual st) (X : K.In h) (G : h.Ns mainGlobals mg) (b : Bdg x qual st ps) : DefIn K mg x qual st ps := by
  obtain ⟨f, oc, od, kV, doc, pm, an, cdv, ct, osl, a, l, c, k⟩ := d
  exact ⟨f, _, fun_mk l c k, PySem.W.mg_of X G a, (fun_mk l c k).binds b⟩
theorem CoAt.to {x : Str} {v : V} (d : CoAt K x v) (X : K.In h) (G : h.Ns mainGlobals mg) : ConstIn mg x v := by
  obtain ⟨u, a, r⟩ := d
  exact ⟨u, PySem.W.mg_of X G a, r⟩
variable {P : Program} {w : World} {base : Heap}
/-- THE RULE for a method found in the class -/
theorem own_of {C : Addr} {k : Nat} {x qual : Str} {st : Stmt} {N ps : List Str} {sp : Sp} (d : MethAt K C x qual st) (b : Bdg x qual st ps) (S : FnScope N ps (defScope st)) (len : ∀ vs H Q E, sp vs H Q E → vs.length = ps.length)
    (hbody : ∀ (f : Addr) (cdv : Value) (A : Around) (outer : List Env) (s : Shared) (H : Hp) (vs : List V) (Q : VK) (E : XK), Room k (A.deeper (envOfC qual (defScope st) s.heap.objs.size f cdv)) → sp vs H Q E →
      ∃ t, PSs (cxOf CX0 P w K mg base N qual (defScope st) f cdv A outer s H E).nox (defBody st) t ∧ t { nx := fun _ H' => Q .non H', rt := Q } (start N vs) H) : OwnCmp P w K mg base CX0 (k + 1) C x sp := by
  obtain ⟨f, oc, od, kV, doc, pm, an, cdv, ct, osl, a, i, l, c, kp⟩ := d
  have F := fun_mk l c kp
  exact ⟨⟨f, _, ps, a, i, F.ok S len (fun cdv A outer s H vs Q E hr h => hbody f cdv A outer s H vs Q E hr h), F.binds b⟩⟩
/-- a static method keeps a promise -/
structure HasS (P : Program) (w : World) (K : PySem.W.Frag) (mg : Str → Option Value) (base : Heap) (CX : CXT) (k : Nat) (C : Addr) (m : Str) (sp : Sp) : Prop where
  ex : ∃ (mc : Value) (p g : Addr) (fd : FuncData) (ps : List Str), SMet K C mc m p g ∧ FnOk P w K mg base CX k g fd ps sp ∧ Binds K fd ps []
theorem stat_of {C : Addr} {k : Nat} {x qual : Str} {st : Stmt} {N ps : List Str} {sp : Sp} (d : StatAt K C x qual st) (b : Bdg x qual st ps) (S : FnScope N ps (defScope st)) (len : ∀ vs H Q E, sp vs H Q E → vs.length = ps.length)
    (hbody : ∀ (f : Addr) (cdv : Value) (A : Around) (outer : List Env) (s : Shared) (H : Hp) (vs : List V) (Q : VK) (E : XK), Room k (A.deeper (envOfC qual (defScope st) s.heap.objs.size f cdv)) → sp vs H Q E →
      ∃ t, PSs (cxOf CX0 P w K mg base N qual (defScope st) f cdv A outer s H E).nox (defBody st) t ∧ t { nx := fun _ H' => Q .non H', rt := Q } (start N vs) H) : HasS P w K mg base CX0 (k + 1) C x sp := by
  obtain ⟨mc, p, f, rest, oc, od, kV, doc, pm, an, cdv, ct, osl, t, rd, ga, at_, rc, l, c, kp⟩ := d
  have F := fun_mk l c kp
  exact ⟨⟨mc, p, f, _, ps, ⟨rd, ga, at_, ⟨rest, rc⟩, kp⟩, F.ok S len (fun cdv A outer s H vs Q E hr h => hbody f cdv A outer s H vs Q E hr h), F.binds b⟩⟩
/-- the class is made by an __init__ that keeps a promise (all its arguments handed) -/
structure HasM (P : Program) (w : World) (K : PySem.W.Frag) (mg : Str → Option Value) (base : Heap) (CX : CXT) (k : Nat) (C : Addr) (dvs : List V) (sp : Sp) : Prop where
  ex : ∃ (g : Addr) (fd : FuncData) (ps : List Str) (ds : List Value), Mk K C g ∧ FnOk P w K mg base CX k g fd ps sp ∧ Binds K fd ps ds ∧ Vals dvs ds
end
section
variable {X : Cx} {CX : CXT} {k j : Nat} {C : Addr} {sp : Sp} {E : XK} {o e : Expr} {es : List Expr} {x m : Str} {p pos apos : Pos} {ta : TE} {t : TA} {dvs : List V} {pl : Sem Bool}
theorem pe_smethH (he : PE X o ta) (h : HasS X.prog X.w X.K X.mg X.base CX j C m sp) (hr : Room k X.A) (hx : Passes CX X E) (ha : PA X (e :: es) t) (hj : j ≤ k := by decide)
    (hst : starEach (e :: es) X.env = (false, eval e X.env) :: starEach es X.env := by rfl) (hpl : (backTo pos (starEach es X.env)).any (·.1) = false := by rfl)
    (ht : eval (.Call (.Attribute o m apos) (e :: es) [] pos) X.env = (do
      let ov ← eval o X.env
      standAt apos.atName
      let (f, first) ← holding [ov] (getMethod ov m pl)
      callWith pos f first (backTo pos (starEach (e :: es) X.env)) (backToKw pos (keywordEach [] X.env))) := by rfl) :
    PE X (.Call (.Attribute o m apos) (e :: es) [] pos) (tSMeth C sp E ta t) := by
  obtain ⟨⟨mc, p, g, fd, ps, r, F, b⟩⟩ := h
  exact pe_smeth he r F b hr hj hx ha hst hpl ht
theorem pe_cvalH {v : V} {f : Str} (he : PE X e (tC (.ref C))) (h : CvAt X.K C f v) (hb : attributeBase e f X.env (eval e X.env) = eval e X.env := by rfl) : PE X (.Attribute e f pos) (tC v) := by
  obtain ⟨mc, u, t, rd, ga, at_, r⟩ := h
  have z := ClX.pe_cval (pos := pos) (f := f) he hb
  exact ⟨fun pins s σ H Q I hq => z.run pins s σ H Q I ⟨C, mc, v, u, rfl, ⟨rd, ga⟩, ⟨at_, r⟩, hq⟩⟩
/-- C(..), all but the defaults' values written -/
def tMak (C : Addr) (dvs : List V) (sp : Sp) (E : XK) (t : TA) : TE := fun σ H Q => t σ H fun vs H1 => ∀ x dx, H1 x = none → H1 dx = none → dx ≠ x →
  sp (.ref x :: (vs ++ dvs)) (upd (upd H1 dx (.own x)) x (.ins C dx [])) (fun v H2 => v = .non ∧ Q (.ref x) H2) E
theorem pe_makeH (h : HasM X.prog X.w X.K X.mg X.base CX j C dvs sp) (hm : X.mg x = some (.ref C)) (hr : Room k X.A) (hx : Passes CX X E) (ha : PA X (e :: es) t) (hj : j + 1 ≤ k := by decide) (hg : Gl X x := by rfl) (hdb : (x == ("__debug__" : Str)) = false := by decide)
    (he : starEach (e :: es) X.env = (false, eval e X.env) :: starEach es X.env := by rfl) (hpl : (backTo pos (starEach es X.env)).any (·.1) = false := by rfl) : PE X (.Call (.Name x p) (e :: es) [] pos) (tMak C dvs sp E t) := by
  obtain ⟨⟨g, fd, ps, ds, M, F, b, d⟩⟩ := h
  have z := pe_make (pos := pos) (p := p) M F (hr.mono hj) hg hm b d hx ha hdb he hpl
  exact ⟨fun pins s σ H Q I hq => z.run pins s σ H Q I hq⟩
end
end RB
namespace RB
open PySem PySem.Spec PyProof.Rows L2
theorem st_gen {t u : TS} {D : Ends} {σ : L2.St} {H : Hp} (h : ∀ N : L2.St → Hp → Prop, (∀ σ' H', u D σ' H' → N σ' H') → t { D with nx := N } σ H) : Evl.tCut t u D σ H := ⟨u D, h (u D) fun _ _ h => h, fun _ _ h => h⟩
theorem st_cut {t u : TS} {D : Ends} {σ : L2.St} {H : Hp} (M : L2.St → Hp → Prop) (h : t { D with nx := M } σ H) (k : ∀ σ' H', M σ' H' → u D σ' H') : Evl.tCut t u D σ H := ⟨M, h, k⟩
theorem cxK {CX : CXT} {P : Program} {w : World} {K : PySem.W.Frag} {mg : Str → Option Value} {base : Heap} {N : List Str} {qual : Str} {scope : Scope} {f : Addr} {cd : Value} {A : Around} {outer : List Env} {s : Shared} {H : Hp} {E : XK} : (cxOf CX P w K mg base N qual scope f cd A outer s H E).K = K := rfl
/-- the built-ins are still the built-ins -/
structure Bn (mg : Str → Option Value) : Prop where
  b_int : mg "int" = none
  b_list : mg "list" = none
  b_len : mg "len" = none
  b_abs : mg "abs" = none
  b_range : mg "range" = none
  b_sum : mg "sum" = none
  b_str : mg "str" = none
  b_isinstance : mg "isinstance" = none
  b_bool : mg "bool" = none
  b_max : mg "max" = none
  b_repr : mg "repr" = none
  b_tuple : mg "tuple" = none
/-! ### heaps -/
/-- all that was tracked but p is as it was -/
def But (p : Addr) (H H' : Hp) : Prop := ∀ b o, H b = some o → b ≠ p → H' b = some o
theorem But.refl {p : Addr} {H : Hp} : But p H H := fun _ _ h _ => h
theorem But.trans {p : Addr} {H H1 H2 : Hp} (a : But p H H1) (b : But p H1 H2) : But p H H2 := fun c o h n => b c o (a c o h n) n
theorem But.of {p : Addr} {H H' : Hp} (a : Same H H') : But p H H' := fun c o h _ => a c o h
theorem same_new {H : Hp} {p : Addr} {o : HO} (h : H p = none) : Same H (upd H p o) := fun b x e => by
  rw [upd_ne (ne_of_none e h)]
  exact e
theorem But.new {p q : Addr} {H H' : Hp} {o : HO} (a : But p H H') (h : H' q = none) : But p H (upd H' q o) := a.trans (But.of (same_new h))
theorem But.wr {p : Addr} {H H' : Hp} {o : HO} (a : But p H H') : But p H (upd H' p o) := fun b x e n => by
  rw [upd_ne n]
  exact a b x e n
/-- a write to an object that H does not know -/
theorem But.own {p q : Addr} {H H' : Hp} {o : HO} (a : But p H H') (h : H q = none) : But p H (upd H' q o) := fun b x e n => by
  rw [upd_ne (ne_of_none e h)]
  exact a b x e n
theorem But.free {p q : Addr} {H H' : Hp} (a : But p H H') (h : H' q = none) (n : q ≠ p) : H q = none := by
  cases e : H q with
  | none => rfl
  | some o => rw [a q o e n] at h; cases h
theorem But.sqL {K : PySem.W.Frag} {p a : Addr} {H H' : Hp} {xs : List V} (b : But p H H') (h : SqL K H a xs) (n : a ≠ p) : SqL K H' a xs := by
  rcases h with (h | ⟨o, h⟩) | h
  · exact .inl (.inl (b _ _ h n))
  · exact .inl (.inr ⟨o, b _ _ h n⟩)
  · exact .inr h
theorem But.sqT {K : PySem.W.Frag} {p a : Addr} {H H' : Hp} {xs : List V} (b : But p H H') (h : SqT K H a xs) (n : a ≠ p) : SqT K H' a xs := by
  rcases h with (h | ⟨o, h⟩) | h
  · exact .inl (.inl (b _ _ h n))
  · exact .inl (.inr ⟨o, b _ _ h n⟩)
  · exact .inr h
/-! ### the pen: its cells at c, at most n draws so far -/
structure PenAt (H : Hp) (p c : Addr) (n : Nat) : Prop where
  ex : ∃ (ns : List Int) (k : Nat) (gr : Int), H p = some (.lst [.ref c, .int k, .int gr]) ∧ H c = some (.lst (ns.map V.int)) ∧ ns.length ≤ 63 ∧ k ≤ n ∧ 0 ≤ gr
theorem PenAt.pc {H : Hp} {p c : Addr} {n : Nat} (h : PenAt H p c n) : p ≠ c := by
  obtain ⟨⟨ns, k, gr, h1, h2, _⟩⟩ := h
  intro e
  subst e
  rw [h1] at h2
  have h3 := HO.lst.inj (Option.some.inj h2)
  cases ns with
  | nil => cases h3
  | cons a r => rw [List.map_cons] at h3; cases h3
theorem PenAt.keep {H H' : Hp} {p c : Addr} {n : Nat} (h : PenAt H p c n) (s : Same H H') : PenAt H' p c n := by
  obtain ⟨⟨ns, k, gr, h1, h2, r⟩⟩ := h
  exact ⟨⟨ns, k, gr, s _ _ h1, s _ _ h2, r⟩⟩
theorem PenAt.mono {H : Hp} {p c : Addr} {n m : Nat} (h : PenAt H p c n) (l : n ≤ m) : PenAt H p c m := by
  obtain ⟨⟨ns, k, gr, h1, h2, h3, h4, h5⟩⟩ := h
  exact ⟨⟨ns, k, gr, h1, h2, h3, by omega, h5⟩⟩
theorem PenAt.at {H : Hp} {p c : Addr} {n : Nat} (h : PenAt H p c n) : ∃ o, H p = some o := let ⟨⟨_, _, _, e, _⟩⟩ := h; ⟨_, e⟩
/-! ### attributes -/
theorem putF_new {f : Str} {v : V} : ∀ {fs : List (Str × V)}, (fs.map (·.1)).contains f = false → putF f v fs = fs ++ [(f, v)]
  | [], _ => rfl
  | (g, x) :: r, h => by
    have h2 : (f == g) = false ∧ ((r.map (·.1)).contains f) = false := by
      rw [List.map_cons, List.contains_cons, Bool.or_eq_false_iff] at h
      exact h
    have n : ¬ g = f := fun z => by
      rw [z] at h2
      have := h2.1
      simp at this
    show (if g = f then (g, v) :: r else (g, x) :: putF f v r) = (g, x) :: (r ++ [(f, v)])
    rw [if_neg n, putF_new h2.2]
theorem look_hit {f : Str} {v : V} {r : List (Str × V)} : List.lookup f ((f, v) :: r) = some v := by simp [List.lookup]
theorem look_miss {f g : Str} {v : V} {o : Option V} {r : List (Str × V)} (h : (f == g) = false) (k : List.lookup f r = o) : List.lookup f ((g, v) :: r) = o := by
  simp [List.lookup, h, k]
theorem look_nil {f : Str} : List.lookup f ([] : List (Str × V)) = none := rfl
/-! ### data of ints -/
theorem dp_ints {K : PySem.W.Frag} {H : Hp} : ∀ ns : List Int, DpAll K H (ns.map V.int) (ns.map PyData.int)
  | [] => .nil
  | n :: ns => .cons (.int n) (dp_ints ns)
theorem lay_ints : ∀ ns : List Int, PyData.canLayAll0 (ns.map PyData.int) = true
  | [] => by simp [PyData.canLayAll0]
  | n :: ns => by simp [PyData.canLayAll0, PyData.canLay0, lay_ints ns]
theorem depth_ints : ∀ ns : List Int, PyData.depthAll (ns.map PyData.int) = 0
  | [] => by simp [PyData.depthAll]
  | n :: ns => by simp [PyData.depthAll, PyData.depth, depth_ints ns]
theorem shaped_ints (ns : List Int) : SeqAt.shaped (.list (ns.map PyData.int)) = true := by
  unfold SeqAt.shaped
  simp [PyData.canLay0, lay_ints ns, PyData.depth, depth_ints ns]
theorem eqv_ints : ∀ ns ms : List Int, PyData.eqvAll (ns.map PyData.int) (ms.map PyData.int) = decide (ns = ms)
  | [], [] => by simp [PyData.eqvAll]
  | [], m :: ms => by simp [PyData.eqvAll]
  | n :: ns, [] => by simp [PyData.eqvAll]
  | n :: ns, m :: ms => by
    simp only [List.map_cons, PyData.eqvAll, PyData.eqv, eqv_ints ns ms, List.cons.injEq, Bool.decide_and]
    rfl
theorem rNe_ints {K : PySem.W.Frag} {H : Hp} {a b : Addr} {ns ms : List Int} {Q : VK} (ha : SqL K H a (ns.map V.int)) (hb : SqL K H b (ms.map V.int)) (q : Q (.bl (!decide (ns = ms))) H) : rNeD K (.ref a) (.ref b) H Q :=
  ⟨_, _, .lst ha (dp_ints ns), .lst hb (dp_ints ms), shaped_ints ns, shaped_ints ms, by rw [show PyData.eqv (.list (ns.map PyData.int)) (.list (ms.map PyData.int)) = PyData.eqvAll (ns.map PyData.int) (ms.map PyData.int) by simp [PyData.eqv], eqv_ints]; exact q⟩
theorem rEq_ints {K : PySem.W.Frag} {H : Hp} {a b : Addr} {ns ms : List Int} {Q : VK} (ha : SqL K H a (ns.map V.int)) (hb : SqL K H b (ms.map V.int)) (q : Q (.bl (decide (ns = ms))) H) : rEqD K (.ref a) (.ref b) H Q :=
  ⟨_, _, .lst ha (dp_ints ns), .lst hb (dp_ints ms), shaped_ints ns, shaped_ints ms, by rw [show PyData.eqv (.list (ns.map PyData.int)) (.list (ms.map PyData.int)) = PyData.eqvAll (ns.map PyData.int) (ms.map PyData.int) by simp [PyData.eqv], eqv_ints]; exact q⟩
/-- an item in bounds -/
theorem at_in {xs : List V} {z : Int} (h1 : 0 ≤ z) (h2 : z < (xs.length : Int)) : ∃ v, v ∈ xs ∧ atI xs z = some v := by
  obtain ⟨n, rfl⟩ : ∃ n : Nat, z = n := ⟨z.toNat, by omega⟩
  have h3 : n < xs.length := by omega
  exact ⟨xs[n], List.getElem_mem h3, atI_nat (List.getElem?_eq_getElem h3)⟩
theorem at_mod {xs : List V} {z : Int} (h : xs ≠ []) : ∃ v, v ∈ xs ∧ atI xs (z % (xs.length : Int)) = some v := by
  have hn : 0 < xs.length := List.length_pos_iff.mpr h
  exact at_in (Int.emod_nonneg z (by omega)) (Int.emod_lt_of_pos z (by omega))
/-! ### the draw's numbers -/
theorem pow_ok {x e : Int} (h0 : 0 ≤ e) (h1 : e ≤ 1000000) (hx : 0 ≤ x) (hx1 : x < 18446744073709551616) : CPow x e := ⟨h0, h1, by
  have e : (2 : Nat) ^ 64 = 18446744073709551616 := by decide
  rw [e]
  omega⟩
theorem mul_bd {a b A B : Int} (h1 : 0 ≤ a) (h2 : a ≤ A) (h3 : 0 ≤ b) (h4 : b ≤ B) : 0 ≤ a * b ∧ a * b ≤ A * B := ⟨Int.mul_nonneg h1 h3, Int.mul_le_mul h2 h4 h3 (by omega)⟩
theorem mix_ok {m k c d f : Int} (hm : 0 ≤ m) (hm1 : m ≤ 2147483648) (hk : 0 ≤ k) (hk1 : k ≤ 200000) (hc : 0 ≤ c) (hc1 : c ≤ 10000) (hd : 0 ≤ d) (hd1 : d ≤ 100000) (hf : 0 ≤ f) (hf1 : f ≤ 100000) :
    0 ≤ m * (2 * k + c) + d * k * k + f ∧ m * (2 * k + c) + d * k * k + f < 18446744073709551616 := by
  have a := mul_bd (a := m) (b := 2 * k + c) (A := 2147483648) (B := 410000) hm hm1 (by omega) (by omega)
  have b := mul_bd (a := d) (b := k) (A := 100000) (B := 200000) hd hd1 hk hk1
  have e := mul_bd (a := d * k) (b := k) (A := 20000000000) (B := 200000) b.1 (by omega) hk hk1
  omega
theorem small_mul {i j : Int} (h1 : 0 ≤ i) (h2 : i ≤ 1000000000000) : CMul i j := by
  have e : (2 : Int) ^ 64 = 18446744073709551616 := by decide
  refine .inl ?_
  rw [e]
  omega
/-! ### what the pen's defs promise -/
def bPen (K : PySem.W.Frag) : B1 := fun v H Q _ => ∃ (a : Addr) (ns : List Int), v = .ref a ∧ SqL K H a (ns.map V.int) ∧ ∀ p c H', PenAt H' p c 0 → Same H H' → H p = none → H c = none → Q (.ref p) H'
def bDraw : B2 := fun v u H Q _ => ∃ (p c : Addr) (n : Nat) (many : Int), v = .ref p ∧ u = .int many ∧ PenAt H p c n ∧ n ≤ 100000 ∧ 0 < many ∧ many < 1073741824 ∧
  ∀ r H', 0 ≤ r → r < many → PenAt H' p c (n + 1) → But p H H' → Q (.int r) H'
def bPick (K : PySem.W.Frag) : B2 := fun v u H Q _ => ∃ (p c : Addr) (n : Nat) (a : Addr) (xs : List V), v = .ref p ∧ u = .ref a ∧ PenAt H p c n ∧ n ≤ 100000 ∧ SqL K H a xs ∧ a ≠ p ∧ xs ≠ [] ∧ xs.length ≤ 1000 ∧
  ∀ x H', x ∈ xs → PenAt H' p c (n + 1) → But p H H' → Q x H'
end RB
namespace RB
open PySem PySem.Spec PyProof.Rows L2
/-! ### moments: what the program's defs promise -/
def isI : V → Bool
  | .int _ => true
  | _ => false
def isB (v : V) (lo hi : Int) : Bool := match v with
  | .int n => decide (lo ≤ n) && decide (n ≤ hi)
  | _ => false
def iOf : V → Int
  | .int n => n
  | _ => 0
theorem isB_int {n lo hi : Int} (h1 : lo ≤ n) (h2 : n ≤ hi) : isB (.int n) lo hi = true := by
  unfold isB
  simp [h1, h2]
/-- isinstance of int, bool answers of v -/
def WholeOk (K : PySem.W.Frag) (H : Hp) (v : V) : Prop := ∃ (t : Value) (b1 b2 : Bool), TyX K H v t ∧ PySem.W.kitOne K t (.type "int") = some b1 ∧ PySem.W.kitOne K t (.type "bool") = some b2 ∧ (b1 && !b2) = isI v
theorem whole_int {K : PySem.W.Frag} {H : Hp} {n : Int} : WholeOk K H (.int n) := ⟨_, true, false, .base (.int n), kit_ty (by decide +kernel), kit_ty (by decide +kernel), rfl⟩
def bWhole (K : PySem.W.Frag) : B1 := fun v H Q _ => WholeOk K H v ∧ Q (.bl (isI v)) H
def bBetween (K : PySem.W.Frag) : B3 := fun v l h H Q _ => ∃ lo hi : Int, l = .int lo ∧ h = .int hi ∧ WholeOk K H v ∧ Q (.bl (isB v lo hi)) H
def bLeap : B1 := fun v H Q _ => ∃ y : Int, v = .int y ∧ Q (.bl (Cal.leap y)) H
def bMl : B2 := fun v u H Q _ => ∃ y m : Int, v = .int y ∧ u = .int m ∧ 1 ≤ m ∧ m ≤ 12 ∧ Q (.int (Cal.ml y m)) H
def bDA : B1 := fun v H Q _ => ∃ y : Int, v = .int y ∧ Q (.int (Cal.dA y)) H
def bDn : B3 := fun v u z H Q _ => ∃ y m d : Int, v = .int y ∧ u = .int m ∧ z = .int d ∧ 1 ≤ m ∧ m ≤ 12 ∧ ∀ H', Same H H' → Q (.int (Cal.dn y m d)) H'
def bDate : B1 := fun v H Q _ => ∃ n : Int, v = .int n ∧ 0 ≤ n ∧ n < 365242134 ∧ ∀ p y m d H', H p = none → H' p = some (.tup [.int y, .int m, .int d]) → Same H H' → Cal.Valid y m d → Cal.dn y m d = n → Q (.ref p) H'
def bWd : B1 := fun v H Q _ => ∃ n : Int, v = .int n ∧ Q (.int (n % 7)) H
/-- the first wrong part, of any values -/
def wrongV (y m d h mi : V) : V :=
  if isB y 1 999999 = false then .str "year" else if isB m 1 12 = false then .str "month" else if isB d 1 (Cal.ml (iOf y) (iOf m)) = false then .str "day"
  else if isB h 0 23 = false then .str "hour" else if isB mi 0 59 = true then .non else .str "minute"
def bWrong (K : PySem.W.Frag) : B5 := fun y m d h mi H Q _ => WholeOk K H y ∧ WholeOk K H m ∧ WholeOk K H d ∧ WholeOk K H h ∧ WholeOk K H mi ∧ Q (wrongV y m d h mi) H
theorem sum_sm (y : Int) : ∀ n : Nat, ((List.range n).map fun (k : Nat) => Cal.ml y (1 + (k : Int))).sum = Cal.sm y n
  | 0 => rfl
  | n + 1 => by
    rw [List.range_succ, List.map_append, List.sum_append, sum_sm y n]
    show Cal.sm y n + (Cal.ml y (1 + (n : Int)) + 0) = Cal.sm y n + Cal.ml y ((n : Int) + 1)
    rw [Int.add_zero, Int.add_comm 1]
theorem isB_of {v : V} {lo hi : Int} (h : ¬ isB v lo hi = false) : ∃ n, v = .int n ∧ lo ≤ n ∧ n ≤ hi := by
  cases v with
  | int n =>
    refine ⟨n, rfl, ?_⟩
    unfold isB at h
    simp at h
    exact h
  | _ => exact absurd rfl h
/-- a moment in plain numbers -/
structure Mo where
  y : Int
  m : Int
  d : Int
  h : Int
  mi : Int
def Mo.num (o : Mo) : Int := Cal.dn o.y o.m o.d * 1440 + o.h * 60 + o.mi
def Mo.Ok (o : Mo) : Prop := Cal.Valid o.y o.m o.d ∧ 0 ≤ o.h ∧ o.h ≤ 23 ∧ 0 ≤ o.mi ∧ o.mi ≤ 59
/-- its attributes, in the order in which they are stored -/
def moF (o : Mo) : List (Str × V) := [("year", .int o.y), ("month", .int o.m), ("day", .int o.d), ("hour", .int o.h), ("minute", .int o.mi), ("date", .int (Cal.dn o.y o.m o.d)), ("weekday", .int (Cal.dn o.y o.m o.d % 7)), ("number", .int o.num)]
def MoAt (C : Addr) (H : Hp) (p : Addr) (o : Mo) : Prop := ∃ dx, H p = some (.ins C dx (moF o))
theorem MoAt.same {C : Addr} {H H' : Hp} {p : Addr} {o : Mo} (h : MoAt C H p o) (s : Same H H') : MoAt C H' p o := let ⟨dx, e⟩ := h; ⟨dx, s _ _ e⟩
theorem Mo.num_lo {o : Mo} (k : o.Ok) : 0 ≤ o.num := by
  obtain ⟨v, h1, h2, h3, h4⟩ := k
  have := Cal.dn_lo v
  unfold Mo.num
  omega
theorem Mo.num_hi {o : Mo} (k : o.Ok) : o.num < 525948672960 := by
  obtain ⟨v, h1, h2, h3, h4⟩ := k
  have := Cal.dn_hi2 v
  unfold Mo.num
  omega
theorem wrong_ok {o : Mo} (k : o.Ok) : wrongV (.int o.y) (.int o.m) (.int o.d) (.int o.h) (.int o.mi) = .non := by
  obtain ⟨⟨h1, h2, h3, h4, h5, h6⟩, h7, h8, h9, h10⟩ := k
  unfold wrongV
  rw [isB_int h1 h2, isB_int h3 h4, isB_int h7 h8, isB_int h9 h10, show isB (.int o.d) 1 (Cal.ml (iOf (.int o.y)) (iOf (.int o.m))) = true from isB_int h5 h6]
  rfl
/-- __init__ of right parts: the instance gets its attributes -/
def bInit (C : Addr) : B6 := fun v y m d h mi H Q _ => ∃ (p dx : Addr) (o : Mo), v = .ref p ∧ y = .int o.y ∧ m = .int o.m ∧ d = .int o.d ∧ h = .int o.h ∧ mi = .int o.mi ∧ o.Ok ∧ H p = some (.ins C dx []) ∧
  ∀ H', H' p = some (.ins C dx (moF o)) → But p H H' → Q .non H'
/-- the moment with a number -/
def bAt (C : Addr) : B1 := fun v H Q _ => ∃ n : Int, v = .int n ∧ 0 ≤ n ∧ n < 525948672960 ∧ ∀ p (o : Mo) H', H p = none → MoAt C H' p o → o.Ok → o.num = n → Same H H' → Q (.ref p) H'
/-! ### a moment's text -/
def digs (a : Int) : Nat := (Nat.toDigits 10 a.natAbs).length
def pad (W : Nat) (a : Int) : Str := ⟨(List.replicate (W - digs a) 48).toArray⟩ ++ Str.ofString (toString a)
theorem pad_of {spec : Str} {a : Int} {W : Nat} (hok : intSpecOk spec = true) (hz : intSpecZeroOf spec = true) (hw : intSpecWidthOf spec = W) (h0 : 0 ≤ a) : intSpecTextOf spec a = pad W a := by
  unfold intSpecOk at hok
  unfold intSpecZeroOf at hz
  unfold intSpecWidthOf at hw
  unfold intSpecTextOf
  cases hps : Builtin.Float.parseFormatSpec spec.cps.toList "int" 62 with
  | error m => rw [hps] at hok; simp at hok
  | ok f =>
    rw [hps] at hok hz hw
    simp only [Bool.and_eq_true, beq_iff_eq] at hok hz
    have hg := hok.2
    unfold intSpecGood at hg
    simp only [Bool.and_eq_true] at hg
    have z := intSpecText_zero (Option.isNone_iff_eq_none.mp hg.1.2) (Option.isNone_iff_eq_none.mp hg.2) hz.1 hz.2 h0
    rw [show f.width.getD 0 = W from hw] at z
    exact z
theorem str_len_append (a b : Str) : (a ++ b).length = a.length + b.length := by
  show (a.cps ++ b.cps).size = a.cps.size + b.cps.size
  exact Array.size_append
theorem pad_len {W : Nat} {a : Int} (h0 : 0 ≤ a) : (pad W a).length = W - digs a + digs a := by
  obtain ⟨m, rfl⟩ := Int.eq_ofNat_of_zero_le h0
  unfold pad
  rw [str_len_append, show Str.ofString (toString ((m : Nat) : Int)) = ⟨((Nat.toDigits 10 m).map Char.toNat).toArray⟩ from text_ofNat m]
  show (List.replicate (W - digs (m : Int)) 48).toArray.size + ((Nat.toDigits 10 m).map Char.toNat).toArray.size = W - digs (m : Int) + digs (m : Int)
  rw [List.size_toArray, List.length_replicate, List.size_toArray, List.length_map]
  rfl
theorem digs_le {a : Int} (h0 : 0 ≤ a) (h : a < 10000000) : digs a ≤ 7 := by
  unfold digs
  have e := (Nat.length_repr_le_iff (n := a.natAbs) (by decide : 0 < 7)).mpr (by omega)
  rwa [← String.length_toList, Nat.toList_repr] at e
theorem pad_short {W : Nat} {a : Int} (h0 : 0 ≤ a) (h : a < 10000000) (hW : W ≤ 10) : (pad W a).length ≤ 17 := by
  rw [pad_len h0]
  have := digs_le h0 h
  omega
def moText (o : Mo) : Str := ((((((((Str.empty ++ pad 4 o.y) ++ Str.ofString "-") ++ pad 2 o.m) ++ Str.ofString "-") ++ pad 2 o.d) ++ Str.ofString " ") ++ pad 2 o.h) ++ Str.ofString ":") ++ pad 2 o.mi
def bStr (C : Addr) : B1 := fun v H Q _ => ∃ (p : Addr) (o : Mo), v = .ref p ∧ MoAt C H p o ∧ o.Ok ∧ Q (.str (moText o)) H
/-! ### comparisons -/
/-- the class Moment as the top has made it -/
structure MoCls (K : PySem.W.Frag) (C : Addr) : Prop where
  cl : Cls K C
  at_ : ∀ x ∈ (["year", "month", "day", "hour", "minute", "date", "weekday", "number"] : List Str), NoAttr K C x
  ca : PySem.W.findIn K (.ref C) "__class__" = some (some (.builtin "object.__class__"))
  cn : PySem.W.specialIn K (.builtin "object.__class__") "__get__" = some (some (.builtin "getset_descriptor.__get__"))
  ct : PySem.W.takesIn K (.builtin "object.__class__") = some true
  cm : PySem.W.mroIn K C (.type "object") = some true
  ki : PySem.W.kitOne K (.ref C) (.ref C) = some true
  nf : PySem.W.notFirst K C (.ref C) = true
theorem MoCls.ty {K : PySem.W.Frag} {C : Addr} (c : MoCls K C) {H : Hp} {p : Addr} {o : Mo} (h : MoAt C H p o) : TyX K H (.ref p) (.ref C) := by
  obtain ⟨dx, e⟩ := h
  exact .base (.ins e c.cl c.ca c.cn c.ct c.cm)
theorem mo_num {o : Mo} : (moF o).lookup ("number" : Str) = some (.int o.num) := by
  unfold moF
  repeat (first | exact look_hit | refine look_miss (by decide +kernel) ?_)
def bCmp (C : Addr) (f : Int → Int → Bool) : B2 := fun v u H Q _ => ∃ (p q : Addr) (o o' : Mo), v = .ref p ∧ u = .ref q ∧ MoAt C H p o ∧ MoAt C H q o' ∧ Q (.bl (f o.num o'.num)) H
def bEq (K : PySem.W.Frag) (C : Addr) : B2 := fun v u H Q _ => ∃ (p : Addr) (o : Mo), v = .ref p ∧ MoAt C H p o ∧
  ((∃ t, TyX K H u t ∧ PySem.W.kitOne K t (.ref C) = some false ∧ Q (.bl false) H) ∨ (∃ q o', u = .ref q ∧ MoAt C H q o' ∧ Q (.bl (decide (o.num = o'.num))) H))
end RB
namespace RB
open PySem PySem.Spec PyProof.Rows L2
/-! ### the text -/
def top (i : Nat) : Stmt := PySem.Challenge.pw_rungback_k05_moments_in_order.main.body.getD i (.Pass ⟨0, 0, 0, 0⟩)
abbrev s_is_whole : Stmt := top 11
theorem sc_is_whole : FnScope ["value"] ["value"] (defScope s_is_whole) := ⟨rfl, rfl, rfl, by decide +kernel, rfl, by decide +kernel, by decide +kernel⟩
theorem bd_is_whole : Bdg "is_whole" "is_whole" s_is_whole ["value"] := fun _ _ _ _ _ _ us hl => match us, hl with | [_], _ => rfl
abbrev s_is_between : Stmt := top 12
theorem sc_is_between : FnScope ["value", "low", "high"] ["value", "low", "high"] (defScope s_is_between) := ⟨rfl, rfl, rfl, by decide +kernel, rfl, by decide +kernel, by decide +kernel⟩
theorem bd_is_between : Bdg "is_between" "is_between" s_is_between ["value", "low", "high"] := fun _ _ _ _ _ _ us hl => match us, hl with | [_, _, _], _ => rfl
abbrev s_is_leap : Stmt := top 13
theorem sc_is_leap : FnScope ["year"] ["year"] (defScope s_is_leap) := ⟨rfl, rfl, rfl, by decide +kernel, rfl, by decide +kernel, by decide +kernel⟩
theorem bd_is_leap : Bdg "is_leap" "is_leap" s_is_leap ["year"] := fun _ _ _ _ _ _ us hl => match us, hl with | [_], _ => rfl
abbrev s_month_length : Stmt := top 14
theorem sc_month_length : FnScope ["year", "month"] ["year", "month"] (defScope s_month_length) := ⟨rfl, rfl, rfl, by decide +kernel, rfl, by decide +kernel, by decide +kernel⟩
theorem bd_month_length : Bdg "month_length" "month_length" s_month_length ["year", "month"] := fun _ _ _ _ _ _ us hl => match us, hl with | [_, _], _ => rfl
abbrev s_days_ahead : Stmt := top 15
theorem sc_days_ahead : FnScope ["year", "past"] ["year"] (defScope s_days_ahead) := ⟨rfl, rfl, rfl, by decide +kernel, rfl, by decide +kernel, by decide +kernel⟩
theorem bd_days_ahead : Bdg "days_ahead" "days_ahead" s_days_ahead ["year"] := fun _ _ _ _ _ _ us hl => match us, hl with | [_], _ => rfl
abbrev s_day_number : Stmt := top 16
theorem sc_day_number : FnScope ["year", "month", "day", "one"] ["year", "month", "day"] (defScope s_day_number) := ⟨rfl, rfl, rfl, by decide +kernel, rfl, by decide +kernel, by decide +kernel⟩
theorem bd_day_number : Bdg "day_number" "day_number" s_day_number ["year", "month", "day"] := fun _ _ _ _ _ _ us hl => match us, hl with | [_, _, _], _ => rfl
abbrev s_date_of : Stmt := top 17
theorem sc_date_of : FnScope ["number", "year", "rest", "month"] ["number"] (defScope s_date_of) := ⟨rfl, rfl, rfl, by decide +kernel, rfl, by decide +kernel, by decide +kernel⟩
theorem bd_date_of : Bdg "date_of" "date_of" s_date_of ["number"] := fun _ _ _ _ _ _ us hl => match us, hl with | [_], _ => rfl
abbrev s_weekday_of : Stmt := top 18
theorem sc_weekday_of : FnScope ["number"] ["number"] (defScope s_weekday_of) := ⟨rfl, rfl, rfl, by decide +kernel, rfl, by decide +kernel, by decide +kernel⟩
theorem bd_weekday_of : Bdg "weekday_of" "weekday_of" s_weekday_of ["number"] := fun _ _ _ _ _ _ us hl => match us, hl with | [_], _ => rfl
abbrev s_wrong_part : Stmt := top 19
theorem sc_wrong_part : FnScope ["year", "month", "day", "hour", "minute"] ["year", "month", "day", "hour", "minute"] (defScope s_wrong_part) := ⟨rfl, rfl, rfl, by decide +kernel, rfl, by decide +kernel, by decide +kernel⟩
theorem bd_wrong_part : Bdg "wrong_part" "wrong_part" s_wrong_part ["year", "month", "day", "hour", "minute"] := fun _ _ _ _ _ _ us hl => match us, hl with | [_, _, _, _, _], _ => rfl
abbrev s_moment_at : Stmt := top 23
theorem sc_moment_at : FnScope ["number", "year", "month", "day", "rest"] ["number"] (defScope s_moment_at) := ⟨rfl, rfl, rfl, by decide +kernel, rfl, by decide +kernel, by decide +kernel⟩
theorem bd_moment_at : Bdg "moment_at" "moment_at" s_moment_at ["number"] := fun _ _ _ _ _ _ us hl => match us, hl with | [_], _ => rfl
abbrev s_Moment_init : Stmt := inClass (top 24) 1
theorem sc_Moment_init : FnScope ["self", "year", "month", "day", "hour", "minute", "part"] ["self", "year", "month", "day", "hour", "minute"] (defScope s_Moment_init) := ⟨rfl, rfl, rfl, by decide +kernel, rfl, by decide +kernel, by decide +kernel⟩
abbrev s_Moment_at : Stmt := inClass (top 24) 2
theorem sc_Moment_at : FnScope ["number"] ["number"] (defScope s_Moment_at) := ⟨rfl, rfl, rfl, by decide +kernel, rfl, by decide +kernel, by decide +kernel⟩
theorem bd_Moment_at : Bdg "at" "Moment.at" s_Moment_at ["number"] := fun _ _ _ _ _ _ us hl => match us, hl with | [_], _ => rfl
abbrev s_Moment_lt : Stmt := inClass (top 24) 13
theorem sc_Moment_lt : FnScope ["self", "other"] ["self", "other"] (defScope s_Moment_lt) := ⟨rfl, rfl, rfl, by decide +kernel, rfl, by decide +kernel, by decide +kernel⟩
theorem bd_Moment_lt : Bdg "__lt__" "Moment.__lt__" s_Moment_lt ["self", "other"] := fun _ _ _ _ _ _ us hl => match us, hl with | [_, _], _ => rfl
abbrev s_Moment_le : Stmt := inClass (top 24) 14
theorem sc_Moment_le : FnScope ["self", "other"] ["self", "other"] (defScope s_Moment_le) := ⟨rfl, rfl, rfl, by decide +kernel, rfl, by decide +kernel, by decide +kernel⟩
theorem bd_Moment_le : Bdg "__le__" "Moment.__le__" s_Moment_le ["self", "other"] := fun _ _ _ _ _ _ us hl => match us, hl with | [_, _], _ => rfl
abbrev s_Moment_gt : Stmt := inClass (top 24) 15
theorem sc_Moment_gt : FnScope ["self", "other"] ["self", "other"] (defScope s_Moment_gt) := ⟨rfl, rfl, rfl, by decide +kernel, rfl, by decide +kernel, by decide +kernel⟩
theorem bd_Moment_gt : Bdg "__gt__" "Moment.__gt__" s_Moment_gt ["self", "other"] := fun _ _ _ _ _ _ us hl => match us, hl with | [_, _], _ => rfl
abbrev s_Moment_ge : Stmt := inClass (top 24) 16
theorem sc_Moment_ge : FnScope ["self", "other"] ["self", "other"] (defScope s_Moment_ge) := ⟨rfl, rfl, rfl, by decide +kernel, rfl, by decide +kernel, by decide +kernel⟩
theorem bd_Moment_ge : Bdg "__ge__" "Moment.__ge__" s_Moment_ge ["self", "other"] := fun _ _ _ _ _ _ us hl => match us, hl with | [_, _], _ => rfl
abbrev s_Moment_eq : Stmt := inClass (top 24) 17
theorem sc_Moment_eq : FnScope ["self", "other"] ["self", "other"] (defScope s_Moment_eq) := ⟨rfl, rfl, rfl, by decide +kernel, rfl, by decide +kernel, by decide +kernel⟩
theorem bd_Moment_eq : Bdg "__eq__" "Moment.__eq__" s_Moment_eq ["self", "other"] := fun _ _ _ _ _ _ us hl => match us, hl with | [_, _], _ => rfl
abbrev s_Moment_str : Stmt := inClass (top 24) 18
theorem sc_Moment_str : FnScope ["self"] ["self"] (defScope s_Moment_str) := ⟨rfl, rfl, rfl, by decide +kernel, rfl, by decide +kernel, by decide +kernel⟩
theorem bd_Moment_str : Bdg "__str__" "Moment.__str__" s_Moment_str ["self"] := fun _ _ _ _ _ _ us hl => match us, hl with | [_], _ => rfl
abbrev s__law_pen : Stmt := top 26
theorem sc__law_pen : FnScope ["_law_script"] ["_law_script"] (defScope s__law_pen) := ⟨rfl, rfl, rfl, by decide +kernel, rfl, by decide +kernel, by decide +kernel⟩
theorem bd__law_pen : Bdg "_law_pen" "_law_pen" s__law_pen ["_law_script"] := fun _ _ _ _ _ _ us hl => match us, hl with | [_], _ => rfl
abbrev s__law_draw : Stmt := top 27
theorem sc__law_draw : FnScope ["_law_pen_here", "_law_many", "_law_digit", "_law_at", "_law_cell", "_law_great", "_law_mixed"] ["_law_pen_here", "_law_many"] (defScope s__law_draw) := ⟨rfl, rfl, rfl, by decide +kernel, rfl, by decide +kernel, by decide +kernel⟩
theorem bd__law_draw : Bdg "_law_draw" "_law_draw" s__law_draw ["_law_pen_here", "_law_many"] := fun _ _ _ _ _ _ us hl => match us, hl with | [_, _], _ => rfl
abbrev s__law_pick : Stmt := top 28
theorem sc__law_pick : FnScope ["_law_pen_here", "_law_some"] ["_law_pen_here", "_law_some"] (defScope s__law_pick) := ⟨rfl, rfl, rfl, by decide +kernel, rfl, by decide +kernel, by decide +kernel⟩
theorem bd__law_pick : Bdg "_law_pick" "_law_pick" s__law_pick ["_law_pen_here", "_law_some"] := fun _ _ _ _ _ _ us hl => match us, hl with | [_, _], _ => rfl
abbrev s__law_days : Stmt := top 29
theorem sc__law_days : FnScope ["_law_year", "_law_month", "_law_day", "_law_past", "_law_turn"] ["_law_year", "_law_month", "_law_day"] (defScope s__law_days) := ⟨rfl, rfl, rfl, by decide +kernel, rfl, by decide +kernel, by decide +kernel⟩
theorem bd__law_days : Bdg "_law_days" "_law_days" s__law_days ["_law_year", "_law_month", "_law_day"] := fun _ _ _ _ _ _ us hl => match us, hl with | [_, _, _], _ => rfl
abbrev s__law_row : Stmt := top 30
theorem sc__law_row : FnScope ["_law_pen_here", "_law_found", "_law_k", "_law_far", "_law_near"] ["_law_pen_here"] (defScope s__law_row) := ⟨rfl, rfl, rfl, by decide +kernel, rfl, by decide +kernel, by decide +kernel⟩
theorem bd__law_row : Bdg "_law_row" "_law_row" s__law_row ["_law_pen_here"] := fun _ _ _ _ _ _ us hl => match us, hl with | [_], _ => rfl
abbrev s__law_compared : Stmt := top 31
theorem sc__law_compared : FnScope ["_law_one", "_law_other"] ["_law_one", "_law_other"] (defScope s__law_compared) := ⟨rfl, rfl, rfl, by decide +kernel, rfl, by decide +kernel, by decide +kernel⟩
theorem bd__law_compared : Bdg "_law_compared" "_law_compared" s__law_compared ["_law_one", "_law_other"] := fun _ _ _ _ _ _ us hl => match us, hl with | [_, _], _ => rfl
abbrev s_law : Stmt := top 32
theorem sc_law : FnScope ["_law_script", "_law_pen_here", "_law_turn", "_law_numbers", "_law_made", "_law_number", "_law_k", "_law_j", "_law_one", "_law_other", "_law_due", "_law_parts", "_law_odd"] ["_law_script"] (defScope s_law) := ⟨rfl, rfl, rfl, by decide +kernel, rfl, by decide +kernel, by decide +kernel⟩
theorem bd_law : Bdg "law" "law" s_law ["_law_script"] := fun _ _ _ _ _ _ us hl => match us, hl with | [_], _ => rfl
end RB
namespace RB
open PySem PySem.Spec PyProof.Rows L2
local macro_rules | `(tactic| walk_at "lk") => `(tactic| repeat (first | exact look_hit | exact look_nil | refine look_miss (by decide +kernel) ?_))
local macro_rules | `(tactic| walk_at "rs") => `(tactic| try simp only [tAsg, gName, tVar, tC, tOp, rI, rI0, rU, tUn, tIfS, tTest, tB, tRet, tRetN, tDrop, tCal, tCons, tNil, tTup, tLst, tCB, tAnd, tOr, tNot, tAndV, tOrV, tNotV, tIf, tCmp, t2I, rEq, rNe, tNext, tChain, tSl, tPart, tNoPart, tPar, gSub, rSetL, rIxL, rIxT, rSlL, tSMeth, tMak, rOwnC, tFmtSp, tBM, rAppend, tDrop, gTup, gCons, gNil, iList, iTup, iRng1, iRng2, tWhile, tAug, ipI, tFld, sFld, rSum, rIsi,
  L2.start, cxK, List.map_cons, List.map_nil, List.length_cons, List.length_nil, Nat.zero_add, Nat.reduceAdd, Nat.reduceSub, List.replicate_succ, List.replicate_zero, List.cons_append, List.nil_append, List.append_nil,
  List.getElem?_cons_zero, List.getElem?_cons_succ, List.set_cons_zero, List.set_cons_succ, Option.some.injEq, V.int.injEq, V.ref.injEq, V.bl.injEq, V.str.injEq, List.cons.injEq, reduceCtorEq, and_true, true_and, and_assoc, exists_eq_left', exists_eq_left, exists_eq_right, exists_and_left, exists_and_right, false_and, and_false, or_false, false_or, exists_const, exists_false, if_false, if_true, eq_self, wipe, tYes, Bool.false_eq_true,  scal, decide_eq_true_eq, Bool.not_eq_true', decide_eq_false_iff_not])
section
variable {P : Program} {w : World} {K : PySem.W.Frag} {mg : Str → Option Value} {base : Heap}
theorem ok_law_pen (T : Bn mg) (d : DefIn K mg "_law_pen" "_law_pen" s__law_pen ["_law_script"]) : Has P w K mg base CX0 1 "_law_pen" ["_law_script"] (sp1 (bPen K)) := by
  refine has_of d sc__law_pen (fun vs H Q E h => by obtain ⟨x, rfl, _⟩ := h; rfl) (fun f cdv A outer s H vs Q E hr h => ?_)
  obtain ⟨_, rfl, a, ns, rfl, hS, q⟩ := h
  refine ⟨_, pss_one (ps_ret (pe_lst (pa_cons (pe_callTy call_list_of (by rfl) T.b_list (by decide +kernel) (pa_cons (pe_slice sl_list (pv 0) po_none (po_some (pe_int))) pa_nil)) (pa_cons (pe_int) (pa_cons (pe_int) pa_nil))))), ?_⟩
  walk_at "rs"
  refine ⟨_, hS, fun b hb => ⟨_, .inl (SqL.of upd_same), fun c hc => ⟨by decide, fun p hp => ?_⟩⟩⟩
  have e : cutV (ns.map V.int) none (some 63) = (ns.take 63).map V.int := by
    unfold cutV
    rw [HT.sIx_none, show (some (63 : Int)) = some (((63 : Nat) : Int)) from rfl, HT.sIx_nat (ns.map V.int).length (ns.map V.int).length 63, List.drop_zero, List.map_take, Nat.sub_zero, List.length_map]
    by_cases h : 63 ≤ ns.length
    · rw [Nat.min_eq_left h]
    · rw [Nat.min_eq_right (by omega), List.take_of_length_le (by rw [List.length_map]; omega), List.take_of_length_le (by rw [List.length_map]; omega)]
  rw [e] at hc hp ⊢
  have n1 : c ≠ b := fun z => by rw [z, upd_same] at hc; cases hc
  have n2 : p ≠ c := fun z => by rw [z, upd_same] at hp; cases hp
  have hcb : H c = none := by rw [upd_ne n1] at hc; exact hc
  have s1 : Same H (upd H b (.lst ((ns.take 63).map V.int))) := same_new hb
  have s2 := s1.trans (same_new (o := .lst ((ns.take 63).map V.int)) hc)
  refine q p c _ ⟨⟨ns.take 63, 0, 0, upd_same, by rw [upd_ne n2.symm, upd_same], by rw [List.length_take]; omega, Nat.le_refl _, Int.le_refl _⟩⟩ (s2.trans (same_new hp)) (s2.free hp) hcb
theorem ok_law_draw (T : Bn mg) (d : DefIn K mg "_law_draw" "_law_draw" s__law_draw ["_law_pen_here", "_law_many"]) : Has P w K mg base CX0 1 "_law_draw" ["_law_pen_here", "_law_many"] (sp2 bDraw) := by
  refine has_of d sc__law_draw (fun vs H Q E h => by obtain ⟨x, y, rfl, _⟩ := h; rfl) (fun f cdv A outer s H vs Q E hr h => ?_)
  obtain ⟨_, _, rfl, p, c, n, many, rfl, rfl, hP, hn, hm0, hm1, q⟩ := h
  refine ⟨_, Evl.pss_cut (ps_if (pt_cmpR op_gt (pe_ix ix_list (pv 0) (pe_int) (fun _ _ => rfl)) (pe_int) (nomark _)) (Evl.pss_cut (ps_set (i := 2) sc__law_draw.nd rfl (Or.inl rfl) (pe_op op_mod (pe_callTy call_int1 (by rfl) T.b_int (by decide +kernel) (pa_cons (pe_ix ix_list (pv 0) (pe_int) (fun _ _ => rfl)) pa_nil)) (pv 1)))
      (Evl.pss_cut (ps_asg (pe_op op_fdiv (pe_callTy call_int1 (by rfl) T.b_int (by decide +kernel) (pa_cons (pe_ix ix_list (pv 0) (pe_int) (fun _ _ => rfl)) pa_nil)) (pv 1)) (pg_sub (pv 0) (pe_int) set_list))
      (pss_one (ps_ret (pv 2))))) (pss_nil))
      (Evl.pss_cut (ps_set (i := 3) sc__law_draw.nd rfl (Or.inl rfl) (pe_ix ix_list (pv 0) (pe_int) (fun _ _ => rfl)))
      (Evl.pss_cut (ps_asg (pe_op op_add (pv 3) (pe_int)) (pg_sub (pv 0) (pe_int) set_list))
      (Evl.pss_cut (ps_set (i := 4) sc__law_draw.nd rfl (Or.inl rfl) (pe_op op_add (pe_op op_mul (pe_int) (pv 3)) (pe_int)))
      (Evl.pss_cut (ps_if (pt_cmpR (op_neD hr.units) (pe_ix ix_list (pv 0) (pe_int) (fun _ _ => rfl)) (pe_lst pa_nil) (nomark _)) (pss_one (ps_set (i := 4) sc__law_draw.nd rfl (Or.inl rfl) (pe_ix ix_list (pe_ix ix_list (pv 0) (pe_int) (fun _ _ => rfl)) (pe_op op_mod (pe_callTy call_int1 (by rfl) T.b_int (by decide +kernel) (pa_cons (pv 3) pa_nil)) (pe_callB call_len_seq (by rfl) T.b_len PySem.boot_len (pa_cons (pe_ix ix_list (pv 0) (pe_int) (fun _ _ => rfl)) pa_nil))) (fun _ _ => rfl)))) (pss_nil))
      (Evl.pss_cut (ps_if (PW.pt (pw_and (pt_cmpR op_lt (pv 3) (pe_callB call_len_seq (by rfl) T.b_len PySem.boot_len (pa_cons (pe_ix ix_list (pv 0) (pe_int) (fun _ _ => rfl)) pa_nil)) (nomark _)) (pw_and1 (pt_cmpR op_ge (pe_callB call_abs (by rfl) T.b_abs (by decide +kernel) (pa_cons (pv 4) pa_nil)) (pe_op op_pow (pe_int) (pe_int)) (nomark _))))) (Evl.pss_cut (ps_set (i := 5) sc__law_draw.nd rfl (Or.inl rfl) (pe_op op_add (pe_op op_mul (pe_int) (pe_op op_sub (pe_callB call_abs (by rfl) T.b_abs (by decide +kernel) (pa_cons (pv 4) pa_nil)) (pe_op op_pow (pe_int) (pe_int)))) (pe_callTy call_int1 (by rfl) T.b_int (by decide +kernel) (pa_cons (pe_cmpR op_lt (pv 4) (pe_int) (nomark _)) pa_nil))))
      (Evl.pss_cut (ps_asg (pe_op op_fdiv (pe_callTy call_int1 (by rfl) T.b_int (by decide +kernel) (pa_cons (pv 5) pa_nil)) (pv 1)) (pg_sub (pv 0) (pe_int) set_list))
      (pss_one (ps_ret (pe_op op_mod (pe_callTy call_int1 (by rfl) T.b_int (by decide +kernel) (pa_cons (pv 5) pa_nil)) (pv 1)))))) (pss_nil))
      (Evl.pss_cut (ps_set (i := 6) sc__law_draw.nd rfl (Or.inl rfl) (pe_op op_mod (pe_callTy call_int1 (by rfl) T.b_int (by decide +kernel) (pa_cons (pe_op op_pow (pe_op op_add (pe_op op_add (pe_op op_mod (pe_callTy call_int1 (by rfl) T.b_int (by decide +kernel) (pa_cons (pv 4) pa_nil)) (pe_int)) (pe_op op_mul (pe_int) (pv 3))) (pe_int)) (pe_int)) pa_nil)) (pe_int)))
      (Evl.pss_cut (ps_set (i := 6) sc__law_draw.nd rfl (Or.inl rfl) (pe_op op_mod (pe_callTy call_int1 (by rfl) T.b_int (by decide +kernel) (pa_cons (pe_op op_pow (pe_op op_add (pe_op op_add (pe_op op_mul (pv 6) (pe_op op_add (pe_op op_mul (pe_int) (pv 3)) (pe_int))) (pe_op op_mul (pe_op op_mul (pe_int) (pv 3)) (pv 3))) (pe_int)) (pe_int)) pa_nil)) (pe_int)))
      (pss_one (ps_ret (pe_op op_mod (pe_callTy call_int1 (by rfl) T.b_int (by decide +kernel) (pa_cons (pe_op op_fdiv (pv 6) (pe_int)) pa_nil)) (pv 1))))))))))), ?_⟩
  refine st_gen fun N hN => ?_
  walk_at "rs"
  obtain ⟨⟨cs, k, gr, hp, hc, hl, hk, hg⟩⟩ := id hP
  refine ⟨_, SqL.of hp, .int gr, rfl, gr, rfl, ?_⟩
  walk_at "rs"
  refine ite2 (fun c1 => ?_) (fun c1 => ?_)
  · refine st_gen fun N2 hN2 => ?_
    walk_at "rs"
    refine ⟨_, SqL.of hp, _, rfl, .inl ⟨gr, rfl, hm0, hN2 _ _ ?_⟩⟩
    refine st_gen fun N3 hN3 => ?_
    walk_at "rs"
    refine ⟨_, SqL.of hp, _, rfl, .inl ⟨gr, rfl, ?_⟩⟩
    refine ⟨⟨hm0, hm1⟩, _, hp, _, rfl, hN3 _ _ ?_⟩
    walk_at "rs"
    refine q _ _ (Int.emod_nonneg _ (by omega)) (Int.emod_lt_of_pos _ hm0) ⟨⟨cs, k, gr / many, upd_same, by rw [upd_ne hP.pc.symm]; exact hc, hl, by omega, Int.ediv_nonneg hg (by omega)⟩⟩ (But.wr But.refl)
  · refine hN _ _ ?_
    refine st_gen fun N1 hN1 => ?_
    walk_at "rs"
    refine ⟨_, SqL.of hp, _, rfl, hN1 _ _ ?_⟩
    refine st_gen fun N2 hN2 => ?_
    walk_at "rs"
    refine ⟨_, hp, _, rfl, hN2 _ (upd H p (.lst [.ref c, .int ((k : Int) + 1), .int gr])) ?_⟩
    -- the pen with its place moved on
    have hp1 : (upd H p (.lst [.ref c, .int ((k : Int) + 1), .int gr])) p = some (.lst [.ref c, .int (((k + 1 : Nat) : Int)), .int gr]) := upd_same
    have hc1 : (upd H p (.lst [.ref c, .int ((k : Int) + 1), .int gr])) c = some (.lst (cs.map V.int)) := by rw [upd_ne hP.pc.symm]; exact hc
    have b1 : But p H (upd H p (.lst [.ref c, .int ((k : Int) + 1), .int gr])) := But.wr But.refl
    have pc := hP.pc
    generalize upd H p (.lst [.ref c, .int ((k : Int) + 1), .int gr]) = H1 at hp1 hc1 b1 ⊢
    refine st_gen fun N3 hN3 => ?_
    walk_at "rs"
    refine ⟨.inl ⟨by decide, by decide⟩, hN3 _ _ ?_⟩
    refine st_cut (fun σ H2 => ∃ (z : Int), σ = [some (.ref p), some (.int many), none, some (.int k), some (.int z), none, none] ∧ H2 p = some (.lst [.ref c, .int (((k + 1 : Nat) : Int)), .int gr]) ∧ H2 c = some (.lst (cs.map V.int)) ∧ But p H H2) ?_ (fun σ H2 hM => ?_)
    · walk_at "rs"
      refine ⟨_, SqL.of hp1, _, rfl, Nat.zero_le _, fun b hb => ?_⟩
      have nb : b ≠ p := fun z => by rw [z, hp1] at hb; cases hb
      have ncb : c ≠ b := fun z => by rw [← z, hc1] at hb; cases hb
      have hp2 : upd H1 b (.lst []) p = some (.lst [.ref c, .int (((k + 1 : Nat) : Int)), .int gr]) := by rw [upd_ne nb.symm]; exact hp1
      have hc2 : upd H1 b (.lst []) c = some (.lst (cs.map V.int)) := by rw [upd_ne ncb]; exact hc1
      refine rNe_ints (ms := []) (SqL.of hc2) (SqL.of upd_same) ⟨_, rfl, ?_⟩
      by_cases z : cs = []
      · rw [z, decide_eq_true rfl]
        refine iteF ?_
        rw [z] at hc2
        exact ⟨hp2, hc2, b1.new hb⟩
      · rw [decide_eq_false z]
        refine iteT ?_
        have hl' : (cs.map V.int) ≠ [] := fun e => z (List.map_eq_nil_iff.mp e)
        obtain ⟨v, hv, av⟩ := at_mod (z := (k : Int)) hl'
        obtain ⟨i, _, rfl⟩ := List.mem_map.mp hv
        refine ⟨_, SqL.of hp2, _, rfl, _, SqL.of hp2, _, rfl, _, rfl, _, .inl (SqL.of hc2), ?_, _, rfl, _, SqL.of hc2, _, av, ⟨i, rfl⟩, hp2, hc2, b1.new hb⟩
        have := List.length_pos_iff.mpr hl'
        omega
    obtain ⟨z, rfl, hp2, hc2, b2⟩ := hM
    refine st_gen fun N4 hN4 => ?_
    walk_at "rs"
    refine ⟨_, SqL.of hp2, _, rfl, _, rfl, _, .inl (SqL.of hc2), ?_⟩
    have rest : N4 [some (.ref p), some (.int many), none, some (.int k), some (.int z), none, none] H2 := by
      refine hN4 _ _ ?_
      refine st_gen fun N5 hN5 => ?_
      walk_at "rs"
      have m1 := Int.emod_nonneg z (b := 2147483563) (by decide)
      refine ⟨by decide, small_mul (by decide) (by decide), pow_ok (by decide) (by decide) (by omega) (by omega), by decide, hN5 _ _ ?_⟩
      generalize hg1 : ((z % 2147483563 + _ * (k : Int) + _) ^ Int.toNat 5 % 2147483629) = m
      have m2 : 0 ≤ m ∧ m < 2147483648 := by
        rw [← hg1]
        exact ⟨Int.emod_nonneg _ (by decide), Int.lt_trans (Int.emod_lt_of_pos _ (by decide)) (by decide)⟩
      refine st_gen fun N6 hN6 => ?_
      walk_at "rs"
      have mx := fun c d f h1 h2 h3 h4 h5 h6 => mix_ok (m := m) (k := (k : Int)) (c := c) (d := d) (f := f) m2.1 (by omega) (by omega) (by omega) h1 h2 h3 h4 h5 h6
      refine ⟨small_mul (by decide) (by decide), small_mul m2.1 (by omega), small_mul (by decide) (by decide), small_mul (by omega) (by omega), pow_ok (by decide) (by decide) (mx _ _ _ (by decide) (by decide) (by decide) (by decide) (by decide) (by decide)).1 (mx _ _ _ (by decide) (by decide) (by decide) (by decide) (by decide) (by decide)).2, by decide, hN6 _ _ ?_⟩
      walk_at "rs"
      refine ⟨⟨by decide, by decide⟩, hm0, ?_⟩
      exact q _ _ (Int.emod_nonneg _ (by omega)) (Int.emod_lt_of_pos _ hm0) ⟨⟨cs, k + 1, gr, hp2, hc2, hl, by omega, hg⟩⟩ b2
    refine ite2 (fun _ => ⟨⟨by decide, by decide, by decide⟩, ?_⟩) (fun _ => rest)
    refine ite2 (fun _ => ?_) (fun _ => rest)
    refine st_gen fun N5 hN5 => ?_
    walk_at "rs"
    refine ⟨⟨by decide, by decide, by decide⟩, small_mul (by decide) (by decide), hN5 _ _ ?_⟩
    have gn : 0 ≤ (2 * ((if z < 0 then -z else z) - 10 ^ Int.toNat 18) + if z < 0 then 1 else 0) := by
      have e : (10 : Int) ^ Int.toNat 18 = 1000000000000000000 := by decide
      omega
    generalize (2 * ((if z < 0 then -z else z) - 10 ^ Int.toNat 18) + if z < 0 then 1 else 0) = gg at gn ⊢
    refine st_gen fun N6 hN6 => ?_
    walk_at "rs"
    refine ⟨⟨hm0, hm1⟩, _, hp2, _, rfl, hN6 _ _ ?_⟩
    walk_at "rs"
    refine ⟨hm0, ?_⟩
    refine q _ _ (Int.emod_nonneg _ (by omega)) (Int.emod_lt_of_pos _ hm0) ⟨⟨cs, k + 1, gg / many, upd_same, by rw [upd_ne pc.symm]; exact hc2, hl, by omega, Int.ediv_nonneg gn (by omega)⟩⟩ (b2.wr)
theorem ok_law_pick (T : Bn mg) (d : DefIn K mg "_law_pick" "_law_pick" s__law_pick ["_law_pen_here", "_law_some"]) (h_draw : Has P w K mg base CX0 1 "_law_draw" ["_law_pen_here", "_law_many"] (sp2 bDraw)) :
    Has P w K mg base CX0 2 "_law_pick" ["_law_pen_here", "_law_some"] (sp2 (bPick K)) := by
  refine has_of d sc__law_pick (fun vs H Q E h => by obtain ⟨x, y, rfl, _⟩ := h; rfl) (fun f cdv A outer s H vs Q E hr h => ?_)
  obtain ⟨_, _, rfl, p, c, n, a, xs, rfl, rfl, hP, hn, hS, na, hne, hlen, q⟩ := h
  refine ⟨_, pss_one (ps_ret (pe_ix ix_list (pv 1) (pe_callH h_draw hr pass0 (pa_cons (pv 0) (pa_cons (pe_callB call_len_seq (by rfl) T.b_len PySem.boot_len (pa_cons (pv 1) pa_nil)) pa_nil))) (fun _ _ => rfl))), ?_⟩
  walk_at "rs"
  refine ⟨_, .inl hS, _, _, rfl, p, c, n, _, rfl, rfl, hP, hn, ?_, ?_, fun r H1 r0 r1 P1 b1 => ?_⟩
  · have := List.length_pos_iff.mpr hne
    omega
  · omega
  obtain ⟨v, hv, av⟩ := at_in r0 r1
  exact ⟨_, _, rfl, b1.sqL hS na, _, av, q v H1 hv P1 b1⟩
end
end RB
namespace RB
open PySem PySem.Spec PyProof.Rows L2
local macro_rules | `(tactic| walk_at "lk") => `(tactic| repeat (first | exact look_hit | exact look_nil | refine look_miss (by decide +kernel) ?_))
local macro_rules | `(tactic| walk_at "rs") => `(tactic| try simp only [tAsg, gName, tVar, tC, tOp, rI, rI0, rU, tUn, tIfS, tTest, tB, tRet, tRetN, tDrop, tCal, tCons, tNil, tTup, tLst, tCB, tAnd, tOr, tNot, tAndV, tOrV, tNotV, tIf, tCmp, t2I, rEq, rNe, tNext, tChain, tSl, tPart, tNoPart, tPar, gSub, rSetL, rIxL, rIxT, rSlL, tSMeth, tMak, rOwnC, tFmtSp, tBM, rAppend, tDrop, gTup, gCons, gNil, iList, iTup, iRng1, iRng2, tWhile, tAug, ipI, tFld, sFld, rSum, rIsi,
  L2.start, cxK, List.map_cons, List.map_nil, List.length_cons, List.length_nil, Nat.zero_add, Nat.reduceAdd, Nat.reduceSub, List.replicate_succ, List.replicate_zero, List.cons_append, List.nil_append, List.append_nil,
  List.getElem?_cons_zero, List.getElem?_cons_succ, List.set_cons_zero, List.set_cons_succ, Option.some.injEq, V.int.injEq, V.ref.injEq, V.bl.injEq, V.str.injEq, List.cons.injEq, reduceCtorEq, and_true, true_and, and_assoc, exists_eq_left', exists_eq_left, exists_eq_right, exists_and_left, exists_and_right, false_and, and_false, or_false, false_or, exists_const, exists_false, if_false, if_true, eq_self, wipe, tYes, Bool.false_eq_true,  scal, decide_eq_true_eq, Bool.not_eq_true', decide_eq_false_iff_not])
section
variable {P : Program} {w : World} {K : PySem.W.Frag} {mg : Str → Option Value} {base : Heap}
theorem ok_is_whole (T : Bn mg) (dd : DefIn K mg "is_whole" "is_whole" s_is_whole ["value"]) : Has P w K mg base CX0 1 "is_whole" ["value"] (sp1 (bWhole K)) := by
  refine has_of dd sc_is_whole (fun vs H Q E h => by obtain ⟨x0, rfl, _⟩ := h; rfl) (fun f cdv A outer s H vs Q E hr h => ?_)
  obtain ⟨_, rfl, h⟩ := h
  refine ⟨_, pss_one (ps_ret (pe_and (pe_callB call_isi (by rfl) T.b_isinstance (by decide +kernel) (pa_cons (pv 0) (pa_cons (pe_bltn (v := .ty "int") (u := .type "int") (by rfl) T.b_int (by decide +kernel) rfl) pa_nil))) (pe_one (pe_not (pe_callB call_isi (by rfl) T.b_isinstance (by decide +kernel) (pa_cons (pv 0) (pa_cons (pe_bltn (v := .ty "bool") (u := .type "bool") (by rfl) T.b_bool (by decide +kernel) rfl) pa_nil))))))), ?_⟩
  obtain ⟨⟨t, b1, b2, ty, k1, k2, e⟩, q⟩ := h
  walk_at "rs"
  refine ⟨t, _, .ty _, ty, b1, k1, ?_⟩
  cases b1 with
  | true => exact iteT ⟨t, _, .ty _, ty, b2, k2, by rw [← e] at q; exact q⟩
  | false => exact iteF (by rw [← e] at q; exact q)
theorem ok_is_between (T : Bn mg) (dd : DefIn K mg "is_between" "is_between" s_is_between ["value", "low", "high"]) (h_is_whole : Has P w K mg base CX0 1 "is_whole" ["value"] (sp1 (bWhole K))) : Has P w K mg base CX0 2 "is_between" ["value", "low", "high"] (sp3 (bBetween K)) := by
  refine has_of dd sc_is_between (fun vs H Q E h => by obtain ⟨x0, x1, x2, rfl, _⟩ := h; rfl) (fun f cdv A outer s H vs Q E hr h => ?_)
  obtain ⟨_, _, _, rfl, h⟩ := h
  refine ⟨_, pss_one (ps_ret (pe_and (pe_callH h_is_whole hr pass0 (pa_cons (pv 0) pa_nil)) (pe_one (pe_chain op_le op_le (pv 1) (pv 0) (pv 2))))), ?_⟩
  obtain ⟨lo, hi, rfl, rfl, hw, q⟩ := h
  walk_at "rs"
  refine ⟨_, rfl, hw, _, rfl, ?_⟩
  rename_i v
  cases v with
  | int n =>
    refine iteT ?_
    walk_at "rs"
    have q' : Q (.bl (decide (lo ≤ n) && decide (n ≤ hi))) H := q
    refine ite2 (fun c => ?_) (fun c => ?_)
    · rw [decide_eq_true c] at q'
      exact q'
    · rw [decide_eq_false c] at q'
      exact q'
  | _ => exact iteF q
theorem ok_is_leap (T : Bn mg) (dd : DefIn K mg "is_leap" "is_leap" s_is_leap ["year"]) : Has P w K mg base CX0 1 "is_leap" ["year"] (sp1 bLeap) := by
  refine has_of dd sc_is_leap (fun vs H Q E h => by obtain ⟨x0, rfl, _⟩ := h; rfl) (fun f cdv A outer s H vs Q E hr h => ?_)
  obtain ⟨_, rfl, h⟩ := h
  refine ⟨_, pss_one (ps_ret (pe_and (pe_cmpR op_eq (pe_op op_mod (pv 0) (pe_int)) (pe_int) (nomark _)) (pe_one (pe_or (pe_cmpR op_ne (pe_op op_mod (pv 0) (pe_int)) (pe_int) (nomark _)) (pe_one (pe_cmpR op_eq (pe_op op_mod (pv 0) (pe_int)) (pe_int) (nomark _))))))), ?_⟩
  obtain ⟨y, rfl, q⟩ := h
  unfold Cal.leap at q
  walk_at "rs"
  refine ⟨by decide, ?_⟩
  refine ite2 (fun c => ⟨by decide, ?_⟩) (fun c => ?_)
  · rw [decide_eq_true c] at q
    refine ite2 (fun c2 => ?_) (fun c2 => ⟨by decide, ?_⟩)
    · rw [decide_eq_false c2] at q
      exact q
    · rw [decide_eq_true (Classical.not_not.mp c2)] at q
      exact q
  · rw [decide_eq_false c] at q
    exact q
theorem ok_month_length (T : Bn mg) (dd : DefIn K mg "month_length" "month_length" s_month_length ["year", "month"]) (h_is_leap : Has P w K mg base CX0 1 "is_leap" ["year"] (sp1 bLeap)) {aL : Addr} (c_LENGTHS : ConstIn mg "LENGTHS" (.ref aL)) (hL : ∀ H, SqT K H aL (Cal.LEN.map V.int)) : Has P w K mg base CX0 2 "month_length" ["year", "month"] (sp2 bMl) := by
  refine has_of dd sc_month_length (fun vs H Q E h => by obtain ⟨x0, x1, rfl, _⟩ := h; rfl) (fun f cdv A outer s H vs Q E hr h => ?_)
  obtain ⟨_, _, rfl, h⟩ := h
  refine ⟨_, pss_one (ps_ret (pe_op op_add (pe_ix ix_tup (pe_globC c_LENGTHS (by rfl)) (pe_op op_sub (pv 1) (pe_int)) (fun _ _ => rfl)) (pe_callTy call_int1 (by rfl) T.b_int (by decide +kernel) (pa_cons (pe_and (pe_cmpR op_eq (pv 1) (pe_int) (nomark _)) (pe_one (pe_callH h_is_leap hr pass0 (pa_cons (pv 0) pa_nil)))) pa_nil)))), ?_⟩
  obtain ⟨y, m, rfl, rfl, h1, h2, q⟩ := h
  have at_ : atI (Cal.LEN.map V.int) (m - 1) = some (.int (Cal.LEN.getD (m - 1).toNat 0)) :=
    Cal.m_cases (P := fun m => atI (Cal.LEN.map V.int) (m - 1) = some (.int (Cal.LEN.getD (m - 1).toNat 0))) h1 h2 rfl rfl rfl rfl rfl rfl rfl rfl rfl rfl rfl rfl
  walk_at "rs"
  refine ⟨_, hL H, _, at_, ?_⟩
  unfold Cal.ml at q
  refine ite2 (fun c => ⟨_, rfl, y, rfl, .inr ⟨_, rfl, _, rfl, ?_⟩⟩) (fun c => ⟨_, rfl, ?_⟩)
  · cases hl : Cal.leap y with
    | true =>
      rw [if_pos ⟨c, hl⟩] at q
      exact q
    | false =>
      rw [if_neg (fun z => by rw [hl] at z; exact absurd z.2 (by decide))] at q
      exact q
  · rw [if_neg (fun z => c z.1)] at q
    exact q
theorem ok_days_ahead (T : Bn mg) (dd : DefIn K mg "days_ahead" "days_ahead" s_days_ahead ["year"]) : Has P w K mg base CX0 1 "days_ahead" ["year"] (sp1 bDA) := by
  refine has_of dd sc_days_ahead (fun vs H Q E h => by obtain ⟨x0, rfl, _⟩ := h; rfl) (fun f cdv A outer s H vs Q E hr h => ?_)
  obtain ⟨_, rfl, h⟩ := h
  refine ⟨_, Evl.pss_cut (ps_set (i := 1) sc_days_ahead.nd rfl (Or.inl rfl) (pe_op op_sub (pv 0) (pe_int)))
      (pss_one (ps_ret (pe_op op_add (pe_op op_sub (pe_op op_add (pe_op op_mul (pe_int) (pv 1)) (pe_op op_fdiv (pv 1) (pe_int))) (pe_op op_fdiv (pv 1) (pe_int))) (pe_op op_fdiv (pv 1) (pe_int))))), ?_⟩
  obtain ⟨y, rfl, q⟩ := h
  refine st_gen fun N hN => ?_
  walk_at "rs"
  refine hN _ _ ?_
  walk_at "rs"
  exact ⟨small_mul (by decide) (by decide), ⟨by decide, by decide⟩, ⟨by decide, by decide⟩, ⟨by decide, by decide⟩, q⟩
theorem ok_day_number (T : Bn mg) (dd : DefIn K mg "day_number" "day_number" s_day_number ["year", "month", "day"]) (h_days_ahead : Has P w K mg base CX0 1 "days_ahead" ["year"] (sp1 bDA)) (h_month_length : Has P w K mg base CX0 2 "month_length" ["year", "month"] (sp2 bMl)) : Has P w K mg base CX0 3 "day_number" ["year", "month", "day"] (sp3 bDn) := by
  refine has_of dd sc_day_number (fun vs H Q E h => by obtain ⟨x0, x1, x2, rfl, _⟩ := h; rfl) (fun f cdv A outer s H vs Q E hr h => ?_)
  obtain ⟨_, _, _, rfl, h⟩ := h
  refine ⟨_, pss_one (ps_ret (pe_op op_sub (pe_op op_add (pe_op op_add (pe_callH h_days_ahead hr pass0 (pa_cons (pv 0) pa_nil)) (pe_callB (cr_sum rfl) (by rfl) T.b_sum (by decide +kernel) (pa_cons (pe_lc (own := [("one", 3)]) (g := gName 3) (by rfl) sc_day_number.nd (pi_range2 (by rfl) T.b_range (pa_cons (pe_int) (pa_cons (pv 1) pa_nil))) (blkOk_by (own := [("one", 3)]) (N := ["year", "month", "day", "one"]) (sc := defScope s_day_number) (by decide +kernel)) (fun _ _ _ _ _ => pg_name (i := 3) sc_day_number.nd rfl (Or.inl rfl)) (fun _ _ _ _ _ => pts_nil) (fun _ _ _ _ _ => (pe_callH h_month_length hr pass0 (pa_cons (pv 0) (pa_cons (pv 3) pa_nil))))) pa_nil))) (pv 2)) (pe_int))), ?_⟩
  obtain ⟨y, m, d, rfl, rfl, rfl, h1, h2, q⟩ := h
  walk_at "rs"
  refine ⟨_, rfl, y, rfl, ?_⟩
  have b62 : (2 : Int) ^ 62 = 4611686018427387904 := by decide
  refine ⟨_, rfl, 1, m, rfl, by rw [b62]; omega, fun D hD => ?_⟩
  refine lc_range (lo := 1) (n := (m - 1).toNat) (fun i H' => H' D = some (.lst ((List.range i).map fun (k : Nat) => V.int (Cal.ml y (1 + (k : Int))))) ∧ Same H H') ⟨upd_same, same_new hD⟩ (fun i H' hi hP => ?_) (fun H' hP => ?_)
  · refine ⟨rfl, ?_⟩
    walk_at "rs"
    refine ⟨_, _, rfl, y, 1 + (i : Int), rfl, rfl, by omega, by omega, _, hP.1, ?_, ?_, fun b o e => ?_⟩
    · rw [List.length_map, List.length_range]
      exact small1000 (by omega)
    · rw [upd_same, List.range_succ, List.map_append]
      rfl
    · rw [upd_ne (ne_of_none e hD)]
      exact hP.2 _ _ e
  · have e : ((List.range (m - 1).toNat).map fun (k : Nat) => V.int (Cal.ml y (1 + (k : Int)))) = (((List.range (m - 1).toNat).map fun (k : Nat) => Cal.ml y (1 + (k : Int)))).map V.int := by
      rw [List.map_map]
      rfl
    refine ⟨_, rfl, _, SqL.of (by rw [hP.1, e]), _, rfl, ?_⟩
    walk_at "rs"
    have e2 : (((List.range (m - 1).toNat).map fun (k : Nat) => Cal.ml y (1 + (k : Int)))).sum = Cal.sm y (m - 1).toNat := sum_sm y _
    rw [e2]
    exact q H' hP.2
theorem ok_date_of (T : Bn mg) (dd : DefIn K mg "date_of" "date_of" s_date_of ["number"]) (h_days_ahead : Has P w K mg base CX0 1 "days_ahead" ["year"] (sp1 bDA)) (h_month_length : Has P w K mg base CX0 2 "month_length" ["year", "month"] (sp2 bMl)) (c_ROUND_YEARS : ConstIn mg "ROUND_YEARS" (.int 400)) (c_ROUND_DAYS : ConstIn mg "ROUND_DAYS" (.int 146097)) : Has P w K mg base CX0 3 "date_of" ["number"] (sp1 bDate) := by
  refine has_of dd sc_date_of (fun vs H Q E h => by obtain ⟨x0, rfl, _⟩ := h; rfl) (fun f cdv A outer s H vs Q E hr h => ?_)
  obtain ⟨_, rfl, h⟩ := h
  refine ⟨_, Evl.pss_cut (ps_set (i := 1) sc_date_of.nd rfl (Or.inl rfl) (pe_op op_add (pe_op op_fdiv (pe_op op_mul (pv 0) (pe_globC c_ROUND_YEARS (by rfl))) (pe_globC c_ROUND_DAYS (by rfl))) (pe_int)))
      (Evl.pss_cut (ps_while PassesOwn.never (pt_cmpR op_gt (pe_callH h_days_ahead hr pass0 (pa_cons (pv 1) pa_nil)) (pv 0) (nomark _)) (pss_one (ps_set (i := 1) sc_date_of.nd rfl (Or.inl rfl) (pe_op op_sub (pv 1) (pe_int)))))
      (Evl.pss_cut (ps_while PassesOwn.never (pt_cmpR op_le (pe_callH h_days_ahead hr pass0 (pa_cons (pe_op op_add (pv 1) (pe_int)) pa_nil)) (pv 0) (nomark _)) (pss_one (ps_set (i := 1) sc_date_of.nd rfl (Or.inl rfl) (pe_op op_add (pv 1) (pe_int)))))
      (Evl.pss_cut (ps_set (i := 2) sc_date_of.nd rfl (Or.inl rfl) (pe_op op_sub (pv 0) (pe_callH h_days_ahead hr pass0 (pa_cons (pv 1) pa_nil))))
      (Evl.pss_cut (ps_set (i := 3) sc_date_of.nd rfl (Or.inl rfl) (pe_int))
      (Evl.pss_cut (ps_while PassesOwn.never (pt_cmpR op_ge (pv 2) (pe_callH h_month_length hr pass0 (pa_cons (pv 1) (pa_cons (pv 3) pa_nil))) (nomark _)) (Evl.pss_cut (ps_set (i := 2) sc_date_of.nd rfl (Or.inl rfl) (pe_op op_sub (pv 2) (pe_callH h_month_length hr pass0 (pa_cons (pv 1) (pa_cons (pv 3) pa_nil)))))
      (pss_one (ps_set (i := 3) sc_date_of.nd rfl (Or.inl rfl) (pe_op op_add (pv 3) (pe_int))))))
      (pss_one (ps_ret (pe_tup (pa_cons (pv 1) (pa_cons (pv 3) (pa_cons (pe_op op_add (pv 2) (pe_int)) pa_nil))))))))))), ?_⟩
  obtain ⟨n, rfl, h0, h1, q⟩ := h
  refine st_gen fun N1 hN1 => ?_
  walk_at "rs"
  refine ⟨.inr (by decide), ⟨by decide, by decide⟩, hN1 _ _ ?_⟩
  have y0 : 1 ≤ n * 400 / 146097 + 1 := by omega
  generalize n * 400 / 146097 + 1 = y at y0 ⊢
  -- while days_ahead(year) > number
  refine st_cut (fun σ H2 => H2 = H ∧ ∃ y : Int, σ = [some (.int n), some (.int y), none, none] ∧ 1 ≤ y ∧ Cal.dA y ≤ n) ?_ (fun σ H2 hM => ?_)
  · refine ⟨fun m σ H2 => H2 = H ∧ ∃ y : Int, σ = [some (.int n), some (.int y), none, none] ∧ 1 ≤ y ∧ m = y.toNat, ⟨_, rfl, y, rfl, y0, rfl⟩, ?_⟩
    rintro m σ H2 ⟨rfl, y, rfl, y1, rfl⟩
    walk_at "rs"
    refine ⟨_, rfl, y, rfl, _, rfl, ?_⟩
    refine ite2 (fun c' => ?_) (fun c' => ?_)
    · have y2 : y ≠ 1 := fun z => by rw [z, Cal.dA_one] at c'; omega
      refine ⟨fun σ' H' => H' = H2 ∧ ∃ y' : Int, σ' = [some (.int n), some (.int y'), none, none] ∧ y' = y - 1, fun σ' H' z => ?_, ?_⟩
      · obtain ⟨z1, y', z2, z3⟩ := z
        exact ⟨y'.toNat, by omega, z1, y', z2, by omega, rfl⟩
      · walk_at "rs"
    · exact ⟨rfl, y1, by omega⟩
  obtain ⟨rfl, y, rfl, y1, yn⟩ := hM
  -- while days_ahead(year + 1) <= number
  refine st_cut (fun σ H' => H' = H2 ∧ ∃ y : Int, σ = [some (.int n), some (.int y), none, none] ∧ 1 ≤ y ∧ Cal.dA y ≤ n ∧ n < Cal.dA (y + 1)) ?_ (fun σ H' hM => ?_)
  · refine ⟨fun m σ H' => H' = H2 ∧ ∃ y : Int, σ = [some (.int n), some (.int y), none, none] ∧ 1 ≤ y ∧ Cal.dA y ≤ n ∧ m = (n + 1 - y).toNat, ⟨_, rfl, y, rfl, y1, yn, rfl⟩, ?_⟩
    rintro m σ H' ⟨rfl, y, rfl, y1, yn, rfl⟩
    walk_at "rs"
    refine ⟨_, rfl, y + 1, rfl, _, rfl, ?_⟩
    have lo := Cal.dA_lo (y + 1) (by omega)
    refine ite2 (fun c' => ?_) (fun c' => ?_)
    · refine ⟨fun σ2 H3 => H3 = H' ∧ ∃ y' : Int, σ2 = [some (.int n), some (.int y'), none, none] ∧ y' = y + 1, fun σ2 H3 z => ?_, ?_⟩
      · obtain ⟨z1, y', z2, z3⟩ := z
        exact ⟨(n + 1 - y').toNat, by omega, z1, y', z2, by omega, by rw [z3]; exact c', rfl⟩
      · walk_at "rs"
    · exact ⟨rfl, y1, yn, by omega⟩
  obtain ⟨rfl, y, rfl, y1, yn, yh⟩ := hM
  refine st_gen fun N2 hN2 => ?_
  walk_at "rs"
  refine ⟨_, rfl, y, rfl, _, rfl, hN2 _ _ ?_⟩
  refine st_gen fun N3 hN3 => ?_
  walk_at "rs"
  refine hN3 _ _ ?_
  -- while rest >= month_length(year, month)
  have ys := Cal.dA_succ y
  have s12 := Cal.sm12 y
  refine st_cut (fun σ H3 => H3 = H' ∧ ∃ r m : Int, σ = [some (.int n), some (.int y), some (.int r), some (.int m)] ∧ 1 ≤ m ∧ m ≤ 12 ∧ 0 ≤ r ∧ Cal.sm y (m - 1).toNat + r = n - Cal.dA y ∧ r < Cal.ml y m) ?_ (fun σ H3 hM => ?_)
  · refine ⟨fun k σ H3 => H3 = H' ∧ ∃ r m : Int, σ = [some (.int n), some (.int y), some (.int r), some (.int m)] ∧ 1 ≤ m ∧ m ≤ 12 ∧ 0 ≤ r ∧ Cal.sm y (m - 1).toNat + r = n - Cal.dA y ∧ k = (12 - m).toNat, ⟨_, rfl, _, _, rfl, by decide, by decide, by omega, by show (0 : Int) + _ = _; omega, rfl⟩, ?_⟩
    rintro k σ H3 ⟨rfl, r, m, rfl, m1, m2, r0, rs, rfl⟩
    walk_at "rs"
    have ms := Cal.sm_succ y m1
    refine ⟨_, _, rfl, y, m, rfl, rfl, m1, m2, _, rfl, ?_⟩
    refine ite2 (fun c' => ?_) (fun c' => ?_)
    · have m12 : m ≠ 12 := fun z => by
        rw [z] at ms c' rs
        rw [show ((12 : Int) + 1 - 1).toNat = 12 from rfl, s12] at ms
        omega
      refine ⟨fun σ2 H4 => H4 = H3 ∧ ∃ r' m' : Int, σ2 = [some (.int n), some (.int y), some (.int r'), some (.int m')] ∧ m' = m + 1 ∧ r' = r - Cal.ml y m, fun σ2 H4 z => ?_, ?_⟩
      · obtain ⟨z1, r', m', z2, z3, z4⟩ := z
        refine ⟨(12 - m').toNat, by omega, z1, r', m', z2, by omega, by omega, by omega, ?_, rfl⟩
        rw [z3, ms, z4]
        omega
      · refine st_gen fun N5 hN5 => ?_
        walk_at "rs"
        refine ⟨_, _, rfl, y, m, rfl, rfl, m1, m2, _, rfl, hN5 _ _ ?_⟩
        walk_at "rs"
    · exact ⟨rfl, m1, m2, r0, rs, by omega⟩
  obtain ⟨rfl, r, m, rfl, m1, m2, r0, rs, rl⟩ := hM
  walk_at "rs"
  refine ⟨by decide, fun p hp => ?_⟩
  have ym : y < 1000000 := Cal.dA_lt y1 (by decide) (by rw [Cal.dA_last]; omega)
  refine q p y m (r + 1) _ hp upd_same (same_new hp) ⟨y1, by omega, m1, m2, by omega, by omega⟩ ?_
  unfold Cal.dn
  omega
theorem ok_weekday_of (T : Bn mg) (dd : DefIn K mg "weekday_of" "weekday_of" s_weekday_of ["number"]) : Has P w K mg base CX0 1 "weekday_of" ["number"] (sp1 bWd) := by
  refine has_of dd sc_weekday_of (fun vs H Q E h => by obtain ⟨x0, rfl, _⟩ := h; rfl) (fun f cdv A outer s H vs Q E hr h => ?_)
  obtain ⟨_, rfl, h⟩ := h
  refine ⟨_, pss_one (ps_ret (pe_op op_mod (pv 0) (pe_int))), ?_⟩
  obtain ⟨n, rfl, q⟩ := h
  walk_at "rs"
  exact ⟨by decide, q⟩
theorem ok_wrong_part (T : Bn mg) (dd : DefIn K mg "wrong_part" "wrong_part" s_wrong_part ["year", "month", "day", "hour", "minute"]) (h_is_between : Has P w K mg base CX0 2 "is_between" ["value", "low", "high"] (sp3 (bBetween K))) (h_month_length : Has P w K mg base CX0 2 "month_length" ["year", "month"] (sp2 bMl)) {C : Addr} (c_Moment : ConstIn mg "Moment" (.ref C)) (cv_MOST_YEAR : CvAt K C "MOST_YEAR" (.int 999999)) : Has P w K mg base CX0 3 "wrong_part" ["year", "month", "day", "hour", "minute"] (sp5 (bWrong K)) := by
  refine has_of dd sc_wrong_part (fun vs H Q E h => by obtain ⟨x0, x1, x2, x3, x4, rfl, _⟩ := h; rfl) (fun f cdv A outer s H vs Q E hr h => ?_)
  obtain ⟨_, _, _, _, _, rfl, h⟩ := h
  refine ⟨_, Evl.pss_cut (ps_if (pt_not (pt_val (pe_callH h_is_between hr pass0 (pa_cons (pv 0) (pa_cons (pe_int) (pa_cons (pe_cvalH (pe_globC c_Moment (by rfl)) cv_MOST_YEAR) pa_nil)))))) (pss_one (ps_ret (pe_str))) (pss_nil))
      (Evl.pss_cut (ps_if (pt_not (pt_val (pe_callH h_is_between hr pass0 (pa_cons (pv 1) (pa_cons (pe_int) (pa_cons (pe_int) pa_nil)))))) (pss_one (ps_ret (pe_str))) (pss_nil))
      (Evl.pss_cut (ps_if (pt_not (pt_val (pe_callH h_is_between hr pass0 (pa_cons (pv 2) (pa_cons (pe_int) (pa_cons (pe_callH h_month_length hr pass0 (pa_cons (pv 0) (pa_cons (pv 1) pa_nil))) pa_nil)))))) (pss_one (ps_ret (pe_str))) (pss_nil))
      (Evl.pss_cut (ps_if (pt_not (pt_val (pe_callH h_is_between hr pass0 (pa_cons (pv 3) (pa_cons (pe_int) (pa_cons (pe_int) pa_nil)))))) (pss_one (ps_ret (pe_str))) (pss_nil))
      (pss_one (ps_ret (pe_ifExp (pt_val (pe_callH h_is_between hr pass0 (pa_cons (pv 4) (pa_cons (pe_int) (pa_cons (pe_int) pa_nil))))) (pe_non) (pe_str))))))), ?_⟩
  obtain ⟨hy, hm, hd, hh, hmi, q⟩ := h
  rename_i y m d hu mi
  unfold wrongV at q
  refine st_gen fun N1 hN1 => ?_
  walk_at "rs"
  refine ⟨_, _, _, rfl, _, _, rfl, rfl, hy, _, rfl, ?_⟩
  refine ite2 (fun c => by rw [if_pos c] at q; exact q) (fun c => hN1 _ _ ?_)
  rw [if_neg c] at q
  refine st_gen fun N2 hN2 => ?_
  walk_at "rs"
  refine ⟨_, _, _, rfl, _, _, rfl, rfl, hm, _, rfl, ?_⟩
  refine ite2 (fun c2 => by rw [if_pos c2] at q; exact q) (fun c2 => hN2 _ _ ?_)
  rw [if_neg c2] at q
  refine st_gen fun N3 hN3 => ?_
  walk_at "rs"
  obtain ⟨ny, rfl, y1, y2⟩ := isB_of c
  obtain ⟨nm, rfl, m1, m2⟩ := isB_of c2
  refine ⟨_, _, rfl, ny, nm, rfl, rfl, m1, m2, _, _, _, rfl, _, _, rfl, rfl, hd, _, rfl, ?_⟩
  refine ite2 (fun c3 => by rw [if_pos (show isB d 1 (Cal.ml (iOf (.int ny)) (iOf (.int nm))) = false from c3)] at q; exact q) (fun c3 => hN3 _ _ ?_)
  rw [if_neg (show ¬ isB d 1 (Cal.ml (iOf (.int ny)) (iOf (.int nm))) = false from c3)] at q
  refine st_gen fun N4 hN4 => ?_
  walk_at "rs"
  refine ⟨_, _, _, rfl, _, _, rfl, rfl, hh, _, rfl, ?_⟩
  refine ite2 (fun c4 => by rw [if_pos c4] at q; exact q) (fun c4 => hN4 _ _ ?_)
  rw [if_neg c4] at q
  walk_at "rs"
  refine ⟨_, _, _, rfl, _, _, rfl, rfl, hmi, _, rfl, ?_⟩
  refine ite2 (fun c5 => by rw [if_pos c5] at q; exact q) (fun c5 => by rw [if_neg c5] at q; exact q)
end
end RB
namespace RB
open PySem PySem.Spec PyProof.Rows L2
local macro_rules | `(tactic| walk_at "lk") => `(tactic| repeat (first | exact look_hit | exact look_nil | refine look_miss (by decide +kernel) ?_))
local macro_rules | `(tactic| walk_at "rs") => `(tactic| try simp only [tAsg, gName, tVar, tC, tOp, rI, rI0, rU, tUn, tIfS, tTest, tB, tRet, tRetN, tDrop, tCal, tCons, tNil, tTup, tLst, tCB, tAnd, tOr, tNot, tAndV, tOrV, tNotV, tIf, tCmp, t2I, rEq, rNe, tNext, tChain, tSl, tPart, tNoPart, tPar, gSub, rSetL, rIxL, rIxT, rSlL, tSMeth, tMak, rOwnC, tFmtSp, tBM, rAppend, tDrop, gTup, gCons, gNil, iList, iTup, iRng1, iRng2, tWhile, tAug, ipI, tFld, sFld, rSum, rIsi,
  L2.start, cxK, List.map_cons, List.map_nil, List.length_cons, List.length_nil, Nat.zero_add, Nat.reduceAdd, Nat.reduceSub, List.replicate_succ, List.replicate_zero, List.cons_append, List.nil_append, List.append_nil,
  List.getElem?_cons_zero, List.getElem?_cons_succ, List.set_cons_zero, List.set_cons_succ, Option.some.injEq, V.int.injEq, V.ref.injEq, V.bl.injEq, V.str.injEq, List.cons.injEq, reduceCtorEq, and_true, true_and, and_assoc, exists_eq_left', exists_eq_left, exists_eq_right, exists_and_left, exists_and_right, false_and, and_false, or_false, false_or, exists_const, exists_false, if_false, if_true, eq_self, wipe, tYes, Bool.false_eq_true,  scal, decide_eq_true_eq, Bool.not_eq_true', decide_eq_false_iff_not])
section
variable {P : Program} {w : World} {K : PySem.W.Frag} {mg : Str → Option Value} {base : Heap}
theorem ok_Moment_init (T : Bn mg) {C : Addr} (dd : InitAt K C "Moment.__init__" s_Moment_init [.int 0, .int 0]) (cl : Cls K C) (at_ : ∀ x ∈ (["year", "month", "day", "hour", "minute", "date", "weekday", "number"] : List Str), NoAttr K C x) (h_wrong_part : Has P w K mg base CX0 3 "wrong_part" ["year", "month", "day", "hour", "minute"] (sp5 (bWrong K))) (h_day_number : Has P w K mg base CX0 3 "day_number" ["year", "month", "day"] (sp3 bDn)) (h_weekday_of : Has P w K mg base CX0 1 "weekday_of" ["number"] (sp1 bWd)) (c_DAY_MINUTES : ConstIn mg "DAY_MINUTES" (.int 1440)) :
    HasM P w K mg base CX0 4 C [] (sp6 (bInit C)) := by
  obtain ⟨f, Td, o, its, n, oc, od, kV, doc, pm, an, cdv, ct, osl, a, i, l, c, kp, mk, kc, lT, oT, rT⟩ := dd
  have FD : FunD K "__init__" "Moment.__init__" (defArgs s_Moment_init) (defBody s_Moment_init) (defScope s_Moment_init) [.int 0, .int 0] [] f _ := ⟨⟨oc, od, .ref Td, kV, doc, pm, an, cdv, ct, osl, rfl, l, c, .inr ⟨by simp, Td, o, its, n, rfl, lT, oT, rT⟩, .inl rfl⟩, kp⟩
  obtain ⟨ds, hd, hb⟩ := FD.binds1 (ps := ["self", "year", "month", "day", "hour", "minute"]) 6 2 (by simp) rfl (fun Td kV doc pm an cdv ct us its h1 h2 => match us, its, h1, h2 with | [_, _, _, _, _, _], [_, _], _, _ => ⟨_, rfl, rfl⟩)
  cases hd
  refine ⟨⟨f, _, _, [], ⟨mk, a, i, kc⟩, FD.ok sc_Moment_init (fun vs H Q E h => by obtain ⟨x0, x1, x2, x3, x4, x5, rfl, _⟩ := h; rfl) (fun cdv A outer s H vs Q E hr h => ?_), hb, .nil⟩⟩
  obtain ⟨_, _, _, _, _, _, rfl, h⟩ := h
  refine ⟨_, PSs.nox (Evl.pss_cut (ps_set (i := 6) sc_Moment_init.nd rfl (Or.inl rfl) (pe_callH h_wrong_part hr pass0 (pa_cons (pv 1) (pa_cons (pv 2) (pa_cons (pv 3) (pa_cons (pv 4) (pa_cons (pv 5) pa_nil)))))))
      (Evl.pss_cut (ps_if (pt_cmpR op_notN (pv 6) (pe_non) (nomark _)) (pss_one (ps_never)) (pss_nil))
      (Evl.pss_cut (ps_fld (pv 0) (pv 1) rfl)
      (Evl.pss_cut (ps_fld (pv 0) (pv 2) rfl)
      (Evl.pss_cut (ps_fld (pv 0) (pv 3) rfl)
      (Evl.pss_cut (ps_fld (pv 0) (pv 4) rfl)
      (Evl.pss_cut (ps_fld (pv 0) (pv 5) rfl)
      (Evl.pss_cut (ps_fld (pv 0) (pe_callH h_day_number hr pass0 (pa_cons (pv 1) (pa_cons (pv 2) (pa_cons (pv 3) pa_nil)))) rfl)
      (Evl.pss_cut (ps_fld (pv 0) (pe_callH h_weekday_of hr pass0 (pa_cons (pe_fld (pv 0) rfl) pa_nil)) rfl)
      (pss_one (ps_fld (pv 0) (pe_op op_add (pe_op op_add (pe_op op_mul (pe_fld (pv 0) rfl) (pe_globC c_DAY_MINUTES (by rfl))) (pe_op op_mul (pv 4) (pe_int))) (pv 5)) rfl))))))))))), ?_⟩
  obtain ⟨p, dx, o, rfl, rfl, rfl, rfl, rfl, rfl, ho, hp, q⟩ := h
  refine st_gen fun N0 hN0 => ?_
  walk_at "rs"
  refine ⟨_, _, _, _, _, rfl, whole_int, whole_int, whole_int, whole_int, whole_int, ?_⟩
  rw [wrong_ok ho]
  refine hN0 _ _ ?_
  refine st_gen fun N00 hN00 => ?_
  walk_at "rs"
  refine hN00 _ _ ?_
  have b0 : But p H H := But.refl
  refine st_gen fun N1 hN1 => ?_
  walk_at "rs"
  refine ⟨C, dx, _, hp, cl, at_ _ (by decide +kernel), by simp, hN1 _ _ ?_⟩
  rw [putF_new (by simp only [List.map_cons, List.map_nil, List.cons_append, List.nil_append]; decide +kernel)]
  have h1 : upd H p (.ins C dx ([] ++ [(("year" : Str), V.int o.y)])) p = some (.ins C dx [(("year" : Str), V.int o.y)]) := upd_same
  have b1 := b0.wr (o := .ins C dx ([] ++ [(("year" : Str), V.int o.y)]))
  generalize upd H p (.ins C dx ([] ++ [(("year" : Str), V.int o.y)])) = H1 at h1 b1 ⊢
  refine st_gen fun N2 hN2 => ?_
  walk_at "rs"
  refine ⟨C, dx, _, h1, cl, at_ _ (by decide +kernel), by simp, hN2 _ _ ?_⟩
  rw [putF_new (by simp only [List.map_cons, List.map_nil, List.cons_append, List.nil_append]; decide +kernel)]
  have h2 : upd H1 p (.ins C dx ([(("year" : Str), V.int o.y)] ++ [(("month" : Str), V.int o.m)])) p = some (.ins C dx [(("year" : Str), V.int o.y), (("month" : Str), V.int o.m)]) := upd_same
  have b2 := b1.wr (o := .ins C dx ([(("year" : Str), V.int o.y)] ++ [(("month" : Str), V.int o.m)]))
  generalize upd H1 p (.ins C dx ([(("year" : Str), V.int o.y)] ++ [(("month" : Str), V.int o.m)])) = H2 at h2 b2 ⊢
  refine st_gen fun N3 hN3 => ?_
  walk_at "rs"
  refine ⟨C, dx, _, h2, cl, at_ _ (by decide +kernel), by simp, hN3 _ _ ?_⟩
  rw [putF_new (by simp only [List.map_cons, List.map_nil, List.cons_append, List.nil_append]; decide +kernel)]
  have h3 : upd H2 p (.ins C dx ([(("year" : Str), V.int o.y), (("month" : Str), V.int o.m)] ++ [(("day" : Str), V.int o.d)])) p = some (.ins C dx [(("year" : Str), V.int o.y), (("month" : Str), V.int o.m), (("day" : Str), V.int o.d)]) := upd_same
  have b3 := b2.wr (o := .ins C dx ([(("year" : Str), V.int o.y), (("month" : Str), V.int o.m)] ++ [(("day" : Str), V.int o.d)]))
  generalize upd H2 p (.ins C dx ([(("year" : Str), V.int o.y), (("month" : Str), V.int o.m)] ++ [(("day" : Str), V.int o.d)])) = H3 at h3 b3 ⊢
  refine st_gen fun N4 hN4 => ?_
  walk_at "rs"
  refine ⟨C, dx, _, h3, cl, at_ _ (by decide +kernel), by simp, hN4 _ _ ?_⟩
  rw [putF_new (by simp only [List.map_cons, List.map_nil, List.cons_append, List.nil_append]; decide +kernel)]
  have h4 : upd H3 p (.ins C dx ([(("year" : Str), V.int o.y), (("month" : Str), V.int o.m), (("day" : Str), V.int o.d)] ++ [(("hour" : Str), V.int o.h)])) p = some (.ins C dx [(("year" : Str), V.int o.y), (("month" : Str), V.int o.m), (("day" : Str), V.int o.d), (("hour" : Str), V.int o.h)]) := upd_same
  have b4 := b3.wr (o := .ins C dx ([(("year" : Str), V.int o.y), (("month" : Str), V.int o.m), (("day" : Str), V.int o.d)] ++ [(("hour" : Str), V.int o.h)]))
  generalize upd H3 p (.ins C dx ([(("year" : Str), V.int o.y), (("month" : Str), V.int o.m), (("day" : Str), V.int o.d)] ++ [(("hour" : Str), V.int o.h)])) = H4 at h4 b4 ⊢
  refine st_gen fun N5 hN5 => ?_
  walk_at "rs"
  refine ⟨C, dx, _, h4, cl, at_ _ (by decide +kernel), by simp, hN5 _ _ ?_⟩
  rw [putF_new (by simp only [List.map_cons, List.map_nil, List.cons_append, List.nil_append]; decide +kernel)]
  have h5 : upd H4 p (.ins C dx ([(("year" : Str), V.int o.y), (("month" : Str), V.int o.m), (("day" : Str), V.int o.d), (("hour" : Str), V.int o.h)] ++ [(("minute" : Str), V.int o.mi)])) p = some (.ins C dx [(("year" : Str), V.int o.y), (("month" : Str), V.int o.m), (("day" : Str), V.int o.d), (("hour" : Str), V.int o.h), (("minute" : Str), V.int o.mi)]) := upd_same
  have b5 := b4.wr (o := .ins C dx ([(("year" : Str), V.int o.y), (("month" : Str), V.int o.m), (("day" : Str), V.int o.d), (("hour" : Str), V.int o.h)] ++ [(("minute" : Str), V.int o.mi)]))
  generalize upd H4 p (.ins C dx ([(("year" : Str), V.int o.y), (("month" : Str), V.int o.m), (("day" : Str), V.int o.d), (("hour" : Str), V.int o.h)] ++ [(("minute" : Str), V.int o.mi)])) = H5 at h5 b5 ⊢
  refine st_gen fun N6 hN6 => ?_
  walk_at "rs"
  refine ⟨_, _, _, rfl, o.y, o.m, o.d, rfl, rfl, rfl, ho.1.2.2.1, ho.1.2.2.2.1, fun H5' s5 => ?_⟩
  have h5' := s5 _ _ h5
  have b5' : But p H H5' := b5.trans (But.of s5)
  walk_at "rs"
  refine ⟨C, dx, _, h5', cl, at_ _ (by decide +kernel), by simp, hN6 _ _ ?_⟩
  rw [putF_new (by simp only [List.map_cons, List.map_nil, List.cons_append, List.nil_append]; decide +kernel)]
  have h6 : upd H5' p (.ins C dx ([(("year" : Str), V.int o.y), (("month" : Str), V.int o.m), (("day" : Str), V.int o.d), (("hour" : Str), V.int o.h), (("minute" : Str), V.int o.mi)] ++ [(("date" : Str), V.int (Cal.dn o.y o.m o.d))])) p = some (.ins C dx [(("year" : Str), V.int o.y), (("month" : Str), V.int o.m), (("day" : Str), V.int o.d), (("hour" : Str), V.int o.h), (("minute" : Str), V.int o.mi), (("date" : Str), V.int (Cal.dn o.y o.m o.d))]) := upd_same
  have b6 := b5'.wr (o := .ins C dx ([(("year" : Str), V.int o.y), (("month" : Str), V.int o.m), (("day" : Str), V.int o.d), (("hour" : Str), V.int o.h), (("minute" : Str), V.int o.mi)] ++ [(("date" : Str), V.int (Cal.dn o.y o.m o.d))]))
  generalize upd H5' p (.ins C dx ([(("year" : Str), V.int o.y), (("month" : Str), V.int o.m), (("day" : Str), V.int o.d), (("hour" : Str), V.int o.h), (("minute" : Str), V.int o.mi)] ++ [(("date" : Str), V.int (Cal.dn o.y o.m o.d))])) = H6 at h6 b6 ⊢
  refine st_gen fun N7 hN7 => ?_
  walk_at "rs"
  refine ⟨C, dx, _, h6, cl, at_ _ (by decide +kernel), _, (by walk_at "lk"), _, rfl, _, rfl, C, dx, _, h6, cl, at_ _ (by decide +kernel), by simp, hN7 _ _ ?_⟩
  rw [putF_new (by simp only [List.map_cons, List.map_nil, List.cons_append, List.nil_append]; decide +kernel)]
  have h7 : upd H6 p (.ins C dx ([(("year" : Str), V.int o.y), (("month" : Str), V.int o.m), (("day" : Str), V.int o.d), (("hour" : Str), V.int o.h), (("minute" : Str), V.int o.mi), (("date" : Str), V.int (Cal.dn o.y o.m o.d))] ++ [(("weekday" : Str), V.int (Cal.dn o.y o.m o.d % 7))])) p = some (.ins C dx [(("year" : Str), V.int o.y), (("month" : Str), V.int o.m), (("day" : Str), V.int o.d), (("hour" : Str), V.int o.h), (("minute" : Str), V.int o.mi), (("date" : Str), V.int (Cal.dn o.y o.m o.d)), (("weekday" : Str), V.int (Cal.dn o.y o.m o.d % 7))]) := upd_same
  have b7 := b6.wr (o := .ins C dx ([(("year" : Str), V.int o.y), (("month" : Str), V.int o.m), (("day" : Str), V.int o.d), (("hour" : Str), V.int o.h), (("minute" : Str), V.int o.mi), (("date" : Str), V.int (Cal.dn o.y o.m o.d))] ++ [(("weekday" : Str), V.int (Cal.dn o.y o.m o.d % 7))]))
  generalize upd H6 p (.ins C dx ([(("year" : Str), V.int o.y), (("month" : Str), V.int o.m), (("day" : Str), V.int o.d), (("hour" : Str), V.int o.h), (("minute" : Str), V.int o.mi), (("date" : Str), V.int (Cal.dn o.y o.m o.d))] ++ [(("weekday" : Str), V.int (Cal.dn o.y o.m o.d % 7))])) = H7 at h7 b7 ⊢
  walk_at "rs"
  have nlo := Cal.dn_hi2 ho.1
  have nhi := Cal.dn_lo ho.1
  have oh := ho.2
  have b64 : (2 : Int) ^ 64 = 18446744073709551616 := by decide
  refine ⟨C, dx, _, h7, cl, at_ _ (by decide +kernel), _, (by walk_at "lk"), _, rfl, .inr (by decide), .inr (by decide), C, dx, _, h7, cl, at_ _ (by decide +kernel), by simp, ?_⟩
  rw [putF_new (by simp only [List.map_cons, List.map_nil, List.cons_append, List.nil_append]; decide +kernel)]
  exact q _ upd_same b7.wr
theorem ok_moment_at (T : Bn mg) (dd : DefIn K mg "moment_at" "moment_at" s_moment_at ["number"]) {C : Addr} (c_Moment : ConstIn mg "Moment" (.ref C)) (h_is_between : Has P w K mg base CX0 2 "is_between" ["value", "low", "high"] (sp3 (bBetween K))) (h_days_ahead : Has P w K mg base CX0 1 "days_ahead" ["year"] (sp1 bDA)) (h_date_of : Has P w K mg base CX0 3 "date_of" ["number"] (sp1 bDate)) (h_Moment : HasM P w K mg base CX0 4 C [] (sp6 (bInit C)))  (cv_MOST_YEAR : CvAt K C "MOST_YEAR" (.int 999999)) (c_DAY_MINUTES : ConstIn mg "DAY_MINUTES" (.int 1440)) (gm : mg "Moment" = some (.ref C)) : Has P w K mg base CX0 6 "moment_at" ["number"] (sp1 (bAt C)) := by
  refine has_of dd sc_moment_at (fun vs H Q E h => by obtain ⟨x0, rfl, _⟩ := h; rfl) (fun f cdv A outer s H vs Q E hr h => ?_)
  obtain ⟨_, rfl, h⟩ := h
  refine ⟨_, Evl.pss_cut (ps_if (pt_not (pt_val (pe_callH h_is_between hr pass0 (pa_cons (pv 0) (pa_cons (pe_int) (pa_cons (pe_op op_sub (pe_op op_mul (pe_callH h_days_ahead hr pass0 (pa_cons (pe_op op_add (pe_cvalH (pe_globC c_Moment (by rfl)) cv_MOST_YEAR) (pe_int)) pa_nil)) (pe_globC c_DAY_MINUTES (by rfl))) (pe_int)) pa_nil)))))) (pss_one (ps_never)) (pss_nil))
      (Evl.pss_cut (ps_asg (pe_callH h_date_of hr pass0 (pa_cons (pe_op op_fdiv (pv 0) (pe_globC c_DAY_MINUTES (by rfl))) pa_nil)) (pg_tup rfl (pgs_cons (pg_name (i := 1) sc_moment_at.nd rfl (Or.inl rfl)) (pgs_cons (pg_name (i := 2) sc_moment_at.nd rfl (Or.inl rfl)) (pgs_cons (pg_name (i := 3) sc_moment_at.nd rfl (Or.inl rfl)) pgs_nil)))))
      (Evl.pss_cut (ps_set (i := 4) sc_moment_at.nd rfl (Or.inl rfl) (pe_op op_mod (pv 0) (pe_globC c_DAY_MINUTES (by rfl))))
      (pss_one (ps_ret (pe_makeH h_Moment gm hr pass0 (pa_cons (pv 1) (pa_cons (pv 2) (pa_cons (pv 3) (pa_cons (pe_op op_fdiv (pv 4) (pe_int)) (pa_cons (pe_op op_mod (pv 4) (pe_int)) pa_nil)))))))))), ?_⟩
  obtain ⟨n, rfl, n0, n1, q⟩ := h
  refine st_gen fun N0 hN0 => ?_
  walk_at "rs"
  have d6 : Cal.dA (999999 + 1) = 365242134 := by decide
  refine ⟨_, rfl, 999999 + 1, rfl, _, rfl, .inr (by decide), _, _, _, rfl, _, _, rfl, rfl, whole_int, _, rfl, ?_⟩
  rw [d6, isB_int n0 (by omega)]
  walk_at "rs"
  refine hN0 _ _ ?_
  refine st_gen fun N1 hN1 => ?_
  walk_at "rs"
  refine ⟨⟨by decide, by decide⟩, _, rfl, _, rfl, by omega, by omega, fun p y m d H1 hp h1 s1 v1 e1 => ?_⟩
  walk_at "rs"
  refine ⟨_, SqT.of h1, rfl, ?_⟩
  walk_at "rs"
  refine hN1 _ _ ?_
  refine st_gen fun N2 hN2 => ?_
  walk_at "rs"
  refine ⟨by decide, hN2 _ _ ?_⟩
  walk_at "rs"
  refine ⟨⟨by decide, by decide⟩, by decide, fun x dx hx hdx ne => ?_⟩
  have s2 : Same H1 (upd (upd H1 dx (.own x)) x (.ins C dx [])) := fun b o e => by
    rw [upd_ne (ne_of_none e hx), upd_ne (ne_of_none e hdx)]
    exact e
  have k60 := Int.emod_nonneg n (b := 1440) (by decide)
  have k61 := Int.emod_lt_of_pos n (b := 1440) (by decide)
  have ok : (Mo.mk y m d (n % 1440 / 60) (n % 1440 % 60)).Ok := ⟨v1, by show 0 ≤ n % 1440 / 60; omega, by show n % 1440 / 60 ≤ 23; omega, by show 0 ≤ n % 1440 % 60; omega, by show n % 1440 % 60 ≤ 59; omega⟩
  refine ⟨_, _, _, _, _, _, rfl, x, dx, ⟨y, m, d, n % 1440 / 60, n % 1440 % 60⟩, rfl, rfl, rfl, rfl, rfl, rfl, ok, upd_same, fun H2 h2 b2 => ⟨rfl, ?_⟩⟩
  refine q x _ H2 (s1.free hx) ⟨dx, h2⟩ ok ?_ fun b o e => b2 b o (s2 _ _ (s1 _ _ e)) (ne_of_none (s1 _ _ e) hx)
  show Cal.dn y m d * 1440 + n % 1440 / 60 * 60 + n % 1440 % 60 = n
  omega
theorem ok_Moment_at (T : Bn mg) {C : Addr} (dd : StatAt K C "at" "Moment.at" s_Moment_at) (h_moment_at : Has P w K mg base CX0 6 "moment_at" ["number"] (sp1 (bAt C))) : HasS P w K mg base CX0 7 C "at" (sp1 (bAt C)) := by
  refine stat_of dd bd_Moment_at sc_Moment_at (fun vs H Q E h => by obtain ⟨x0, rfl, _⟩ := h; rfl) (fun f cdv A outer s H vs Q E hr h => ?_)
  obtain ⟨_, rfl, h⟩ := h
  refine ⟨_, pss_one (ps_ret (pe_callH h_moment_at hr pass0 (pa_cons (pv 0) pa_nil))), ?_⟩
  walk_at "rs"
  exact ⟨_, rfl, h⟩
end
end RB
namespace RB
open PySem PySem.Spec PyProof.Rows L2
local macro_rules | `(tactic| walk_at "lk") => `(tactic| repeat (first | exact look_hit | exact look_nil | refine look_miss (by decide +kernel) ?_))
local macro_rules | `(tactic| walk_at "rs") => `(tactic| try simp only [tAsg, gName, tVar, tC, tOp, rI, rI0, rU, tUn, tIfS, tTest, tB, tRet, tRetN, tDrop, tCal, tCons, tNil, tTup, tLst, tCB, tAnd, tOr, tNot, tAndV, tOrV, tNotV, tIf, tCmp, t2I, rEq, rNe, tNext, tChain, tSl, tPart, tNoPart, tPar, gSub, rSetL, rIxL, rIxT, rSlL, tSMeth, tMak, rOwnC, tFmtSp, tBM, rAppend, tDrop, gTup, gCons, gNil, iList, iTup, iRng1, iRng2, tWhile, tAug, ipI, tFld, sFld, rSum, rIsi,
  L2.start, cxK, List.map_cons, List.map_nil, List.length_cons, List.length_nil, Nat.zero_add, Nat.reduceAdd, Nat.reduceSub, List.replicate_succ, List.replicate_zero, List.cons_append, List.nil_append, List.append_nil,
  List.getElem?_cons_zero, List.getElem?_cons_succ, List.set_cons_zero, List.set_cons_succ, Option.some.injEq, V.int.injEq, V.ref.injEq, V.bl.injEq, V.str.injEq, List.cons.injEq, reduceCtorEq, and_true, true_and, and_assoc, exists_eq_left', exists_eq_left, exists_eq_right, exists_and_left, exists_and_right, false_and, and_false, or_false, false_or, exists_const, exists_false, if_false, if_true, eq_self, wipe, tYes, Bool.false_eq_true,  scal, decide_eq_true_eq, Bool.not_eq_true', decide_eq_false_iff_not])
section
variable {P : Program} {w : World} {K : PySem.W.Frag} {mg : Str → Option Value} {base : Heap}
theorem ok_Moment_lt (T : Bn mg) {C : Addr} (dd : MethAt K C "__lt__" "Moment.__lt__" s_Moment_lt) (M : MoCls K C) (c_Moment : ConstIn mg "Moment" (.ref C)) : OwnCmp P w K mg base CX0 1 C "__lt__" (sp2 (bCmp C (fun a b => decide (a < b)))) := by
  refine own_of dd bd_Moment_lt sc_Moment_lt (fun vs H Q E h => by obtain ⟨x0, x1, rfl, _⟩ := h; rfl) (fun f cdv A outer s H vs Q E hr h => ?_)
  obtain ⟨_, _, rfl, h⟩ := h
  refine ⟨_, Evl.pss_cut (ps_if (pt_not (pt_val (pe_callB call_isi (by rfl) T.b_isinstance (by decide +kernel) (pa_cons (pv 1) (pa_cons (pe_globC c_Moment (by rfl)) pa_nil))))) (pss_one (ps_never)) (pss_nil))
      (pss_one (ps_ret (pe_cmpR op_lt (pe_fld (pv 0) rfl) (pe_fld (pv 1) rfl) (nomark _)))), ?_⟩
  obtain ⟨p, q, o, o', rfl, rfl, ⟨dx, hp⟩, ⟨dy, hq⟩, k⟩ := h
  refine st_gen fun N0 hN0 => ?_
  walk_at "rs"
  refine ⟨_, _, .own C, M.ty ⟨dy, hq⟩, _, M.ki, ?_⟩
  walk_at "rs"
  refine hN0 _ _ ?_
  walk_at "rs"
  exact ⟨C, dx, _, hp, M.cl, M.at_ _ (by decide +kernel), _, mo_num, C, dy, _, hq, M.cl, M.at_ _ (by decide +kernel), _, mo_num, _, rfl, _, rfl, k⟩
theorem ok_Moment_le (T : Bn mg) {C : Addr} (dd : MethAt K C "__le__" "Moment.__le__" s_Moment_le) (M : MoCls K C) (c_Moment : ConstIn mg "Moment" (.ref C)) : OwnCmp P w K mg base CX0 1 C "__le__" (sp2 (bCmp C (fun a b => decide (a ≤ b)))) := by
  refine own_of dd bd_Moment_le sc_Moment_le (fun vs H Q E h => by obtain ⟨x0, x1, rfl, _⟩ := h; rfl) (fun f cdv A outer s H vs Q E hr h => ?_)
  obtain ⟨_, _, rfl, h⟩ := h
  refine ⟨_, Evl.pss_cut (ps_if (pt_not (pt_val (pe_callB call_isi (by rfl) T.b_isinstance (by decide +kernel) (pa_cons (pv 1) (pa_cons (pe_globC c_Moment (by rfl)) pa_nil))))) (pss_one (ps_never)) (pss_nil))
      (pss_one (ps_ret (pe_cmpR op_le (pe_fld (pv 0) rfl) (pe_fld (pv 1) rfl) (nomark _)))), ?_⟩
  obtain ⟨p, q, o, o', rfl, rfl, ⟨dx, hp⟩, ⟨dy, hq⟩, k⟩ := h
  refine st_gen fun N0 hN0 => ?_
  walk_at "rs"
  refine ⟨_, _, .own C, M.ty ⟨dy, hq⟩, _, M.ki, ?_⟩
  walk_at "rs"
  refine hN0 _ _ ?_
  walk_at "rs"
  exact ⟨C, dx, _, hp, M.cl, M.at_ _ (by decide +kernel), _, mo_num, C, dy, _, hq, M.cl, M.at_ _ (by decide +kernel), _, mo_num, _, rfl, _, rfl, k⟩
theorem ok_Moment_gt (T : Bn mg) {C : Addr} (dd : MethAt K C "__gt__" "Moment.__gt__" s_Moment_gt) (M : MoCls K C) (c_Moment : ConstIn mg "Moment" (.ref C)) : OwnCmp P w K mg base CX0 1 C "__gt__" (sp2 (bCmp C (fun a b => decide (b < a)))) := by
  refine own_of dd bd_Moment_gt sc_Moment_gt (fun vs H Q E h => by obtain ⟨x0, x1, rfl, _⟩ := h; rfl) (fun f cdv A outer s H vs Q E hr h => ?_)
  obtain ⟨_, _, rfl, h⟩ := h
  refine ⟨_, Evl.pss_cut (ps_if (pt_not (pt_val (pe_callB call_isi (by rfl) T.b_isinstance (by decide +kernel) (pa_cons (pv 1) (pa_cons (pe_globC c_Moment (by rfl)) pa_nil))))) (pss_one (ps_never)) (pss_nil))
      (pss_one (ps_ret (pe_cmpR op_gt (pe_fld (pv 0) rfl) (pe_fld (pv 1) rfl) (nomark _)))), ?_⟩
  obtain ⟨p, q, o, o', rfl, rfl, ⟨dx, hp⟩, ⟨dy, hq⟩, k⟩ := h
  refine st_gen fun N0 hN0 => ?_
  walk_at "rs"
  refine ⟨_, _, .own C, M.ty ⟨dy, hq⟩, _, M.ki, ?_⟩
  walk_at "rs"
  refine hN0 _ _ ?_
  walk_at "rs"
  exact ⟨C, dx, _, hp, M.cl, M.at_ _ (by decide +kernel), _, mo_num, C, dy, _, hq, M.cl, M.at_ _ (by decide +kernel), _, mo_num, _, rfl, _, rfl, k⟩
theorem ok_Moment_ge (T : Bn mg) {C : Addr} (dd : MethAt K C "__ge__" "Moment.__ge__" s_Moment_ge) (M : MoCls K C) (c_Moment : ConstIn mg "Moment" (.ref C)) : OwnCmp P w K mg base CX0 1 C "__ge__" (sp2 (bCmp C (fun a b => decide (b ≤ a)))) := by
  refine own_of dd bd_Moment_ge sc_Moment_ge (fun vs H Q E h => by obtain ⟨x0, x1, rfl, _⟩ := h; rfl) (fun f cdv A outer s H vs Q E hr h => ?_)
  obtain ⟨_, _, rfl, h⟩ := h
  refine ⟨_, Evl.pss_cut (ps_if (pt_not (pt_val (pe_callB call_isi (by rfl) T.b_isinstance (by decide +kernel) (pa_cons (pv 1) (pa_cons (pe_globC c_Moment (by rfl)) pa_nil))))) (pss_one (ps_never)) (pss_nil))
      (pss_one (ps_ret (pe_cmpR op_ge (pe_fld (pv 0) rfl) (pe_fld (pv 1) rfl) (nomark _)))), ?_⟩
  obtain ⟨p, q, o, o', rfl, rfl, ⟨dx, hp⟩, ⟨dy, hq⟩, k⟩ := h
  refine st_gen fun N0 hN0 => ?_
  walk_at "rs"
  refine ⟨_, _, .own C, M.ty ⟨dy, hq⟩, _, M.ki, ?_⟩
  walk_at "rs"
  refine hN0 _ _ ?_
  walk_at "rs"
  exact ⟨C, dx, _, hp, M.cl, M.at_ _ (by decide +kernel), _, mo_num, C, dy, _, hq, M.cl, M.at_ _ (by decide +kernel), _, mo_num, _, rfl, _, rfl, k⟩
theorem ok_Moment_eq (T : Bn mg) {C : Addr} (dd : MethAt K C "__eq__" "Moment.__eq__" s_Moment_eq) (M : MoCls K C) (c_Moment : ConstIn mg "Moment" (.ref C)) : OwnCmp P w K mg base CX0 1 C "__eq__" (sp2 (bEq K C)) := by
  refine own_of dd bd_Moment_eq sc_Moment_eq (fun vs H Q E h => by obtain ⟨x0, x1, rfl, _⟩ := h; rfl) (fun f cdv A outer s H vs Q E hr h => ?_)
  obtain ⟨_, _, rfl, h⟩ := h
  refine ⟨_, pss_one (ps_ret (pe_and (pe_callB call_isi (by rfl) T.b_isinstance (by decide +kernel) (pa_cons (pv 1) (pa_cons (pe_globC c_Moment (by rfl)) pa_nil))) (pe_one (pe_cmpR op_eq (pe_fld (pv 0) rfl) (pe_fld (pv 1) rfl) (nomark _))))), ?_⟩
  obtain ⟨p, o, rfl, ⟨dx, hp⟩, k⟩ := h
  walk_at "rs"
  rcases k with ⟨t, ty, kf, k⟩ | ⟨q, o', rfl, ⟨dy, hq⟩, k⟩
  · exact ⟨t, _, .own C, ty, false, kf, iteF k⟩
  · refine ⟨_, _, .own C, M.ty ⟨dy, hq⟩, true, M.ki, iteT ?_⟩
    walk_at "rs"
    refine ⟨C, dx, _, hp, M.cl, M.at_ _ (by decide +kernel), _, mo_num, C, dy, _, hq, M.cl, M.at_ _ (by decide +kernel), _, mo_num, ?_⟩
    walk_at "rs"
    exact k
theorem ok_Moment_str (T : Bn mg) {C : Addr} (dd : MethAt K C "__str__" "Moment.__str__" s_Moment_str) (M : MoCls K C) : OwnCmp P w K mg base CX0 1 C "__str__" (sp1 (bStr C)) := by
  refine own_of dd bd_Moment_str sc_Moment_str (fun vs H Q E h => by obtain ⟨x0, rfl, _⟩ := h; rfl) (fun f cdv A outer s H vs Q E hr h => ?_)
  obtain ⟨_, rfl, h⟩ := h
  refine ⟨_, pss_one (ps_ret (pe_joined (.cons (pe_fmtSp (pe_fld (pv 0) rfl) (pe_joined1 pe_str) (by decide +kernel) (by decide +kernel)) (.cons (pe_str) (.cons (pe_fmtSp (pe_fld (pv 0) rfl) (pe_joined1 pe_str) (by decide +kernel) (by decide +kernel)) (.cons (pe_str) (.cons (pe_fmtSp (pe_fld (pv 0) rfl) (pe_joined1 pe_str) (by decide +kernel) (by decide +kernel)) (.cons (pe_str) (.cons (pe_fmtSp (pe_fld (pv 0) rfl) (pe_joined1 pe_str) (by decide +kernel) (by decide +kernel)) (.cons (pe_str) (.cons (pe_fmtSp (pe_fld (pv 0) rfl) (pe_joined1 pe_str) (by decide +kernel) (by decide +kernel)) (.nil)))))))))))), ?_⟩
  obtain ⟨p, o, rfl, ⟨dx, hp⟩, ⟨⟨y1, y2, m1, m2, d1, d2⟩, h1, h2, i1, i2⟩, q⟩ := h
  have mb := Cal.ml_bd o.y m1 m2
  have lg : ∀ {n : Int}, 0 ≤ n → n ≤ 999999 → n.natAbs.log2 < 1920 := fun {n} a b => by
    by_cases z : n.natAbs = 0
    · rw [z]; decide
    · exact Nat.lt_of_lt_of_le ((Nat.log2_lt z).mpr (show n.natAbs < 2 ^ 20 by omega)) (by decide)
  have e4 : ∀ {n : Int}, 0 ≤ n → intSpecTextOf "04d" n = pad 4 n := fun a => pad_of (by decide +kernel) (by decide +kernel) (by decide +kernel) a
  have e2 : ∀ {n : Int}, 0 ≤ n → intSpecTextOf "02d" n = pad 2 n := fun a => pad_of (by decide +kernel) (by decide +kernel) (by decide +kernel) a
  unfold moText at q
  simp only [tJs]
  walk_at "rs"
  have at_ := fun x hx => M.at_ x hx
  have py := pad_short (W := 4) (a := o.y) (by omega) (by omega) (by omega)
  have pm := pad_short (W := 2) (a := o.m) (by omega) (by omega) (by omega)
  have pd := pad_short (W := 2) (a := o.d) (by omega) (by omega) (by omega)
  have ph := pad_short (W := 2) (a := o.h) (by omega) (by omega) (by omega)
  have pi := pad_short (W := 2) (a := o.mi) (by omega) (by omega) (by omega)
  have c0 : Str.empty.length = 0 := by decide
  have c1 : (Str.ofString "-").length = 1 := by decide
  have c2 : (Str.ofString " ").length = 1 := by decide
  have c3 : (Str.ofString ":").length = 1 := by decide
  have sz : ∀ {n : Nat}, n ≤ 1000 → n ≤ sizeLine := fun h => Nat.le_trans h (by decide)
  refine ⟨C, dx, _, hp, M.cl, at_ _ (by decide +kernel), _, (by unfold moF; walk_at "lk"), _, rfl, lg (by omega) (by omega), ?_⟩
  rw [e4 (by omega)]
  refine ⟨sz (by simp only [str_len_append]; omega), sz (by simp only [str_len_append]; omega), C, dx, _, hp, M.cl, at_ _ (by decide +kernel), _, (by unfold moF; walk_at "lk"), _, rfl, lg (by omega) (by omega), ?_⟩
  rw [e2 (by omega)]
  refine ⟨sz (by simp only [str_len_append]; omega), sz (by simp only [str_len_append]; omega), C, dx, _, hp, M.cl, at_ _ (by decide +kernel), _, (by unfold moF; walk_at "lk"), _, rfl, lg (by omega) (by omega), ?_⟩
  rw [e2 (by omega)]
  refine ⟨sz (by simp only [str_len_append]; omega), sz (by simp only [str_len_append]; omega), C, dx, _, hp, M.cl, at_ _ (by decide +kernel), _, (by unfold moF; walk_at "lk"), _, rfl, lg (by omega) (by omega), ?_⟩
  rw [e2 (by omega)]
  refine ⟨sz (by simp only [str_len_append]; omega), sz (by simp only [str_len_append]; omega), C, dx, _, hp, M.cl, at_ _ (by decide +kernel), _, (by unfold moF; walk_at "lk"), _, rfl, lg (by omega) (by omega), ?_⟩
  rw [e2 (by omega)]
  exact ⟨sz (by simp only [str_len_append]; omega), q⟩
end
end RB
namespace RB
/-! ### the law's own reckoning -/
def lawDays (y m d : Int) : Int := 365 * (y - if m < 3 then 1 else 0) + (y - if m < 3 then 1 else 0) / 4 - (y - if m < 3 then 1 else 0) / 100 + (y - if m < 3 then 1 else 0) / 400 + (153 * (if 2 < m then m - 3 else m + 9) + 2) / 5 + d - 307
theorem lawDays_bd {y m d : Int} (h1 : 1 ≤ y) (h2 : y ≤ 999999) (h3 : 1 ≤ m) (h4 : m ≤ 12) (h5 : 1 ≤ d) (h6 : d ≤ 28) : 0 ≤ lawDays y m d ∧ lawDays y m d ≤ 365242130 := by
  unfold lawDays
  by_cases c : m < 3
  · rw [if_pos c, if_neg (by omega)]
    omega
  · rw [if_neg c, if_pos (by omega)]
    omega
open PySem PySem.Spec PyProof.Rows L2
theorem PenAt.set {H : Hp} {p c l : Addr} {n : Nat} {o : HO} (h : PenAt H p c n) (a : l ≠ p) (b : l ≠ c) : PenAt (upd H l o) p c n := by
  obtain ⟨⟨ns, k, gr, h1, h2, r⟩⟩ := h
  exact ⟨⟨ns, k, gr, (upd_ne (Ne.symm a)).trans h1, (upd_ne (Ne.symm b)).trans h2, r⟩⟩
def bDays : B3 := fun v u z H Q _ => ∃ y m d : Int, v = .int y ∧ u = .int m ∧ z = .int d ∧ Q (.int (lawDays y m d)) H
def bRow : B1 := fun v H Q _ => ∃ (p c : Addr) (n : Nat), v = .ref p ∧ PenAt H p c n ∧ n ≤ 90000 ∧ ∀ l (zs : List Int) H', H l = none → H' l = some (.lst (zs.map V.int)) → l ≠ p → zs.length ≤ 7 → (∀ z ∈ zs, 0 ≤ z ∧ z < 525948672960) → PenAt H' p c (n + 100) → But p H H' → Q (.ref l) H'
def cmps (a b : Int) : List Bool := [decide (a < b), decide (a ≤ b), decide (b < a), decide (b ≤ a), decide (a = b), !decide (a = b)]
def bCompared (C : Addr) : B2 := fun v u H Q _ => ∃ (p q : Addr) (o o' : Mo), v = .ref p ∧ u = .ref q ∧ MoAt C H p o ∧ MoAt C H q o' ∧ ∀ l H', H l = none → H' l = some (.lst ((cmps o.num o'.num).map V.bl)) → Same H H' → Q (.ref l) H'
local macro_rules | `(tactic| walk_at "lk") => `(tactic| repeat (first | exact look_hit | exact look_nil | refine look_miss (by decide +kernel) ?_))
local macro_rules | `(tactic| walk_at "rs") => `(tactic| try simp only [tAsg, gName, tVar, tC, tOp, rI, rI0, rU, tUn, tIfS, tTest, tB, tRet, tRetN, tDrop, tCal, tCons, tNil, tTup, tLst, tCB, tAnd, tOr, tNot, tAndV, tOrV, tNotV, tIf, tCmp, t2I, rEq, rNe, tNext, tChain, tSl, tPart, tNoPart, tPar, gSub, rSetL, rIxL, rIxT, rSlL, tSMeth, tMak, rOwnC, tFmtSp, tBM, rAppend, tDrop, gTup, gCons, gNil, iList, iTup, iRng1, iRng2, tWhile, tAug, ipI, tFld, sFld, rSum, rIsi,
  L2.start, cxK, List.map_cons, List.map_nil, List.length_cons, List.length_nil, Nat.zero_add, Nat.reduceAdd, Nat.reduceSub, List.replicate_succ, List.replicate_zero, List.cons_append, List.nil_append, List.append_nil,
  List.getElem?_cons_zero, List.getElem?_cons_succ, List.set_cons_zero, List.set_cons_succ, Option.some.injEq, V.int.injEq, V.ref.injEq, V.bl.injEq, V.str.injEq, List.cons.injEq, reduceCtorEq, and_true, true_and, and_assoc, exists_eq_left', exists_eq_left, exists_eq_right, exists_and_left, exists_and_right, false_and, and_false, or_false, false_or, exists_const, exists_false, if_false, if_true, eq_self, wipe, tYes, Bool.false_eq_true,  scal, decide_eq_true_eq, Bool.not_eq_true', decide_eq_false_iff_not])
section
variable {P : Program} {w : World} {K : PySem.W.Frag} {mg : Str → Option Value} {base : Heap}
theorem ok_law_days (T : Bn mg) (dd : DefIn K mg "_law_days" "_law_days" s__law_days ["_law_year", "_law_month", "_law_day"]) : Has P w K mg base CX0 1 "_law_days" ["_law_year", "_law_month", "_law_day"] (sp3 bDays) := by
  refine has_of dd sc__law_days (fun vs H Q E h => by obtain ⟨x0, x1, x2, rfl, _⟩ := h; rfl) (fun f cdv A outer s H vs Q E hr h => ?_)
  obtain ⟨_, _, _, rfl, h⟩ := h
  refine ⟨_, Evl.pss_cut (ps_set (i := 3) sc__law_days.nd rfl (Or.inl rfl) (pe_op op_sub (pv 0) (pe_callTy call_int1 (by rfl) T.b_int (by decide +kernel) (pa_cons (pe_cmpR op_lt (pv 1) (pe_int) (nomark _)) pa_nil))))
      (Evl.pss_cut (ps_set (i := 4) sc__law_days.nd rfl (Or.inl rfl) (pe_ifExp (pt_cmpR op_gt (pv 1) (pe_int) (nomark _)) (pe_op op_sub (pv 1) (pe_int)) (pe_op op_add (pv 1) (pe_int))))
      (pss_one (ps_ret (pe_op op_sub (pe_op op_add (pe_op op_add (pe_op op_add (pe_op op_sub (pe_op op_add (pe_op op_mul (pe_int) (pv 3)) (pe_op op_fdiv (pv 3) (pe_int))) (pe_op op_fdiv (pv 3) (pe_int))) (pe_op op_fdiv (pv 3) (pe_int))) (pe_op op_fdiv (pe_op op_add (pe_op op_mul (pe_int) (pv 4)) (pe_int)) (pe_int))) (pv 2)) (pe_int))))), ?_⟩
  obtain ⟨y, m, d, rfl, rfl, rfl, q⟩ := h
  unfold lawDays at q
  refine st_gen fun N1 hN1 => ?_
  walk_at "rs"
  refine hN1 _ _ ?_
  refine st_gen fun N2 hN2 => ?_
  walk_at "rs"
  refine ite2 (fun c => hN2 _ _ ?_) (fun c => hN2 _ _ ?_)
  · rw [if_pos c] at q
    walk_at "rs"
    exact ⟨small_mul (by decide) (by decide), ⟨by decide, by decide⟩, ⟨by decide, by decide⟩, ⟨by decide, by decide⟩, small_mul (by decide) (by decide), ⟨by decide, by decide⟩, q⟩
  · rw [if_neg c] at q
    walk_at "rs"
    exact ⟨small_mul (by decide) (by decide), ⟨by decide, by decide⟩, ⟨by decide, by decide⟩, ⟨by decide, by decide⟩, small_mul (by decide) (by decide), ⟨by decide, by decide⟩, q⟩
theorem ok_law_row (T : Bn mg) (dd : DefIn K mg "_law_row" "_law_row" s__law_row ["_law_pen_here"]) (h_law_draw : Has P w K mg base CX0 1 "_law_draw" ["_law_pen_here", "_law_many"] (sp2 bDraw)) (h_law_pick : Has P w K mg base CX0 2 "_law_pick" ["_law_pen_here", "_law_some"] (sp2 (bPick K))) (h_law_days : Has P w K mg base CX0 1 "_law_days" ["_law_year", "_law_month", "_law_day"] (sp3 bDays)) : Has P w K mg base CX0 3 "_law_row" ["_law_pen_here"] (sp1 bRow) := by
  refine has_of dd sc__law_row (fun vs H Q E h => by obtain ⟨x0, rfl, _⟩ := h; rfl) (fun f cdv A outer s H vs Q E hr h => ?_)
  obtain ⟨_, rfl, h⟩ := h
  refine ⟨_, Evl.pss_cut (ps_set (i := 1) sc__law_row.nd rfl (Or.inl rfl) (pe_lst pa_nil))
      (Evl.pss_cut (ps_for PassesOwn.never rfl (pi_range1 (by rfl) T.b_range (pa_cons (pe_op op_add (pe_int) (pe_callH h_law_draw hr pass0 (pa_cons (pv 0) (pa_cons (pe_int) pa_nil)))) pa_nil)) (pg_name (i := 2) sc__law_row.nd rfl (Or.inl rfl)) (Evl.pss_cut (ps_set (i := 3) sc__law_row.nd rfl (Or.inl rfl) (pe_op op_mul (pe_int) (pe_callH h_law_days hr pass0 (pa_cons (pe_op op_add (pe_int) (pe_callH h_law_draw hr pass0 (pa_cons (pv 0) (pa_cons (pe_int) pa_nil)))) (pa_cons (pe_op op_add (pe_int) (pe_callH h_law_draw hr pass0 (pa_cons (pv 0) (pa_cons (pe_int) pa_nil)))) (pa_cons (pe_op op_add (pe_int) (pe_callH h_law_draw hr pass0 (pa_cons (pv 0) (pa_cons (pe_int) pa_nil)))) pa_nil))))))
      (Evl.pss_cut (ps_set (i := 3) sc__law_row.nd rfl (Or.inl rfl) (pe_op op_add (pv 3) (pe_callH h_law_draw hr pass0 (pa_cons (pv 0) (pa_cons (pe_int) pa_nil)))))
      (Evl.pss_cut (ps_set (i := 4) sc__law_row.nd rfl (Or.inl rfl) (pe_ifExp (pt_cmpR (op_eqD hr.units) (pv 1) (pe_lst pa_nil) (nomark _)) (pv 3) (pe_callB (call_max2 rfl) (by rfl) T.b_max (by decide +kernel) (pa_cons (pe_int) (pa_cons (pe_op op_sub (pe_op op_add (pe_callH h_law_pick hr pass0 (pa_cons (pv 0) (pa_cons (pv 1) pa_nil))) (pe_callH h_law_draw hr pass0 (pa_cons (pv 0) (pa_cons (pe_int) pa_nil)))) (pe_int)) pa_nil)))))
      (pss_one (ps_expr (pe_bm PySem.F.plainAttrs_list PySem.F.slot_list_append PySem.F.type_list_append mt_append (pv 1) (pa_cons (pe_callH h_law_pick hr pass0 (pa_cons (pv 0) (pa_cons (pe_lst (pa_cons (pv 3) (pa_cons (pv 4) (pa_cons (pv 4) (pa_cons (pe_callB (call_max2 rfl) (by rfl) T.b_max (by decide +kernel) (pa_cons (pe_int) (pa_cons (pe_op op_sub (pv 4) (pe_op op_mul (pe_int) (pe_callH h_law_draw hr pass0 (pa_cons (pv 0) (pa_cons (pe_int) pa_nil))))) pa_nil))) pa_nil))))) pa_nil))) pa_nil))))))))
      (pss_one (ps_ret (pv 1)))), ?_⟩
  obtain ⟨p, c, n, rfl, hP, hn, q⟩ := h
  refine st_gen fun N1 hN1 => ?_
  walk_at "rs"
  refine ⟨by decide, fun l hl => hN1 _ _ ?_⟩
  have lp : l ≠ p := fun z => by
    obtain ⟨oo, e⟩ := hP.at
    rw [z, e] at hl
    cases hl
  have lc : l ≠ c := fun z => by
    obtain ⟨⟨_, _, _, _, e, _⟩⟩ := hP
    rw [z, e] at hl
    cases hl
  refine st_cut (fun σ H2 => ∃ (zs : List Int) (v2 v3 v4 : Option V), σ = [some (.ref p), some (.ref l), v2, v3, v4] ∧ H2 l = some (.lst (zs.map V.int)) ∧ zs.length ≤ 7 ∧ (∀ z ∈ zs, 0 ≤ z ∧ z < 525948672960) ∧ PenAt H2 p c (n + 100) ∧ But p H H2) ?_ (fun σ H2 hM => ?_)
  · have hP1 := hP.keep (same_new (o := .lst []) hl)
    have b62 : (2 : Int) ^ 62 = 4611686018427387904 := by decide
    refine ⟨_, rfl, _, _, rfl, p, c, n, 6, rfl, rfl, hP1, by omega, by decide, by decide, fun r H1 r0 r1 P1 b1 => ?_⟩
    refine ⟨2, r, rfl, rfl, 2 + r, rfl, by rw [b62]; omega, by rw [b62]; omega, for_range (lo := 0) (n := (2 + r).toNat) (fun i σ H2 => ∃ (zs : List Int) (v2 v3 v4 : Option V), σ = [some (.ref p), some (.ref l), v2, v3, v4] ∧ H2 l = some (.lst (zs.map V.int)) ∧ zs.length = i ∧
      (∀ z ∈ zs, 0 ≤ z ∧ z ≤ 525948668639 + 2 * (i : Int)) ∧ PenAt H2 p c (n + 1 + 8 * i) ∧ But p H H2) ?_ ?_ ?_⟩
    · exact ⟨[], none, none, none, rfl, b1 _ _ upd_same lp, rfl, fun z hz => by simp at hz, P1, (But.new But.refl hl).trans b1⟩
    · rintro i σ H2 hi ⟨zs, v2, v3, v4, rfl, h2, hz, zb, P2, b2⟩
      show Evl.tCut _ _ _ _ _
      refine st_gen fun N2 hN2 => ?_
      walk_at "rs"
      refine ⟨_, _, rfl, p, c, _, 999999, rfl, rfl, P2, by omega, by decide, by decide, fun d1 H3 a0 a1 P3 b3 => ?_⟩
      refine ⟨_, rfl, _, _, rfl, p, c, _, 12, rfl, rfl, P3, by omega, by decide, by decide, fun d2 H4 a2 a3 P4 b4 => ?_⟩
      refine ⟨_, rfl, _, _, rfl, p, c, _, 28, rfl, rfl, P4, by omega, by decide, by decide, fun d3 H5 a4 a5 P5 b5 => ?_⟩
      refine ⟨_, rfl, _, _, _, rfl, _, _, _, rfl, rfl, rfl, _, rfl, small_mul (by decide) (by decide), hN2 _ _ ?_⟩
      have far0 := lawDays_bd (y := 1 + d1) (m := 1 + d2) (d := 1 + d3) (by omega) (by omega) (by omega) (by omega) (by omega) (by omega)
      generalize lawDays (1 + d1) (1 + d2) (1 + d3) = dd at far0 ⊢
      refine st_gen fun N3 hN3 => ?_
      walk_at "rs"
      refine ⟨_, _, rfl, p, c, _, 1440, rfl, rfl, P5, by omega, by decide, by decide, fun d4 H6 a6 a7 P6 b6 => ⟨_, rfl, hN3 _ _ ?_⟩⟩
      have b26 := (((b2.trans b3).trans b4).trans b5).trans b6
      have e6 := (((b3.trans b4).trans b5).trans b6) _ _ h2 lp
      -- near
      refine st_cut (fun σ H7 => ∃ nr : Int, σ = [some (.ref p), some (.ref l), some (.int (0 + (i : Int))), some (.int (1440 * dd + d4)), some (.int nr)] ∧ 0 ≤ nr ∧ nr ≤ 525948668639 + 2 * ((i : Int) + 1) ∧ H7 l = some (.lst (zs.map V.int)) ∧ PenAt H7 p c (n + 1 + 8 * i + 6) ∧ But p H H7) ?_ (fun σ H7 hM => ?_)
      · walk_at "rs"
        refine ⟨by decide, fun t ht => rEq_ints (ms := []) (SqL.of (same_new ht _ _ e6)) (SqL.of upd_same) ?_⟩
        have e6' := same_new (o := .lst []) ht _ _ e6
        have b26' := b26.new (o := .lst []) ht
        have P6' := P6.keep (same_new (o := .lst []) ht)
        by_cases zn : zs = []
        · refine ⟨true, by simp [zn], ?_⟩
          rw [if_pos rfl]
          exact ⟨by omega, by omega, e6', P6'.mono (by omega), b26'⟩
        · refine ⟨false, by simp [zn], ?_⟩
          rw [if_neg (by decide)]
          refine ⟨_, _, rfl, _, _, _, _, _, rfl, rfl, P6', by omega, SqL.of e6', lp, by simpa using zn, by simp only [List.length_map]; omega, fun x H7 hx P7 b7 => ?_⟩
          obtain ⟨z, hz', rfl⟩ := List.mem_map.mp hx
          have zb' := zb z hz'
          refine ⟨_, _, rfl, _, _, _, _, rfl, rfl, P7, by omega, by decide, by decide, fun d5 H8 a8 a9 P8 b8 => ⟨_, rfl, _, rfl, ?_, ?_, b8 _ _ (b7 _ _ e6' lp) lp, P8.mono (by omega), (b26'.trans b7).trans b8⟩⟩
          · split <;> omega
          · split <;> omega
      · obtain ⟨nr, rfl, nr0, nr1, h7, P7, b7⟩ := hM
        walk_at "rs"
        refine ⟨.inl ⟨rfl, _, SqL.of h7⟩, _, _, rfl, _, _, _, _, rfl, rfl, P7, by omega, by decide, by decide, fun d5 H8 a8 a9 P8 b8 => ⟨_, rfl, small_mul (by decide) (by decide), by decide, fun t ht => ?_⟩⟩
        have e8 := same_new (o := .lst [.int (1440 * dd + d4), .int nr, .int nr, .int (if nr - 1440 * d5 > 0 then nr - 1440 * d5 else 0)]) ht _ _ (b8 _ _ h7 lp)
        have tp : t ≠ p := fun z => by
          obtain ⟨oo, e⟩ := P8.at
          rw [z, e] at ht
          cases ht
        have b28 := (b7.trans b8).new (o := .lst [.int (1440 * dd + d4), .int nr, .int nr, .int (if nr - 1440 * d5 > 0 then nr - 1440 * d5 else 0)]) ht
        refine ⟨_, _, rfl, _, _, _, _, _, rfl, rfl, P8.keep (same_new ht), by omega, SqL.of upd_same, tp, by simp, by simp only [List.length_cons, List.length_nil]; omega, fun x H9 hx P9 b9 => ?_⟩
        have e9 := b9 _ _ e8 lp
        have hx' : ∃ z : Int, x = .int z ∧ 0 ≤ z ∧ z ≤ 525948668639 + 2 * ((i : Int) + 1) := by
          simp only [List.mem_cons, List.not_mem_nil, or_false] at hx
          rcases hx with rfl | rfl | rfl | rfl
          · exact ⟨_, rfl, by omega, by omega⟩
          · exact ⟨_, rfl, by omega, by omega⟩
          · exact ⟨_, rfl, by omega, by omega⟩
          · refine ⟨_, rfl, ?_, ?_⟩ <;> split <;> omega
        obtain ⟨z, rfl, z0, z1⟩ := hx'
        refine ⟨_, e9, by simp only [List.length_map]; exact Nat.lt_of_le_of_lt (show zs.length ≤ 100 by omega) (by decide), zs ++ [z], by rw [upd_same, List.map_append]; rfl, by simp [hz], ?_, ?_, ?_⟩
        · intro y hy
          rcases List.mem_append.mp hy with h | h
          · have := zb y h
            omega
          · rw [List.mem_singleton.mp h]
            omega
        · exact (P9.mono (by omega)).set lp lc
        · exact (b28.trans b9).own hl
    · rintro σ H2 ⟨zs, v2, v3, v4, rfl, h2, hz, zb, P2, b2⟩
      exact ⟨zs, v2, v3, v4, rfl, h2, by omega, fun z h => ⟨(zb z h).1, by have := (zb z h).2; omega⟩, P2.mono (by omega), b2⟩
  · obtain ⟨zs, v2, v3, v4, rfl, h2, l7, zb, P2, b2⟩ := hM
    walk_at "rs"
    exact q l zs H2 hl h2 lp l7 zb P2 b2
theorem ok_law_compared (T : Bn mg) (dd : DefIn K mg "_law_compared" "_law_compared" s__law_compared ["_law_one", "_law_other"]) {C : Addr} (M : MoCls K C) (n_eq : OwnNe K C) (h_lt : OwnCmp P w K mg base CX0 1 C "__lt__" (sp2 (bCmp C fun a b => decide (a < b)))) (h_le : OwnCmp P w K mg base CX0 1 C "__le__" (sp2 (bCmp C fun a b => decide (a ≤ b)))) (h_gt : OwnCmp P w K mg base CX0 1 C "__gt__" (sp2 (bCmp C fun a b => decide (b < a)))) (h_ge : OwnCmp P w K mg base CX0 1 C "__ge__" (sp2 (bCmp C fun a b => decide (b ≤ a)))) (h_eq : OwnCmp P w K mg base CX0 1 C "__eq__" (sp2 (bEq K C))) : Has P w K mg base CX0 3 "_law_compared" ["_law_one", "_law_other"] (sp2 (bCompared C)) := by
  refine has_of dd sc__law_compared (fun vs H Q E h => by obtain ⟨x0, x1, rfl, _⟩ := h; rfl) (fun f cdv A outer s H vs Q E hr h => ?_)
  obtain ⟨_, _, rfl, h⟩ := h
  refine ⟨_, pss_one (ps_ret (pe_lst (pa_cons (pe_cmpR (op_ownC (fun _ _ => rfl) h_lt hr (by decide) pass0) (pv 0) (pv 1) (nomark _)) (pa_cons (pe_cmpR (op_ownC (fun _ _ => rfl) h_le hr (by decide) pass0) (pv 0) (pv 1) (nomark _)) (pa_cons (pe_cmpR (op_ownC (fun _ _ => rfl) h_gt hr (by decide) pass0) (pv 0) (pv 1) (nomark _)) (pa_cons (pe_cmpR (op_ownC (fun _ _ => rfl) h_ge hr (by decide) pass0) (pv 0) (pv 1) (nomark _)) (pa_cons (pe_cmpR (op_ownC (fun _ _ => rfl) h_eq hr (by decide) pass0) (pv 0) (pv 1) (nomark _)) (pa_cons (pe_cmpR (op_neC h_eq n_eq hr (by decide) pass0) (pv 0) (pv 1) (nomark _)) pa_nil)))))))), ?_⟩
  obtain ⟨p, q, o, o', rfl, rfl, hp, hq, k⟩ := h
  walk_at "rs"
  have ex : ∃ x y, H p = some (.ins C x y) := let ⟨dx, e⟩ := hp; ⟨dx, _, e⟩
  refine ⟨ex, _, M.ty hq, M.nf, _, _, rfl, p, q, o, o', rfl, rfl, hp, hq, ⟨_, rfl⟩, ?_⟩
  refine ⟨ex, _, M.ty hq, M.nf, _, _, rfl, p, q, o, o', rfl, rfl, hp, hq, ⟨_, rfl⟩, ?_⟩
  refine ⟨ex, _, M.ty hq, M.nf, _, _, rfl, p, q, o, o', rfl, rfl, hp, hq, ⟨_, rfl⟩, ?_⟩
  refine ⟨ex, _, M.ty hq, M.nf, _, _, rfl, p, q, o, o', rfl, rfl, hp, hq, ⟨_, rfl⟩, ?_⟩
  refine ⟨ex, _, M.ty hq, M.nf, _, _, rfl, p, o, rfl, hp, .inr ⟨q, o', rfl, hq, ⟨_, rfl⟩, ?_⟩⟩
  refine ⟨ex, _, M.ty hq, M.nf, _, _, rfl, p, o, rfl, hp, .inr ⟨q, o', rfl, hq, _, rfl, by decide, fun l hl => ?_⟩⟩
  exact k l _ hl upd_same (same_new hl)
end
end RB
namespace RB
open PySem PySem.Spec PyProof.Rows L2
local macro_rules | `(tactic| walk_at "lk") => `(tactic| repeat (first | exact look_hit | exact look_nil | refine look_miss (by decide +kernel) ?_))
local macro_rules | `(tactic| walk_at "rs") => `(tactic| try simp only [tAsg, gName, tVar, tC, tOp, rI, rI0, rU, tUn, tIfS, tTest, tB, tRet, tRetN, tDrop, tCal, tCons, tNil, tTup, tLst, tCB, tAnd, tOr, tNot, tAndV, tOrV, tNotV, tIf, tCmp, t2I, rEq, rNe, tNext, tChain, tSl, tPart, tNoPart, tPar, gSub, rSetL, rIxL, rIxT, rSlL, tSMeth, tMak, rOwnC, tFmtSp, tBM, rAppend, tDrop, gTup, gCons, gNil, iList, iTup, iRng1, iRng2, tWhile, tAug, ipI, tFld, sFld, rSum, rIsi,
  L2.start, cxK, List.map_cons, List.map_nil, List.length_cons, List.length_nil, Nat.zero_add, Nat.reduceAdd, Nat.reduceSub, List.replicate_succ, List.replicate_zero, List.cons_append, List.nil_append, List.append_nil,
  List.getElem?_cons_zero, List.getElem?_cons_succ, List.set_cons_zero, List.set_cons_succ, Option.some.injEq, V.int.injEq, V.ref.injEq, V.bl.injEq, V.str.injEq, List.cons.injEq, reduceCtorEq, and_true, true_and, and_assoc, exists_eq_left', exists_eq_left, exists_eq_right, exists_and_left, exists_and_right, false_and, and_false, or_false, false_or, exists_const, exists_false, if_false, if_true, eq_self, wipe, tYes, Bool.false_eq_true,  scal, decide_eq_true_eq, Bool.not_eq_true', decide_eq_false_iff_not])
theorem fnG_at {P : Program} {w : World} {K : PySem.W.Frag} {mg : Str → Option Value} {base : Heap} {k : Nat} {x qual : Str} {st : Stmt} {N ps : List Str} {sp : Sp} {f : Addr} {fd : FuncData} (F : Fun K x qual st f fd) (S : FnScope N ps (defScope st)) (len : ∀ vs H Q E, sp vs H Q E → vs.length = ps.length)
    (hbody : ∀ (cdv : Value) (A : Around) (outer : List Env) (s : Shared) (H : Hp) (vs : List V) (Q : VK) (E : XK), A.guards = some [] → Room k (A.deeper (envOfC qual (defScope st) s.heap.objs.size f cdv)) → sp vs H Q E →
      ∃ t, PSs (cxOf CX0 P w K mg base N qual (defScope st) f cdv A outer s H E).nox (defBody st) t ∧ t { nx := fun _ H' => Q .non H', rt := Q } (start N vs) H) : FnG P w K mg base CX0 (k + 1) f fd ps sp := by
  obtain ⟨oc, od, kV, doc, pm, an, cdv, ct, osl, rfl, lk, hcd⟩ := F.ex
  refine fng_of lk hcd S len fun A outer s H vs Q E hg hr hsp => ?_
  obtain ⟨t, h, q⟩ := hbody cdv A outer s H vs Q E hg hr hsp
  exact ⟨t, h.nox, q⟩
def bLaw (K : PySem.W.Frag) : B1 := fun v H Q _ => ∃ (a : Addr) (ns : List Int), v = .ref a ∧ SqL K H a (ns.map V.int) ∧ ∀ H', Q (.bl true) H'
/-- values of other types than the class -/
structure Odds (K : PySem.W.Frag) (C : Addr) : Prop where
  ki : ∀ t ∈ (["int", "str", "tuple", "list", "NoneType"] : List String), PySem.W.kitOne K (.type t) (.ref C) = some false
  nf : ∀ t ∈ (["int", "str", "tuple", "list", "NoneType"] : List String), PySem.W.notFirst K C (.type t) = true
/-- what Moment.at made of the numbers -/
def MadeOf (C : Addr) (H : Hp) (zs : List Int) (ps : List Addr) : Prop := ∀ t, t < ps.length → ∃ a o, ps[t]? = some a ∧ MoAt C H a o ∧ o.Ok ∧ zs[t]? = some o.num
theorem same_own {H H' : Hp} {q : Addr} {o : HO} (s : Same H H') (n : H q = none) : Same H (upd H' q o) := fun b x e => by
  have h : b ≠ q := fun z => by rw [z, n] at e; cases e
  exact (upd_ne h).trans (s _ _ e)
theorem MoAt.off {C : Addr} {H : Hp} {p D : Addr} {o : Mo} {xs ys : List V} (h : MoAt C H p o) (d : H D = some (.lst xs)) : MoAt C (upd H D (.lst ys)) p o := by
  obtain ⟨dx, e⟩ := h
  have n : p ≠ D := fun z => by rw [z, d] at e; cases e
  exact ⟨dx, (upd_ne n).trans e⟩
theorem MadeOf.keep {C : Addr} {H H' : Hp} {zs : List Int} {ps : List Addr} (h : MadeOf C H zs ps) (s : Same H H') : MadeOf C H' zs ps := fun t ht => by
  obtain ⟨a, o, h1, h2, r⟩ := h t ht
  exact ⟨a, o, h1, h2.same s, r⟩
theorem MadeOf.push {C : Addr} {H : Hp} {zs : List Int} {ps : List Addr} {D a : Addr} {o : Mo} {xs ys : List V} (h : MadeOf C H zs ps) (d : H D = some (.lst xs)) (m : MoAt C H a o) (k : o.Ok) (z : zs[ps.length]? = some o.num) : MadeOf C (upd H D (.lst ys)) zs (ps ++ [a]) := fun t ht => by
  rw [List.length_append] at ht
  by_cases c : t < ps.length
  · obtain ⟨b, o', h1, h2, r⟩ := h t c
    exact ⟨b, o', by rw [List.getElem?_append_left c]; exact h1, h2.off d, r⟩
  · have e : t = ps.length := by
      have : ([a] : List Addr).length = 1 := rfl
      omega
    subst e
    exact ⟨a, o, by simp, m.off d, k, z⟩
theorem at_nat {xs : List V} {i : Nat} {x : V} (h : xs[i]? = some x) : atI xs (0 + (i : Int)) = some x := by
  rw [Int.zero_add]
  exact atI_nat h
theorem at_int {zs : List Int} {i : Nat} {z : Int} (h : zs[i]? = some z) : atI (zs.map V.int) (0 + (i : Int)) = some (.int z) := at_nat (by rw [List.getElem?_map, h]; rfl)
theorem at_ref {ps : List Addr} {i : Nat} {z : Addr} (h : ps[i]? = some z) : atI (ps.map V.ref) (0 + (i : Int)) = some (.ref z) := at_nat (by rw [List.getElem?_map, h]; rfl)
theorem dp_bools {K : PySem.W.Frag} {H : Hp} : ∀ ns : List Bool, DpAll K H (ns.map V.bl) (ns.map PyData.bool)
  | [] => .nil
  | n :: ns => .cons (.bl n) (dp_bools ns)
theorem mo_year {o : Mo} : (moF o).lookup ("year" : Str) = some (.int o.y) := by unfold moF; repeat (first | exact look_hit | refine look_miss (by decide +kernel) ?_)
theorem mo_month {o : Mo} : (moF o).lookup ("month" : Str) = some (.int o.m) := by unfold moF; repeat (first | exact look_hit | refine look_miss (by decide +kernel) ?_)
theorem mo_day {o : Mo} : (moF o).lookup ("day" : Str) = some (.int o.d) := by unfold moF; repeat (first | exact look_hit | refine look_miss (by decide +kernel) ?_)
theorem mo_hour {o : Mo} : (moF o).lookup ("hour" : Str) = some (.int o.h) := by unfold moF; repeat (first | exact look_hit | refine look_miss (by decide +kernel) ?_)
theorem mo_minute {o : Mo} : (moF o).lookup ("minute" : Str) = some (.int o.mi) := by unfold moF; repeat (first | exact look_hit | refine look_miss (by decide +kernel) ?_)
theorem same_back {H H' : Hp} {q : Addr} (s : Same H H') (n : H' q = none) : H q = none := by
  cases e : H q with
  | none => rfl
  | some o => rw [s _ _ e] at n; cases n
theorem for_gen {K : PySem.W.Frag} {tl : TE} {g : TG} {tb : TS} {D : Ends} {σ : L2.St} {H : Hp} (h : ∀ N : V → Hp → Prop, (∀ a xs H1, SqL K H1 a xs → (∃ W : Nat → Nat → L2.St → Hp → Prop, (∃ m, W 0 m σ H1) ∧ ∀ i m σ H, W i m σ H →
  ((Itl K a).stop i H ∧ D.nx σ H) ∨ ((Itl K a).go i H ∧ ∃ N : L2.St → Hp → Prop, (∀ σ' H', N σ' H' → ∃ m', m' < m ∧ W (i + 1) m' σ' H') ∧ ∀ x H', (Itl K a).yld i H x H' → g x σ H' fun σ2 H2 => tb { D with nx := N, ct := N, bk := D.nx } σ2 H2)) → N (.ref a) H1) → tl σ H N) : tFor (iList K tl) g tb D σ H :=
  h _ fun a xs H1 hs hw => ⟨a, rfl, ⟨xs, hs⟩, hw⟩
theorem rep6 : ∀ a b c d e f : Bool, (PyData.list ([a, b, c, d, e, f].map PyData.bool)).showable = true ∧ (PyData.list ([a, b, c, d, e, f].map PyData.bool)).hasDict = false ∧ (PyData.list ([a, b, c, d, e, f].map PyData.bool)).depth ≤ 60 ∧ (PyData.list ([a, b, c, d, e, f].map PyData.bool)).shown.length ≤ sizeLine := by decide +kernel
theorem repr_bools {K : PySem.W.Frag} {H : Hp} {p : Addr} {bs : List Bool} {Q : VK} (h : H p = some (.lst (bs.map V.bl))) (k : (PyData.list (bs.map PyData.bool)).showable = true ∧ (PyData.list (bs.map PyData.bool)).hasDict = false ∧ (PyData.list (bs.map PyData.bool)).depth ≤ 60 ∧ (PyData.list (bs.map PyData.bool)).shown.length ≤ sizeLine) (q : Q (.str (PyData.list (bs.map PyData.bool)).shown) H) : rReprD K [.ref p] H Q :=
  ⟨p, _, rfl, .lst (SqL.of h) (dp_bools bs), k.1, k.2.1, k.2.2.1, k.2.2.2, q⟩
section
variable {P : Program} {w : World} {K : PySem.W.Frag} {mg : Str → Option Value} {base : Heap}
theorem ok_law (T : Bn mg) {f : Addr} {fd : FuncData} (dd : Fun K "law" "law" s_law f fd) {C : Addr} (M : MoCls K C) (n_eq : OwnNe K C) (c_Moment : ConstIn mg "Moment" (.ref C)) (h_at : HasS P w K mg base CX0 7 C "at" (sp1 (bAt C))) (h_eq : OwnCmp P w K mg base CX0 1 C "__eq__" (sp2 (bEq K C))) (h_str : OwnCmp P w K mg base CX0 1 C "__str__" (sp1 (bStr C))) (O : Odds K C) (h_law_pen : Has P w K mg base CX0 1 "_law_pen" ["_law_script"] (sp1 (bPen K))) (h_law_row : Has P w K mg base CX0 3 "_law_row" ["_law_pen_here"] (sp1 bRow)) (h_law_compared : Has P w K mg base CX0 3 "_law_compared" ["_law_one", "_law_other"] (sp2 (bCompared C))) : FnG P w K mg base CX0 8 f fd ["_law_script"] (sp1 (bLaw K)) := by
  refine fnG_at dd sc_law (fun vs H Q E h => by obtain ⟨x0, rfl, _⟩ := h; rfl) (fun cdv A outer s H vs Q E hg hr h => ?_)
  obtain ⟨_, rfl, h⟩ := h
  have hu : (A.deeper (envOfC "law" (defScope s_law) s.heap.objs.size f cdv)).units + 64 < cLine := by
    have := hr.units
    omega
  refine ⟨_, Evl.pss_cut (ps_set (i := 1) sc_law.nd rfl (Or.inl rfl) (pe_callH h_law_pen hr pass0 (pa_cons (pv 0) pa_nil)))
      (Evl.pss_cut (ps_for PassesOwn.never rfl (pi_range1 (by rfl) T.b_range (pa_cons (pe_int) pa_nil)) (pg_name (i := 2) sc_law.nd rfl (Or.inl rfl)) (Evl.pss_cut (ps_set (i := 3) sc_law.nd rfl (Or.inl rfl) (pe_callH h_law_row hr pass0 (pa_cons (pv 1) pa_nil)))
      (Evl.pss_cut (ps_setLc (i := 4) (own := [("_law_number", 5)]) (g := gName 5) (by rfl) sc_law.nd rfl rfl (sw_true rfl rfl rfl (by decide +kernel)) (pi_list (pv 3)) (blkOk_by (own := [("_law_number", 5)]) (N := ["_law_script", "_law_pen_here", "_law_turn", "_law_numbers", "_law_made", "_law_number", "_law_k", "_law_j", "_law_one", "_law_other", "_law_due", "_law_parts", "_law_odd"]) (sc := defScope s_law) (by decide +kernel)) (fun _ _ _ _ _ => pg_name (i := 5) sc_law.nd rfl (Or.inl rfl)) (fun _ _ _ _ _ => pts_nil) (fun _ _ _ _ _ => (pe_smethH (pe_globC c_Moment (by rfl)) h_at hr pass0 (pa_cons (pv 5) pa_nil))))
      (pss_one (ps_for PassesOwn.never rfl (pi_range1 (by rfl) T.b_range (pa_cons (pe_callB call_len_seq (by rfl) T.b_len PySem.boot_len (pa_cons (pv 4) pa_nil)) pa_nil)) (pg_name (i := 6) sc_law.nd rfl (Or.inl rfl)) (Evl.pss_cut (ps_for PassesOwn.never rfl (pi_range1 (by rfl) T.b_range (pa_cons (pe_callB call_len_seq (by rfl) T.b_len PySem.boot_len (pa_cons (pv 4) pa_nil)) pa_nil)) (pg_name (i := 7) sc_law.nd rfl (Or.inl rfl)) (Evl.pss_cut (ps_par (i := 8) (j := 9) (by rfl) sc_law.nd rfl rfl (by decide) rfl rfl (pa_cons (pe_ix ix_list (pv 3) (pv 6) (fun _ _ => rfl)) (pa_cons (pe_ix ix_list (pv 3) (pv 7) (fun _ _ => rfl)) pa_nil)) (by rfl))
      (Evl.pss_cut (ps_set (i := 10) sc_law.nd rfl (Or.inl rfl) (pe_lst (pa_cons (pe_cmpR op_lt (pv 8) (pv 9) (nomark _)) (pa_cons (pe_cmpR op_le (pv 8) (pv 9) (nomark _)) (pa_cons (pe_cmpR op_gt (pv 8) (pv 9) (nomark _)) (pa_cons (pe_cmpR op_ge (pv 8) (pv 9) (nomark _)) (pa_cons (pe_cmpR op_eq (pv 8) (pv 9) (nomark _)) (pa_cons (pe_cmpR op_ne (pv 8) (pv 9) (nomark _)) pa_nil))))))))
      (pss_one (ps_if (pt_cmpR op_ne (pe_callB (call_reprD hg hu) (by rfl) T.b_repr (by decide +kernel) (pa_cons (pe_callH h_law_compared hr pass0 (pa_cons (pe_ix ix_list (pv 4) (pv 6) (fun _ _ => rfl)) (pa_cons (pe_ix ix_list (pv 4) (pv 7) (fun _ _ => rfl)) pa_nil))) pa_nil)) (pe_callB (call_reprD hg hu) (by rfl) T.b_repr (by decide +kernel) (pa_cons (pv 10) pa_nil)) (nomark _)) (pss_one (ps_ret (pe_bl))) (pss_nil))))))
      (Evl.pss_cut (ps_set (i := 11) sc_law.nd rfl (Or.inl rfl) (pe_tup (pa_cons (pe_fld (pe_ix ix_list (pv 4) (pv 6) (fun _ _ => rfl)) rfl) (pa_cons (pe_fld (pe_ix ix_list (pv 4) (pv 6) (fun _ _ => rfl)) rfl) (pa_cons (pe_fld (pe_ix ix_list (pv 4) (pv 6) (fun _ _ => rfl)) rfl) (pa_cons (pe_fld (pe_ix ix_list (pv 4) (pv 6) (fun _ _ => rfl)) rfl) (pa_cons (pe_fld (pe_ix ix_list (pv 4) (pv 6) (fun _ _ => rfl)) rfl) pa_nil)))))))
      (pss_one (ps_for PassesOwn.never rfl (pi_list (pe_lst (pa_cons (pe_ix ix_list (pv 3) (pv 6) (fun _ _ => rfl)) (pa_cons (pe_callTy (call_strC h_str hr (by decide) pass0) (by rfl) T.b_str (by decide +kernel) (pa_cons (pe_ix ix_list (pv 4) (pv 6) (fun _ _ => rfl)) pa_nil)) (pa_cons (pe_tup (pa_cons (pe_ix ix_list (pv 4) (pv 6) (fun _ _ => rfl)) pa_nil)) (pa_cons (pv 11) (pa_cons (pe_callTy call_list_of (by rfl) T.b_list (by decide +kernel) (pa_cons (pv 11) pa_nil)) (pa_cons (pe_non) pa_nil)))))))) (pg_name (i := 12) sc_law.nd rfl (Or.inl rfl)) (pss_one (ps_if (PW.pt (pw_or (pt_cmpR (op_ownC (fun _ _ => rfl) h_eq hr (by decide) pass0) (pe_ix ix_list (pv 4) (pv 6) (fun _ _ => rfl)) (pv 12) (nomark _)) (pw_or1 (pt_not (pt_cmpR (op_neC h_eq n_eq hr (by decide) pass0) (pe_ix ix_list (pv 4) (pv 6) (fun _ _ => rfl)) (pv 12) (nomark _)))))) (pss_one (ps_ret (pe_bl))) (pss_nil))))))))))))
      (pss_one (ps_ret (pe_bl)))), ?_⟩
  obtain ⟨a, ns, rfl, hS, q⟩ := h
  refine st_gen fun N1 hN1 => ?_
  walk_at "rs"
  refine ⟨_, rfl, a, ns, rfl, hS, fun p c H1 P1 s1 hp hc => hN1 _ _ ?_⟩
  refine st_cut (fun σ H2 => True) ?_ (fun σ H2 _ => by walk_at "rs"; exact q H2)
  refine ⟨8, rfl, by decide, by decide, for_range (lo := 0) (n := (8 : Int).toNat) (fun i σ H2 => ∃ v2 v3 v4 v5 v6 v7 v8 v9 v10 v11 v12 : Option V, σ = [some (.ref a), some (.ref p), v2, v3, v4, v5, v6, v7, v8, v9, v10, v11, v12] ∧ PenAt H2 p c (100 * i)) ?_ ?_ ?_⟩
  · exact ⟨_, _, _, _, _, _, _, _, _, _, _, rfl, P1.mono (by omega)⟩
  · rintro i σ H2 hi ⟨v2, v3, v4, v5, v6, v7, v8, v9, v10, v11, v12, rfl, P2⟩
    show Evl.tCut _ _ _ _ _
    refine st_gen fun N2 hN2 => ?_
    walk_at "rs"
    refine ⟨_, rfl, p, c, _, rfl, P2, by omega, fun l zs H3 hl h3 lp l7 zb P3 b3 => hN2 _ _ ?_⟩
    refine st_cut (fun σ H4 => ∃ (qa : Addr) (ps : List Addr), σ = [some (.ref a), some (.ref p), some (.int (0 + (i : Int))), some (.ref l), some (.ref qa), v5, v6, v7, v8, v9, v10, v11, v12] ∧ H4 qa = some (.lst (ps.map V.ref)) ∧ ps.length = zs.length ∧ H4 l = some (.lst (zs.map V.int)) ∧ MadeOf C H4 zs ps ∧ PenAt H4 p c (100 * i + 100)) ?_ (fun σ H4 hM => ?_)
    · refine ⟨_, rfl, l, rfl, ⟨_, SqL.of h3⟩, fun D hD => lc_list (xs := zs.map V.int) (fun j H5 => ∃ ps : List Addr, H5 D = some (.lst (ps.map V.ref)) ∧ ps.length = j ∧ Same H3 H5 ∧ MadeOf C H5 zs ps) ⟨[], upd_same, rfl, same_new hD, fun t h => absurd h (by simp)⟩ (fun j H5 _ hq => let ⟨_, _, _, s5, _⟩ := hq; SqL.of (s5 _ _ h3)) ?_ ?_⟩
      · rintro j x H5 hj ⟨ps, h5, e5, s5, m5⟩
        obtain ⟨z, ez, rfl⟩ : ∃ z, zs[j]? = some z ∧ x = .int z := by
          rw [List.getElem?_map] at hj
          cases q : zs[j]? with
          | none => rw [q] at hj; cases hj
          | some z => rw [q] at hj; cases hj; exact ⟨z, rfl, rfl⟩
        have zz := zb z (List.mem_of_getElem? ez)
        have jl : j < zs.length := (List.getElem?_eq_some_iff.mp ez).1
        walk_at "rs"
        refine ⟨_, rfl, z, rfl, zz.1, zz.2, fun a1 o H6 ha hm ho hn s6 => ⟨ps.map V.ref, s6 _ _ h5, by rw [List.length_map]; exact Nat.lt_of_lt_of_le (show ps.length < 100 by omega) (by decide), ps ++ [a1], by rw [upd_same, List.map_append]; rfl, by simp [e5], same_own (s5.trans s6) hD, (m5.keep s6).push (s6 _ _ h5) hm ho (by rw [e5, hn]; exact ez)⟩⟩
      · rintro H5 ⟨ps, h5, e5, s5, m5⟩
        walk_at "rs"
        exact ⟨ps, h5, by simpa using e5, s5 _ _ h3, m5, P3.keep s5⟩
    · obtain ⟨qa, ps, rfl, h4, lz, hl4, mo, P4⟩ := hM
      have b62 : (2 : Int) ^ 62 = 4611686018427387904 := by decide
      have ln : (((ps.map V.ref).length : Nat) : Int).toNat = ps.length := by rw [List.length_map]; omega
      refine ⟨_, rfl, qa, _, rfl, .inl (SqL.of h4), _, rfl, by rw [b62, List.length_map]; omega, by rw [b62, List.length_map]; omega, for_range (lo := 0) (n := (((ps.map V.ref).length : Nat) : Int).toNat) (fun k σ H5 => ∃ v5 v6 v7 v8 v9 v10 v11 v12 : Option V, σ = [some (.ref a), some (.ref p), some (.int (0 + (i : Int))), some (.ref l), some (.ref qa), v5, v6, v7, v8, v9, v10, v11, v12] ∧ Same H4 H5) ?_ ?_ ?_⟩
      · exact ⟨_, _, _, _, _, _, _, _, rfl, Same.refl _⟩
      · rintro k σ H5 hk ⟨v5, v6, v7, v8, v9, v10, v11, v12, rfl, s5⟩
        rw [ln] at hk
        obtain ⟨ak, ok, pk, mk, ook, zk⟩ := mo k hk
        show Evl.tCut _ _ _ _ _
        refine st_cut (fun σ H6 => ∃ v5 v7 v8 v9 v10 v11 v12 : Option V, σ = [some (.ref a), some (.ref p), some (.int (0 + (i : Int))), some (.ref l), some (.ref qa), v5, some (.int (0 + (k : Int))), v7, v8, v9, v10, v11, v12] ∧ Same H4 H6) ?_ (fun σ H6 hM => ?_)
        · refine ⟨_, rfl, qa, _, rfl, .inl (SqL.of (s5 _ _ h4)), _, rfl, by rw [b62, List.length_map]; omega, by rw [b62, List.length_map]; omega, for_range (lo := 0) (n := (((ps.map V.ref).length : Nat) : Int).toNat) (fun j σ H6 => ∃ v5 v7 v8 v9 v10 v11 v12 : Option V, σ = [some (.ref a), some (.ref p), some (.int (0 + (i : Int))), some (.ref l), some (.ref qa), v5, some (.int (0 + (k : Int))), v7, v8, v9, v10, v11, v12] ∧ Same H4 H6) ?_ ?_ ?_⟩
          · exact ⟨_, _, _, _, _, _, _, rfl, s5⟩
          · rintro j σ H6 hj ⟨v5, v7, v8, v9, v10, v11, v12, rfl, s6⟩
            rw [ln] at hj
            obtain ⟨aj, oj, pj, mj, ooj, zj⟩ := mo j hj
            show Evl.tCut _ _ _ _ _
            refine st_gen fun N3 hN3 => ?_
            walk_at "rs"
            refine ⟨_, SqL.of (s6 _ _ hl4), _, at_int zk, _, SqL.of (s6 _ _ hl4), _, at_int zj, hN3 _ _ ?_⟩
            refine st_gen fun N4 hN4 => ?_
            walk_at "rs"
            refine ⟨by decide, fun d hd => hN4 _ _ ?_⟩
            walk_at "rs"
            have s7 : Same H4 (upd H6 d (.lst ((cmps ok.num oj.num).map V.bl))) := same_own s6 (same_back s6 hd)
            refine ⟨_, SqL.of (s7 _ _ h4), _, at_ref pk, _, SqL.of (s7 _ _ h4), _, at_ref pj, _, _, rfl, ak, aj, ok, oj, rfl, rfl, mk.same s7, mj.same s7, fun c1 H7 hc1 h7 s8 => ?_⟩
            refine repr_bools h7 (rep6 _ _ _ _ _ _) (repr_bools (bs := cmps ok.num oj.num) (s8 _ _ upd_same) (rep6 _ _ _ _ _ _) ⟨rfl, ?_⟩)
            rw [if_neg (fun z => z rfl)]
            exact s7.trans s8
          · rintro σ H6 ⟨v5, v7, v8, v9, v10, v11, v12, rfl, s6⟩
            exact ⟨_, _, _, _, _, _, _, rfl, s6⟩
        · obtain ⟨v5, v7, v8, v9, v10, v11, v12, rfl, s6⟩ := hM
          refine st_gen fun N3 hN3 => ?_
          walk_at "rs"
          obtain ⟨dk, ek⟩ := mk
          refine ⟨_, SqL.of (s6 _ _ h4), _, at_ref pk, _, rfl, C, dk, _, s6 _ _ ek, M.cl, M.at_ _ (by decide +kernel), _, mo_year, _, SqL.of (s6 _ _ h4), _, at_ref pk, _, rfl, C, dk, _, s6 _ _ ek, M.cl, M.at_ _ (by decide +kernel), _, mo_month, _, SqL.of (s6 _ _ h4), _, at_ref pk, _, rfl, C, dk, _, s6 _ _ ek, M.cl, M.at_ _ (by decide +kernel), _, mo_day, _, SqL.of (s6 _ _ h4), _, at_ref pk, _, rfl, C, dk, _, s6 _ _ ek, M.cl, M.at_ _ (by decide +kernel), _, mo_hour, _, SqL.of (s6 _ _ h4), _, at_ref pk, _, rfl, C, dk, _, s6 _ _ ek, M.cl, M.at_ _ (by decide +kernel), _, mo_minute, by decide, fun tp htp => hN3 _ _ ?_⟩
          have h7 : upd H6 tp (.tup [.int ok.y, .int ok.m, .int ok.d, .int ok.h, .int ok.mi]) tp = some (.tup [.int ok.y, .int ok.m, .int ok.d, .int ok.h, .int ok.mi]) := upd_same
          have s7 := same_own s6 (o := .tup [.int ok.y, .int ok.m, .int ok.d, .int ok.h, .int ok.mi]) (same_back s6 htp)
          clear hN1 hN2 hN3
          generalize upd H6 tp (.tup [V.int ok.y, V.int ok.m, V.int ok.d, V.int ok.h, V.int ok.mi]) = H7 at s7 h7 ⊢
          refine for_gen fun N4 hN4 => ?_
          walk_at "rs"
          refine ⟨_, SqL.of (s7 _ _ hl4), _, at_int zk, _, SqL.of (s7 _ _ h4), _, at_ref pk, ak, dk, _, rfl, s7 _ _ ek, _, rfl, ⟨ak, ok, rfl, ⟨dk, s7 _ _ ek⟩, ook, ⟨_, rfl⟩, ?_⟩⟩
          refine ⟨_, SqL.of (s7 _ _ h4), _, at_ref pk, by decide, fun t1 ht1 => ?_⟩
          have s8 := same_new (o := .tup [.ref ak]) ht1
          have e1 : upd H7 t1 (.tup [.ref ak]) t1 = some (.tup [.ref ak]) := upd_same
          generalize upd H7 t1 (.tup [.ref ak]) = H8 at s8 e1 ⊢
          refine ⟨_, .inr (SqT.of (s8 _ _ h7)), fun l1 hl1 => ?_⟩
          have s9 := same_new (o := .lst [.int ok.y, .int ok.m, .int ok.d, .int ok.h, .int ok.mi]) hl1
          have e2 : upd H8 l1 (.lst [.int ok.y, .int ok.m, .int ok.d, .int ok.h, .int ok.mi]) l1 = some (.lst [.int ok.y, .int ok.m, .int ok.d, .int ok.h, .int ok.mi]) := upd_same
          generalize upd H8 l1 (.lst [.int ok.y, .int ok.m, .int ok.d, .int ok.h, .int ok.mi]) = H9 at s9 e2 ⊢
          refine ⟨by decide, fun l2 hl2 => ?_⟩
          have s10 := same_new (o := .lst [.int ok.num, .str (moText ok), .ref t1, .ref tp, .ref l1, .non]) hl2
          have e3 : upd H9 l2 (.lst [.int ok.num, .str (moText ok), .ref t1, .ref tp, .ref l1, .non]) l2 = some (.lst [.int ok.num, .str (moText ok), .ref t1, .ref tp, .ref l1, .non]) := upd_same
          generalize upd H9 l2 (.lst [.int ok.num, .str (moText ok), .ref t1, .ref tp, .ref l1, .non]) = H10 at s10 e3 ⊢
          have s710 := (s8.trans s9).trans s10
          refine hN4 _ _ _ (SqL.of e3) (for_list (xs := [.int ok.num, .str (moText ok), .ref t1, .ref tp, .ref l1, .non]) (fun j σ H' => ∃ v5 v7 v8 v9 v10 v11 v12 : Option V, σ = [some (.ref a), some (.ref p), some (.int (0 + (i : Int))), some (.ref l), some (.ref qa), v5, some (.int (0 + (k : Int))), v7, v8, v9, v10, v11, v12] ∧ Same H10 H') ?_ ?_ ?_ ?_)
          · exact ⟨_, _, _, _, _, _, _, rfl, Same.refl _⟩
          · rintro j σ H' _ ⟨v5, v7, v8, v9, v10, v11, v12, rfl, s11⟩
            exact SqL.of (s11 _ _ e3)
          · rintro j x σ H' hj ⟨v5, v7, v8, v9, v10, v11, v12, rfl, s11⟩
            have tyx : ∃ t : String, TyX K H' x (.type t) ∧ t ∈ (["int", "str", "tuple", "list", "NoneType"] : List String) := by
              have hx := List.mem_of_getElem? hj
              simp only [List.mem_cons, List.not_mem_nil, or_false] at hx
              rcases hx with rfl | rfl | rfl | rfl | rfl | rfl
              · exact ⟨_, .base (.int _), by simp⟩
              · exact ⟨_, .base (.str _), by simp⟩
              · exact ⟨_, .base (.tup (s11 _ _ (s10 _ _ (s9 _ _ e1)))), by simp⟩
              · exact ⟨_, .base (.tup (s11 _ _ (s10 _ _ (s9 _ _ (s8 _ _ h7))))), by simp⟩
              · exact ⟨_, .base (.lst (s11 _ _ (s10 _ _ e2))), by simp⟩
              · exact ⟨_, .base .non, by simp⟩
            obtain ⟨t, ty, ht⟩ := tyx
            have k1 := O.ki t ht
            have k2 := O.nf t ht
            have sx := (s7.trans s710).trans s11
            walk_at "rs"
            refine ⟨_, SqL.of (sx _ _ h4), _, at_ref pk, ak, rfl, ⟨dk, _, sx _ _ ek⟩, _, ty, k2, _, _, rfl, ak, ok, rfl, ⟨dk, sx _ _ ek⟩, .inl ⟨_, ty, k1, ⟨_, rfl⟩, false, rfl, ?_⟩⟩
            rw [if_neg (by decide)]
            refine ⟨_, SqL.of (sx _ _ h4), _, at_ref pk, ak, rfl, ⟨dk, _, sx _ _ ek⟩, _, ty, k2, _, _, rfl, ak, ok, rfl, ⟨dk, sx _ _ ek⟩, .inl ⟨_, ty, k1, false, rfl, ?_⟩⟩
            rw [if_neg (by decide)]
            exact s11
          · rintro σ H' ⟨v5, v7, v8, v9, v10, v11, v12, rfl, s11⟩
            exact ⟨_, _, _, _, _, _, _, _, rfl, (s7.trans s710).trans s11⟩
      · rintro σ H5 ⟨v5, v6, v7, v8, v9, v10, v11, v12, rfl, s5⟩
        exact ⟨_, _, _, _, _, _, _, _, _, _, _, rfl, (P4.keep s5).mono (by omega)⟩
  · rintro σ H2 ⟨v2, v3, v4, v5, v6, v7, v8, v9, v10, v11, v12, rfl, P2⟩
    trivial
end
end RB
namespace RB
open PySem PySem.Spec PyProof.Rows L2
/-- a tuple behind a name -/
def TupCo (K : PySem.W.Frag) (x : Str) (xs : List V) : Prop := ∃ (a : Addr) (o : Obj) (its : Array Value) (n : Nat), PySem.W.nsIn K mainGlobals x = some (some (.ref a)) ∧ K.lookup a = some o ∧ o.cls = .type "tuple" ∧ o.data = .seq its n ∧ its.size ≤ sizeLine ∧ Vals xs its.toList
theorem TupCo.mk {K : PySem.W.Frag} {x : Str} {xs : List V} {a : Addr} {o : Obj} {its : Array Value} {n : Nat} (h : PySem.W.nsIn K mainGlobals x = some (some (.ref a))) (l : K.lookup a = some o) (c : o.cls = .type "tuple") (e : o.data = .seq its n) (z : its.size ≤ sizeLine) (r : Vals xs its.toList) : TupCo K x xs := ⟨a, o, its, n, h, l, c, e, z, r⟩
theorem TupCo.to {K : PySem.W.Frag} {mg : Str → Option Value} {h : Heap} {x : Str} {xs : List V} (d : TupCo K x xs) (X : K.In h) (G : h.Ns mainGlobals mg) : ∃ a, ConstIn mg x (.ref a) ∧ ∀ H, SqT K H a xs := by
  obtain ⟨a, o, its, n, e, r⟩ := d
  exact ⟨a, ⟨_, PySem.W.mg_of X G e, rfl⟩, fun H => .inr ⟨o, its, n, r⟩⟩
theorem all_mk {l : PySem.W.OpenLaw} {w : World} {K : PySem.W.Frag} {h : Heap} {mg : Str → Option Value} {fa C : Addr} (X : K.In h) (G : h.Ns mainGlobals mg) (hfa : mg "law" = some (.ref fa))
    (aC : PySem.W.nsIn K mainGlobals "Moment" = some (some (.ref C)))
    (d_is_whole : DefAt K "is_whole" "is_whole" s_is_whole)
    (d_is_between : DefAt K "is_between" "is_between" s_is_between)
    (d_is_leap : DefAt K "is_leap" "is_leap" s_is_leap)
    (d_month_length : DefAt K "month_length" "month_length" s_month_length)
    (d_days_ahead : DefAt K "days_ahead" "days_ahead" s_days_ahead)
    (d_day_number : DefAt K "day_number" "day_number" s_day_number)
    (d_date_of : DefAt K "date_of" "date_of" s_date_of)
    (d_weekday_of : DefAt K "weekday_of" "weekday_of" s_weekday_of)
    (d_wrong_part : DefAt K "wrong_part" "wrong_part" s_wrong_part)
    (d_moment_at : DefAt K "moment_at" "moment_at" s_moment_at)
    (d_law_pen : DefAt K "_law_pen" "_law_pen" s__law_pen)
    (d_law_draw : DefAt K "_law_draw" "_law_draw" s__law_draw)
    (d_law_pick : DefAt K "_law_pick" "_law_pick" s__law_pick)
    (d_law_days : DefAt K "_law_days" "_law_days" s__law_days)
    (d_law_row : DefAt K "_law_row" "_law_row" s__law_row)
    (d_law_compared : DefAt K "_law_compared" "_law_compared" s__law_compared)
    (d_law : DefAt K "law" "law" s_law)
    (d_Moment_lt : MethAt K C "__lt__" "Moment.__lt__" s_Moment_lt)
    (d_Moment_le : MethAt K C "__le__" "Moment.__le__" s_Moment_le)
    (d_Moment_gt : MethAt K C "__gt__" "Moment.__gt__" s_Moment_gt)
    (d_Moment_ge : MethAt K C "__ge__" "Moment.__ge__" s_Moment_ge)
    (d_Moment_eq : MethAt K C "__eq__" "Moment.__eq__" s_Moment_eq)
    (d_Moment_str : MethAt K C "__str__" "Moment.__str__" s_Moment_str)
    (d_at : StatAt K C "at" "Moment.at" s_Moment_at)
    (d_init : InitAt K C "Moment.__init__" s_Moment_init [.int 0, .int 0])
    (v_year : CvAt K C "MOST_YEAR" (.int 999999))
    (c_ROUND_YEARS : CoAt K "ROUND_YEARS" (.int 400))
    (c_ROUND_DAYS : CoAt K "ROUND_DAYS" (.int 146097))
    (c_DAY_MINUTES : CoAt K "DAY_MINUTES" (.int 1440))
    (t_LENGTHS : TupCo K "LENGTHS" (Cal.LEN.map V.int))
    (z_int : PySem.W.nsIn K mainGlobals "int" = some none)
    (z_list : PySem.W.nsIn K mainGlobals "list" = some none)
    (z_len : PySem.W.nsIn K mainGlobals "len" = some none)
    (z_abs : PySem.W.nsIn K mainGlobals "abs" = some none)
    (z_range : PySem.W.nsIn K mainGlobals "range" = some none)
    (z_sum : PySem.W.nsIn K mainGlobals "sum" = some none)
    (z_str : PySem.W.nsIn K mainGlobals "str" = some none)
    (z_isinstance : PySem.W.nsIn K mainGlobals "isinstance" = some none)
    (z_bool : PySem.W.nsIn K mainGlobals "bool" = some none)
    (z_max : PySem.W.nsIn K mainGlobals "max" = some none)
    (z_repr : PySem.W.nsIn K mainGlobals "repr" = some none)
    (z_tuple : PySem.W.nsIn K mainGlobals "tuple" = some none)
    (pg : PySem.W.plainGet K C Str.empty = true)
    (hd : PySem.W.hasDictIn K C = true)
    (po : PySem.W.plainOver K C = true)
    (sa : PySem.W.findIn K (.ref C) "__setattr__" = some (some (.builtin "object.__setattr__")))
    (n_year : PySem.W.findIn K (.ref C) "year" = some none)
    (n_month : PySem.W.findIn K (.ref C) "month" = some none)
    (n_day : PySem.W.findIn K (.ref C) "day" = some none)
    (n_hour : PySem.W.findIn K (.ref C) "hour" = some none)
    (n_minute : PySem.W.findIn K (.ref C) "minute" = some none)
    (n_date : PySem.W.findIn K (.ref C) "date" = some none)
    (n_weekday : PySem.W.findIn K (.ref C) "weekday" = some none)
    (n_number : PySem.W.findIn K (.ref C) "number" = some none)
    (ca : PySem.W.findIn K (.ref C) "__class__" = some (some (.builtin "object.__class__")))
    (cn : PySem.W.specialIn K (.builtin "object.__class__") "__get__" = some (some (.builtin "getset_descriptor.__get__")))
    (ct : PySem.W.takesIn K (.builtin "object.__class__") = some true)
    (cm : PySem.W.mroIn K C (.type "object") = some true)
    (kI : PySem.W.kitOne K (.ref C) (.ref C) = some true)
    (nF : PySem.W.notFirst K C (.ref C) = true)
    (ne : PySem.W.findIn K (.ref C) "__ne__" = some (some (.builtin "object.__ne__")))
    (o1_int : PySem.W.kitOne K (.type "int") (.ref C) = some false)
    (o1_str : PySem.W.kitOne K (.type "str") (.ref C) = some false)
    (o1_tuple : PySem.W.kitOne K (.type "tuple") (.ref C) = some false)
    (o1_list : PySem.W.kitOne K (.type "list") (.ref C) = some false)
    (o1_NoneType : PySem.W.kitOne K (.type "NoneType") (.ref C) = some false)
    (o2_int : PySem.W.notFirst K C (.type "int") = true)
    (o2_str : PySem.W.notFirst K C (.type "str") = true)
    (o2_tuple : PySem.W.notFirst K C (.type "tuple") = true)
    (o2_list : PySem.W.notFirst K C (.type "list") = true)
    (o2_NoneType : PySem.W.notFirst K C (.type "NoneType") = true) :
    ∃ fd : FuncData, (∀ (s : Shared) (v : Value), BindsTo s fd ⟨[v], []⟩ [("_law_script", v)]) ∧ ∀ base : Heap, K.In base → base.Ns mainGlobals mg → FnG l.prog w K mg base CX0 8 fa fd ["_law_script"] (sp1 (bLaw K)) := by
  have T : Bn mg := ⟨PySem.W.mg_none_of X G z_int, PySem.W.mg_none_of X G z_list, PySem.W.mg_none_of X G z_len, PySem.W.mg_none_of X G z_abs, PySem.W.mg_none_of X G z_range, PySem.W.mg_none_of X G z_sum, PySem.W.mg_none_of X G z_str, PySem.W.mg_none_of X G z_isinstance, PySem.W.mg_none_of X G z_bool, PySem.W.mg_none_of X G z_max, PySem.W.mg_none_of X G z_repr, PySem.W.mg_none_of X G z_tuple⟩
  have cl : Cls K C := ⟨pg, hd, po, sa⟩
  have at_ : ∀ x ∈ (["year", "month", "day", "hour", "minute", "date", "weekday", "number"] : List Str), NoAttr K C x := by
    intro x hx
    simp only [List.mem_cons, List.not_mem_nil, or_false] at hx
    rcases hx with rfl | rfl | rfl | rfl | rfl | rfl | rfl | rfl
    · exact n_year
    · exact n_month
    · exact n_day
    · exact n_hour
    · exact n_minute
    · exact n_date
    · exact n_weekday
    · exact n_number
  have M : MoCls K C := ⟨cl, at_, ca, cn, ct, cm, kI, nF⟩
  have k1 : ∀ t ∈ (["int", "str", "tuple", "list", "NoneType"] : List String), PySem.W.kitOne K (.type t) (.ref C) = some false := by
    intro t ht
    simp only [List.mem_cons, List.not_mem_nil, or_false] at ht
    rcases ht with rfl | rfl | rfl | rfl | rfl
    · exact o1_int
    · exact o1_str
    · exact o1_tuple
    · exact o1_list
    · exact o1_NoneType
  have k2 : ∀ t ∈ (["int", "str", "tuple", "list", "NoneType"] : List String), PySem.W.notFirst K C (.type t) = true := by
    intro t ht
    simp only [List.mem_cons, List.not_mem_nil, or_false] at ht
    rcases ht with rfl | rfl | rfl | rfl | rfl
    · exact o2_int
    · exact o2_str
    · exact o2_tuple
    · exact o2_list
    · exact o2_NoneType
  have gm := PySem.W.mg_of X G aC
  have cM : ConstIn mg "Moment" (.ref C) := ⟨_, gm, rfl⟩
  have cY := c_ROUND_YEARS.to X G
  have cD := c_ROUND_DAYS.to X G
  have cN := c_DAY_MINUTES.to X G
  obtain ⟨aL, cL, hL⟩ := t_LENGTHS.to X G
  obtain ⟨f, oc, od, kV, doc, pm, an, cdv, ct', osl, a, lf, cf, kf⟩ := d_law
  cases hfa.symm.trans (PySem.W.mg_of X G a)
  refine ⟨PySem.W.fnOf "law" "law" (defArgs s_law) (defBody s_law) (defScope s_law) .none kV doc pm an cdv ct', fun s v => .of_eq rfl, fun base _ _ => ?_⟩
  have h_law_pen := ok_law_pen (P := l.prog) (w := w) (base := base) T (d_law_pen.to X G bd__law_pen)
  have h_law_draw := ok_law_draw (P := l.prog) (w := w) (base := base) T (d_law_draw.to X G bd__law_draw)
  have h_law_pick := ok_law_pick (P := l.prog) (w := w) (base := base) T (d_law_pick.to X G bd__law_pick) h_law_draw
  have h_is_whole := ok_is_whole (P := l.prog) (w := w) (base := base) T (d_is_whole.to X G bd_is_whole)
  have h_is_between := ok_is_between (P := l.prog) (w := w) (base := base) T (d_is_between.to X G bd_is_between) h_is_whole
  have h_is_leap := ok_is_leap (P := l.prog) (w := w) (base := base) T (d_is_leap.to X G bd_is_leap)
  have h_month_length := ok_month_length (P := l.prog) (w := w) (base := base) T (d_month_length.to X G bd_month_length) h_is_leap cL hL
  have h_days_ahead := ok_days_ahead (P := l.prog) (w := w) (base := base) T (d_days_ahead.to X G bd_days_ahead)
  have h_day_number := ok_day_number (P := l.prog) (w := w) (base := base) T (d_day_number.to X G bd_day_number) h_days_ahead h_month_length
  have h_date_of := ok_date_of (P := l.prog) (w := w) (base := base) T (d_date_of.to X G bd_date_of) h_days_ahead h_month_length cY cD
  have h_weekday_of := ok_weekday_of (P := l.prog) (w := w) (base := base) T (d_weekday_of.to X G bd_weekday_of)
  have h_wrong_part := ok_wrong_part (P := l.prog) (w := w) (base := base) T (d_wrong_part.to X G bd_wrong_part) h_is_between h_month_length cM v_year
  have h_Moment_init := ok_Moment_init (P := l.prog) (w := w) (base := base) T d_init cl at_ h_wrong_part h_day_number h_weekday_of cN
  have h_moment_at := ok_moment_at (P := l.prog) (w := w) (base := base) T (d_moment_at.to X G bd_moment_at) cM h_is_between h_days_ahead h_date_of h_Moment_init v_year cN gm
  have h_Moment_at := ok_Moment_at (P := l.prog) (w := w) (base := base) T d_at h_moment_at
  have h_Moment_lt := ok_Moment_lt (P := l.prog) (w := w) (base := base) T d_Moment_lt M cM
  have h_Moment_le := ok_Moment_le (P := l.prog) (w := w) (base := base) T d_Moment_le M cM
  have h_Moment_gt := ok_Moment_gt (P := l.prog) (w := w) (base := base) T d_Moment_gt M cM
  have h_Moment_ge := ok_Moment_ge (P := l.prog) (w := w) (base := base) T d_Moment_ge M cM
  have h_Moment_eq := ok_Moment_eq (P := l.prog) (w := w) (base := base) T d_Moment_eq M cM
  have h_Moment_str := ok_Moment_str (P := l.prog) (w := w) (base := base) T d_Moment_str M
  have h_law_days := ok_law_days (P := l.prog) (w := w) (base := base) T (d_law_days.to X G bd__law_days)
  have h_law_row := ok_law_row (P := l.prog) (w := w) (base := base) T (d_law_row.to X G bd__law_row) h_law_draw h_law_pick h_law_days
  have h_law_compared := ok_law_compared (P := l.prog) (w := w) (base := base) T (d_law_compared.to X G bd__law_compared) M ⟨ne, cm⟩ h_Moment_lt h_Moment_le h_Moment_gt h_Moment_ge h_Moment_eq
  exact ok_law T (fun_mk lf cf kf) M ⟨ne, cm⟩ cM h_Moment_at h_Moment_eq h_Moment_str ⟨k1, k2⟩ h_law_pen h_law_row h_law_compared
end RB
set_option pp.oneline true
set_option pp.maxSteps 100
open PySem PySem.W PyProof.Rows
set_option maxRecDepth 100000 in
set_option maxHeartbeats 0 in
theorem PySem.Challenge.cw_rungback_k05_moments_in_order_holds : PySem.Challenge.rw_rungback_k05_moments_in_order.Holds := by
  w_on; o_law; k_head; (case hw => w_witness2)
  k_fill
  refine RB.walk_ofG (l := PySem.Challenge.rw_rungback_k05_moments_in_order) (n := 63) (k := 8) (x := "_law_script") (sp := fun w => RB.sp1 (RB.bLaw _)) rfl (by decide) rfl ⟨rfl, by decide, by decide⟩ (fun w h Y => PySem.W.kIn_of Y) ?F (fun w H a ns _ _ hS => ⟨_, rfl, a, ns, rfl, hS, fun _ => rfl⟩)
  case F =>
    intro w mg fa h KX G hmg
    refine' RB.all_mk KX G hmg ?aC ?d_is_whole ?d_is_between ?d_is_leap ?d_month_length ?d_days_ahead ?d_day_number ?d_date_of ?d_weekday_of ?d_wrong_part ?d_moment_at ?d_law_pen ?d_law_draw ?d_law_pick ?d_law_days ?d_law_row ?d_law_compared ?d_law ?d_Moment_lt ?d_Moment_le ?d_Moment_gt ?d_Moment_ge ?d_Moment_eq ?d_Moment_str ?d_at ?d_init ?v_year ?c_ROUND_YEARS ?c_ROUND_DAYS ?c_DAY_MINUTES ?t_LENGTHS ?z_int ?z_list ?z_len ?z_abs ?z_range ?z_sum ?z_str ?z_isinstance ?z_bool ?z_max ?z_repr ?z_tuple ?pg ?hd ?po ?sa ?n_year ?n_month ?n_day ?n_hour ?n_minute ?n_date ?n_weekday ?n_number ?ca ?cn ?ct ?cm ?kI ?nF ?ne ?o1_int ?o1_str ?o1_tuple ?o1_list ?o1_NoneType ?o2_int ?o2_str ?o2_tuple ?o2_list ?o2_NoneType
    (case aC => k_is)
    (case d_is_whole => refine' RB.DefAt.mk ?a ?l ?c ?k; (case a => k_is); (case l => k_is); (case c => k_is); (case k => k_is))
    (case d_is_between => refine' RB.DefAt.mk ?a ?l ?c ?k; (case a => k_is); (case l => k_is); (case c => k_is); (case k => k_is))
    (case d_is_leap => refine' RB.DefAt.mk ?a ?l ?c ?k; (case a => k_is); (case l => k_is); (case c => k_is); (case k => k_is))
    (case d_month_length => refine' RB.DefAt.mk ?a ?l ?c ?k; (case a => k_is); (case l => k_is); (case c => k_is); (case k => k_is))
    (case d_days_ahead => refine' RB.DefAt.mk ?a ?l ?c ?k; (case a => k_is); (case l => k_is); (case c => k_is); (case k => k_is))
    (case d_day_number => refine' RB.DefAt.mk ?a ?l ?c ?k; (case a => k_is); (case l => k_is); (case c => k_is); (case k => k_is))
    (case d_date_of => refine' RB.DefAt.mk ?a ?l ?c ?k; (case a => k_is); (case l => k_is); (case c => k_is); (case k => k_is))
    (case d_weekday_of => refine' RB.DefAt.mk ?a ?l ?c ?k; (case a => k_is); (case l => k_is); (case c => k_is); (case k => k_is))
    (case d_wrong_part => refine' RB.DefAt.mk ?a ?l ?c ?k; (case a => k_is); (case l => k_is); (case c => k_is); (case k => k_is))
    (case d_moment_at => refine' RB.DefAt.mk ?a ?l ?c ?k; (case a => k_is); (case l => k_is); (case c => k_is); (case k => k_is))
    (case d_law_pen => refine' RB.DefAt.mk ?a ?l ?c ?k; (case a => k_is); (case l => k_is); (case c => k_is); (case k => k_is))
    (case d_law_draw => refine' RB.DefAt.mk ?a ?l ?c ?k; (case a => k_is); (case l => k_is); (case c => k_is); (case k => k_is))
    (case d_law_pick => refine' RB.DefAt.mk ?a ?l ?c ?k; (case a => k_is); (case l => k_is); (case c => k_is); (case k => k_is))
    (case d_law_days => refine' RB.DefAt.mk ?a ?l ?c ?k; (case a => k_is); (case l => k_is); (case c => k_is); (case k => k_is))
    (case d_law_row => refine' RB.DefAt.mk ?a ?l ?c ?k; (case a => k_is); (case l => k_is); (case c => k_is); (case k => k_is))
    (case d_law_compared => refine' RB.DefAt.mk ?a ?l ?c ?k; (case a => k_is); (case l => k_is); (case c => k_is); (case k => k_is))
    (case d_law => refine' RB.DefAt.mk ?a ?l ?c ?k; (case a => k_is); (case l => k_is); (case c => k_is); (case k => k_is))
    (case d_Moment_lt => refine' RB.MethAt.mk ?a ?i ?l ?c ?k; (case a => k_is); (case i => k_is); (case l => k_is); (case c => k_is); (case k => k_is))
    (case d_Moment_le => refine' RB.MethAt.mk ?a ?i ?l ?c ?k; (case a => k_is); (case i => k_is); (case l => k_is); (case c => k_is); (case k => k_is))
    (case d_Moment_gt => refine' RB.MethAt.mk ?a ?i ?l ?c ?k; (case a => k_is); (case i => k_is); (case l => k_is); (case c => k_is); (case k => k_is))
    (case d_Moment_ge => refine' RB.MethAt.mk ?a ?i ?l ?c ?k; (case a => k_is); (case i => k_is); (case l => k_is); (case c => k_is); (case k => k_is))
    (case d_Moment_eq => refine' RB.MethAt.mk ?a ?i ?l ?c ?k; (case a => k_is); (case i => k_is); (case l => k_is); (case c => k_is); (case k => k_is))
    (case d_Moment_str => refine' RB.MethAt.mk ?a ?i ?l ?c ?k; (case a => k_is); (case i => k_is); (case l => k_is); (case c => k_is); (case k => k_is))
    (case d_at => refine' RB.StatAt.mk ?t ?rd ?ga ?gA ?rc ?l ?c ?k; (case t => k_is); (case rd => k_is); (case ga => k_is); (case gA => k_is); (case rc => k_is); (case l => k_is); (case c => k_is); (case k => k_is))
    (case d_init => refine' RB.InitAt.mk ?a ?i ?l ?c ?k ?mk ?kc ?lT ?oT ?rT; (case a => k_is); (case i => k_is); (case l => k_is); (case c => k_is); (case k => k_is); (case mk => k_is); (case kc => k_is); (case lT => k_is); (case oT => rfl); (case rT => exact .cons ⟨_, rfl⟩ (.cons ⟨_, rfl⟩ .nil)))
    (case v_year => refine' RB.CvAt.mk ?t ?rd ?ga ?gA ?r; (case t => k_is); (case rd => k_is); (case ga => k_is); (case gA => k_is); (case r => exact ⟨_, rfl⟩))
    (case c_ROUND_YEARS => refine' RB.CoAt.mk ?a ?r; (case a => k_is); (case r => exact ⟨_, rfl⟩))
    (case c_ROUND_DAYS => refine' RB.CoAt.mk ?a ?r; (case a => k_is); (case r => exact ⟨_, rfl⟩))
    (case c_DAY_MINUTES => refine' RB.CoAt.mk ?a ?r; (case a => k_is); (case r => exact ⟨_, rfl⟩))
    (case t_LENGTHS => refine' RB.TupCo.mk ?a ?l ?c ?e ?z ?r; (case a => k_is); (case l => k_is); (case c => rfl); (case e => rfl); (case z => decide); (case r => exact .cons ⟨_, rfl⟩ (.cons ⟨_, rfl⟩ (.cons ⟨_, rfl⟩ (.cons ⟨_, rfl⟩ (.cons ⟨_, rfl⟩ (.cons ⟨_, rfl⟩ (.cons ⟨_, rfl⟩ (.cons ⟨_, rfl⟩ (.cons ⟨_, rfl⟩ (.cons ⟨_, rfl⟩ (.cons ⟨_, rfl⟩ (.cons ⟨_, rfl⟩ (.nil))))))))))))))
    (case z_int => k_is)
    (case z_list => k_is)
    (case z_len => k_is)
    (case z_abs => k_is)
    (case z_range => k_is)
    (case z_sum => k_is)
    (case z_str => k_is)
    (case z_isinstance => k_is)
    (case z_bool => k_is)
    (case z_max => k_is)
    (case z_repr => k_is)
    (case z_tuple => k_is)
    (case pg => k_is)
    (case hd => k_is)
    (case po => k_is)
    (case sa => k_is)
    (case n_year => k_is)
    (case n_month => k_is)
    (case n_day => k_is)
    (case n_hour => k_is)
    (case n_minute => k_is)
    (case n_date => k_is)
    (case n_weekday => k_is)
    (case n_number => k_is)
    (case ca => k_is)
    (case cn => k_is)
    (case ct => k_is)
    (case cm => k_is)
    (case kI => kit_is)
    (case nF => k_is)
    (case ne => k_is)
    (case o1_int => kit_is)
    (case o1_str => kit_is)
    (case o1_tuple => kit_is)
    (case o1_list => kit_is)
    (case o1_NoneType => kit_is)
    (case o2_int => k_is)
    (case o2_str => k_is)
    (case o2_tuple => k_is)
    (case o2_list => k_is)
    (case o2_NoneType => k_is)
