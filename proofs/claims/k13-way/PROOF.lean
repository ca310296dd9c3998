import PyProof.Rows.All
import Wide.All
import OpenK.AllK
import Wide.FinOn
import KE.KStateDown
import HandS.ForMost
import HandS.ForExc
import HandS.ExcInit
import HandS.ExcField
import HandS.ExcIs
import HandS.TryMany
import HandS.IsInst
import HandS.Evl
import HandS.Defaults
import HandS.Flow
import HandS.Style
import HandS.SortInts
import HandS.Head0
import HandS.Head1
import HandS.Head2
import HandS.HeadEnd
import HandS.HeadHook1
import HandS.HeadHook2
import HandS.Zip
import HandS.SortRule
import HandS.Finally
import HandS.More
import HandS.Walk
import PySem.Challenge.RW_tossbook_k13_way
set_option Elab.async false
set_option linter.all false
set_option maxRecDepth 100000
set_option maxHeartbeats 4000000

/-! ### the head's facts, calls by name, what raises -/
namespace TB
open PySem PySem.Spec PyProof.Rows L2 Evl

/-! the hook: the defs, the facts, one Bool more -/
abbrev AlM : Type := He.AlD × Bool
def obsMG (n : Nat) (fa : List He.Fa) (fn : List He.DefD) (ex : PySem.W.Frag → Bool) (g : Addr → Option Obj) : AlM :=
  (He.obsD fa fn (He.frG g (He.asD g n)), ex (He.frG g (He.asD g n)))
def SaysM (fa : List He.Fa) (fn : List He.DefD) (ex : PySem.W.Frag → Bool) (K : PySem.W.Frag) : Prop := He.SaysD fa fn K ∧ ex K = true
def hookM (n : Nat) (fa : List He.Fa) (fn : List He.DefD) (ex : PySem.W.Frag → Bool) : PySem.W.Hook where
  α := AlM
  obs := fun s => obsMG n fa fn ex s.heap.get?
  val := fun _ => (He.valD fn, true)
  says := fun _ h => ∃ K : PySem.W.Frag, K.In h ∧ SaysM fa fn ex K
  of := fun _ _ e => ⟨_, He.frG_in, congrArg (fun z : AlM => z.1) e, congrArg (fun z : AlM => z.2) e⟩
  keeps := fun _ _ _ ⟨K, hK, c⟩ k => ⟨K, PySem.W.Frag.In.keeps hK k, c⟩
theorem obsMG_eq {n : Nat} {fa : List He.Fa} {fn : List He.DefD} {ex : PySem.W.Frag → Bool} {g : Addr → Option Obj} {s : Shared} (h : ∀ a, g a = s.heap.get? a) : obsMG n fa fn ex g = (hookM n fa fn ex).obs s := by
  have e : g = s.heap.get? := funext h
  rw [e] <;> rfl

/-- what the walk asks of the top -/
structure TX (fa : List He.Fa) (fn : List He.DefD) (ex : PySem.W.Frag → Bool) (K : PySem.W.Frag) (mg : Str → Option Value) : Prop where
  kx : ∃ h : Heap, K.In h ∧ h.Ns mainGlobals mg
  c : SaysM fa fn ex K
section
variable {fa : List He.Fa} {fn : List He.DefD} {ex : PySem.W.Frag → Bool} {K : PySem.W.Frag} {mg : Str → Option Value}
theorem TX.fact (T : TX fa fn ex K mg) (i : Nat) {f : He.Fa} (h : fa[i]? = some f := by rfl) : f.ok K = true := T.c.1.fact i h
theorem TX.glo (T : TX fa fn ex K mg) (i : Nat) {x : Str} (h : fa[i]? = some (.glo x) := by rfl) : mg x = some (.ref (He.ga K x)) := by
  obtain ⟨h0, X, G⟩ := T.kx
  exact He.glo_ok X G (T.fact i h)
theorem TX.free (T : TX fa fn ex K mg) (i : Nat) {x : Str} (h : fa[i]? = some (.free x) := by rfl) : mg x = none := by
  obtain ⟨h0, X, G⟩ := T.kx
  exact He.free_ok X G (T.fact i h)
theorem TX.int (T : TX fa fn ex K mg) (i : Nat) {x : Str} {j : Int} (h : fa[i]? = some (.int x j) := by rfl) : ∃ t, mg x = some (.int j t) := by
  obtain ⟨h0, X, G⟩ := T.kx
  exact He.int_ok X G (T.fact i h)
theorem TX.str (T : TX fa fn ex K mg) (i : Nat) {x z : Str} (h : fa[i]? = some (.str x z) := by rfl) : ∃ t, mg x = some (.str z t) := by
  obtain ⟨h0, X, G⟩ := T.kx
  exact He.str_ok X G (T.fact i h)
theorem TX.def_ (T : TX fa fn ex K mg) (i : Nat) {d : He.DefD} (h : fn[i]? = some d := by rfl) : ∃ fd, FunD K d.name d.qual d.params d.body d.scope (d.dvs K) (d.kws K) (He.fAd K d.at_) fd := T.c.1.def_ i h
end

/-- a def of the top keeps its promise, and is called by its name -/
structure OK (P : Program) (w : World) (K : PySem.W.Frag) (mg : Str → Option Value) (base : Heap) (x : Str) (ps : List Str) (k : Nat) (sp : Sp) : Prop where
  ex : ∃ f fd, mg x = some (.ref f) ∧ PySem.W.keepIn K (.ref f) = true ∧ Binds K fd ps [] ∧ FnOk P w K mg base (L2.CX P w) k f fd ps sp ∧ ∀ (s : Shared) (us : List Value), us.length = ps.length → BindsTo s fd ⟨us, []⟩ (ps.zip us)
/-- the law's own def -/
structure OKL (P : Program) (w : World) (K : PySem.W.Frag) (mg : Str → Option Value) (x : Str) (ps : List Str) (k : Nat) (sp : Sp) : Prop where
  ex : ∃ f fd, mg x = some (.ref f) ∧ (∀ (s : Shared) (us : List Value), us.length = ps.length → BindsTo s fd ⟨us, []⟩ (ps.zip us)) ∧ ∀ base : Heap, FnOk P w K mg base (L2.CX P w) k f fd ps sp
section
variable {X : Cx} {k : Nat} {ps : List Str} {sp : Sp} {E : XK} {x : Str} {p pos : Pos} {e : Expr} {es : List Expr} {t : TA} {te : TE}
theorem pe_own (O : OK X.prog X.w X.K X.mg X.base x ps k sp) (hr : Room k X.A) (hg : Gl X x) (hx : Passes (L2.CX X.prog X.w) X E) (ha : PA X (e :: es) t)
    (hdb : (x == ("__debug__" : Str)) = false := by decide) (he : starEach (e :: es) X.env = (false, eval e X.env) :: starEach es X.env := by rfl) (hpl : (backTo pos (starEach es X.env)).any (·.1) = false := by rfl) :
    PE X (.Call (.Name x p) (e :: es) [] pos) (tCall sp [] E t) := by
  obtain ⟨f, fd, g, kp, b, F, _⟩ := O.ex
  exact pe_call F hr hg g kp b .nil hx ha hdb he hpl
theorem pe_own0 (O : OK X.prog X.w X.K X.mg X.base x [] k sp) (hr : Room k X.A) (hg : Gl X x) (hx : Passes (L2.CX X.prog X.w) X E)
    (hdb : (x == ("__debug__" : Str)) = false := by decide) :
    PE X (.Call (.Name x p) [] [] pos) (tCall sp [] E tNil) := by
  obtain ⟨f, fd, g, kp, b, F, _⟩ := O.ex
  exact pe_call0 F hr hg g kp b .nil hx hdb
theorem pe_ownS {E : L2.St → XK} (O : OK X.prog X.w X.K X.mg X.base x ps k sp) (hr : Room k X.A) (hg : Gl X x) (hx : ∀ σ, PassesAt (L2.CX X.prog X.w) X σ (E σ)) (ha : PA X (e :: es) t)
    (hdb : (x == ("__debug__" : Str)) = false := by decide) (he : starEach (e :: es) X.env = (false, eval e X.env) :: starEach es X.env := by rfl) (hpl : (backTo pos (starEach es X.env)).any (·.1) = false := by rfl) :
    PE X (.Call (.Name x p) (e :: es) [] pos) (tCallS sp E t) := by
  obtain ⟨f, fd, g, kp, b, F, _⟩ := O.ex
  exact pe_callS F hr hg g kp b hx ha hdb he hpl
theorem pe_gi {i : Int} (h : ∃ t, X.mg x = some (.int i t)) (hg : Gl X x := by rfl) (hd : (x == ("__debug__" : Str)) = false := by decide) : PE X (.Name x pos) (tC (.int i)) := by
  obtain ⟨t, h⟩ := h
  exact pe_glob hg h ⟨t, rfl⟩ hd
theorem pe_gs {z : Str} (h : ∃ t, X.mg x = some (.str z t)) (hg : Gl X x := by rfl) (hd : (x == ("__debug__" : Str)) = false := by decide) : PE X (.Name x pos) (tC (.str z)) := by
  obtain ⟨t, h⟩ := h
  exact pe_glob hg h ⟨t, rfl⟩ hd
/-- a built-in class as a value -/
theorem pe_ty {T : String} (hm : X.mg x = none) (hv : bootBuiltins x = some (.type T)) (hg : Gl X x := by rfl) (hn : x ≠ "__name__" := by decide) (hd : (x == ("__debug__" : Str)) = false := by decide) : PE X (.Name x pos) (tC (.ty T)) :=
  pe_bltn hg hm hv rfl hn hd
/-- an own class, an own def as a value -/
theorem pe_cls {C : Addr} (hm : X.mg x = some (.ref C)) (hg : Gl X x := by rfl) (hd : (x == ("__debug__" : Str)) = false := by decide) : PE X (.Name x pos) (tC (.ref C)) :=
  pe_glob hg hm rfl hd
end

/-! ### what leaves by an exception -/
def Rz (te : TE) (σ : L2.St) (H : Hp) : Prop := ∀ H1, Ex H H1 → ∀ Q : VK, te σ H1 Q
def RzT (tt : TT) (σ : L2.St) (H : Hp) : Prop := ∀ H1, Ex H H1 → ∀ Q : Bool → Hp → Prop, tt σ H1 Q
def RzA (ta : TA) (σ : L2.St) (H : Hp) : Prop := ∀ H1, Ex H H1 → ∀ Q : List V → Hp → Prop, ta σ H1 Q
section
variable {σ : L2.St} {H H' : Hp} {ta tb te tx : TE} {t u : TT} {x y z v : V} {r : R2} {D : Ends} {tu tw tz : TS} {g : TG}
theorem Rz.mono (e : Ex H H') (h : Rz te σ H) : Rz te σ H' := fun H1 a Q => h H1 (e.trans a) Q
theorem rz_call {sp : Sp} {dvs vs : List V} {E : XK} {ta : TA} (h : EvA ta σ H vs) (hs : ∀ H1, Ex H H1 → ∀ Q : VK, sp (vs ++ dvs) H1 Q E) : Rz (tCall sp dvs E ta) σ H := fun H1 e Q =>
  h H1 e _ fun H2 e2 => hs H2 (e.trans e2) Q
theorem rz_callS {sp : Sp} {vs : List V} {E : L2.St → XK} {ta : TA} (h : EvA ta σ H vs) (hs : ∀ H1, Ex H H1 → ∀ Q : VK, sp vs H1 Q (E σ)) : Rz (tCallS sp E ta) σ H := fun H1 e Q =>
  h H1 e _ fun H2 e2 => hs H2 (e.trans e2) Q
theorem ev_callS {sp : Sp} {vs : List V} {E : L2.St → XK} {ta : TA} (h : EvA ta σ H vs) (hs : SpV sp vs H z) : Ev (tCallS sp E ta) σ H z := fun H1 e Q q =>
  h H1 e _ fun H2 e2 => hs H2 (e.trans e2) Q (fun H3 e3 => q H3 (e2.trans e3)) (E σ)
theorem el_callS {sp : Sp} {vs xs : List V} {E : L2.St → XK} {ta : TA} (h : EvA ta σ H vs) (hs : SpL sp vs H xs) : EvL (tCallS sp E ta) σ H xs := fun H1 e Q q =>
  h H1 e _ fun H2 e2 => hs H2 (e.trans e2) Q (fun p H3 hp e3 h3 => q p H3 (fresh_back e2 hp) (e2.trans e3) h3) (E σ)
theorem rz_op1 (h : Rz ta σ H) : Rz (tOp r ta tb) σ H := fun H1 e Q => h H1 e _
theorem rz_op2 (ha : Ev ta σ H x) (h : Rz tb σ H) : Rz (tOp r ta tb) σ H := fun H1 e Q => ha H1 e _ fun H2 e2 => h H2 (e.trans e2) _
theorem rz_un {r : V → Hp → VK → Prop} (h : Rz ta σ H) : Rz (tUn r ta) σ H := fun H1 e Q => h H1 e _
theorem rz_cons1 {tr : TA} (h : Rz ta σ H) : RzA (tCons ta tr) σ H := fun H1 e Q => h H1 e _
theorem rz_cons2 {tr : TA} (ha : Ev ta σ H x) (h : RzA tr σ H) : RzA (tCons ta tr) σ H := fun H1 e Q => ha H1 e _ fun H2 e2 => h H2 (e.trans e2) _
theorem rz_callA {sp : Sp} {dvs : List V} {E : XK} {ta : TA} (h : RzA ta σ H) : Rz (tCall sp dvs E ta) σ H := fun H1 e Q => h H1 e _
theorem rz_cbA {r : List V → Hp → VK → Prop} {ta : TA} (h : RzA ta σ H) : Rz (tCB r ta) σ H := fun H1 e Q => h H1 e _
theorem x_asg (h : Rz te σ H) : tAsg te g D σ H := h H (Ex.refl H) _
theorem x_drop (h : Rz te σ H) : tDrop te D σ H := h H (Ex.refl H) _
theorem x_ret (h : Rz te σ H) : tRet te D σ H := h H (Ex.refl H) _
theorem x_seq (h : ∀ D, tu D σ H) : tSeq tu tz D σ H := h _
theorem xq_asg (h : Rz te σ H) : tSeq (tAsg te g) tz D σ H := h H (Ex.refl H) _
theorem xq_drop (h : Rz te σ H) : tSeq (tDrop te) tz D σ H := h H (Ex.refl H) _
end
end TB

/-! ### exceptions by facts, kinds of values, steps -/
namespace TB
open PySem PySem.Spec PyProof.Rows L2 Evl
theorem units_of {A : Around} {k : Nat} (hr : Room k A) : A.units + 64 < cLine := by
  have h := hr.un
  omega
section
variable {X : Cx} {k : Nat} {x m : Str} {p p2 pos : Pos} {j : Nat}
/-- X('m'), an own class without __init__ -/
theorem pmk_ex (f : (He.Fa.exc x).ok X.K = true) (g : X.mg x = some (.ref (He.ga X.K x))) (hg : Gl X x := by rfl) (hdb : (x == ("__debug__" : Str)) = false := by decide) :
    PMk X (.Call (.Name x p) [.Constant (.str m) j p2] [] pos) (fun _ H Q => Q (.ref (He.ga X.K x)) none H) := by
  obtain ⟨e1, e2, e3, e4⟩ := He.exc_ok f
  exact pmk_own PySem.F.excBase_ValueError e1 g e2 (raises_own e3 e4) hg hdb
/-- what the head tells of an own exception class with an __init__ -/
def oexB (K : PySem.W.Frag) (C : Addr) : Bool := match K.lookup C with
  | some ⟨.type "type", _, .cls cd, sl⟩ => (match cd.mro, sl.toList with
    | .ref C' :: bm, [_, _, _, _, some (.builtin n), _] => C' == C && n == "ValueError.__new__" && !cd.hasDel && cd.hasDict && PySem.HandSPX.refsVE bm
    | _, _ => false)
  | _ => false
theorem oexB_ok {K : PySem.W.Frag} {C : Addr} (q : oexB K C = true) : ∃ nm q N bs bm sn sub ab col dd k0 k1 k2 k3 k5, K.lookup C = some (excClassObj nm q C N bs bm true sn sub ab col dd k0 k1 k2 k3 k5 "ValueError.__new__") ∧ PySem.HandSPX.refsVE bm = true := by
  unfold oexB at q
  split at q
  · rename_i dd cd sl ho
    split at q
    · rename_i C' bm k0 k1 k2 k3 n k5 hm hs
      simp only [Bool.and_eq_true, beq_iff_eq, Bool.not_eq_true'] at q
      obtain ⟨⟨⟨⟨rfl, rfl⟩, hdel⟩, hd⟩, ht⟩ := q
      obtain ⟨nm, bs, mro, ns, qn, hdi, sn, sub, ab, col, del⟩ := cd
      dsimp only at hm hdel hd
      subst hm hdel hd
      have hsl : sl = #[k0, k1, k2, k3, some (.builtin "ValueError.__new__"), k5] := by
        obtain ⟨l⟩ := sl
        simp only at hs
        rw [hs]
      subst hsl
      exact ⟨nm, qn, ns, bs, bm, sn, sub, ab, col, dd, k0, k1, k2, k3, k5, ho, ht⟩
    · cases q
  · cases q
def clashB (K : PySem.W.Frag) (C : Addr) : Bool := oexB K C && (xfB K C && (decide (PySem.W.findIn K (.ref C) "__setattr__" = some (some (.builtin "object.__setattr__"))) && (decide (PySem.W.typeIn K (.ref C) = some (.type "type")) && (PySem.W.keepIn K (.ref C) &&
  (decide (PySem.W.findIn K (.ref C) "__init__" = some (some (.ref (He.ma K C "__init__")))) && (decide (PySem.W.typeIn K (.ref (He.ma K C "__init__")) = some (.type "function")) && decide (PySem.W.findIn K (.ref C) "beats" = some none)))))))
structure ClashC (K : PySem.W.Frag) (C : Addr) : Prop where
  o : OexC K C
  x : XfC K C
  i : PySem.W.findIn K (.ref C) "__init__" = some (some (.ref (He.ma K C "__init__")))
  t : PySem.W.typeIn K (.ref (He.ma K C "__init__")) = some (.type "function")
  n : PySem.W.findIn K (.ref C) "beats" = some none
theorem clashB_ok {K : PySem.W.Frag} {C : Addr} (h : clashB K C = true) : ClashC K C := by
  obtain ⟨h1, h⟩ := Bool.and_eq_true_iff.mp h
  obtain ⟨h2, h⟩ := Bool.and_eq_true_iff.mp h
  obtain ⟨h3, h⟩ := Bool.and_eq_true_iff.mp h
  obtain ⟨h4, h⟩ := Bool.and_eq_true_iff.mp h
  obtain ⟨h5, h⟩ := Bool.and_eq_true_iff.mp h
  obtain ⟨h6, h⟩ := Bool.and_eq_true_iff.mp h
  obtain ⟨h7, h8⟩ := Bool.and_eq_true_iff.mp h
  have xf := xfB_ok h2
  exact ⟨⟨oexB_ok h1, of_decide_eq_true h3, xf.exC, of_decide_eq_true h4, h5⟩, xf, of_decide_eq_true h6, of_decide_eq_true h7, of_decide_eq_true h8⟩
/-- Clash(beats), by its own __init__ -/
structure OKE (P : Program) (w : World) (K : PySem.W.Frag) (mg : Str → Option Value) (base : Heap) (x : Str) (ps : List Str) (k : Nat) (sp : Sp) : Prop where
  ex : ∃ fd, ClashC K (He.ga K x) ∧ mg x = some (.ref (He.ga K x)) ∧ Binds K fd ps [] ∧ FnOk P w K mg base (L2.CX P w) k (He.ma K (He.ga K x) "__init__") fd ps sp
theorem passF {X : Cx} : Passes (L2.CX X.prog X.w) X (fun _ _ _ => False) := passL
theorem pmk_oexT {ps : List Str} {sp : Sp} {e : Expr} {es : List Expr} {ta : TA} (O : OKE X.prog X.w X.K X.mg X.base x ps k sp) (hr : Room (k + 1) X.A) (ha : PA X (e :: es) ta) (hg : Gl X x := by rfl) (hdb : (x == ("__debug__" : Str)) = false := by decide)
    (he : starEach (e :: es) X.env = (false, eval e X.env) :: starEach es X.env := by rfl) (hpl : (backTo pos (starEach es X.env)).any (·.1) = false := by rfl) :
    PMk X (.Call (.Name x p) (e :: es) [] pos) (tMkO (He.ga X.K x) sp [] ta) := by
  obtain ⟨fd, c, g, b, F⟩ := O.ex
  exact pmk_oex c.o c.i c.t F hr b .nil passF hg g ha hdb he hpl
end
/-! the kinds of values that the text knows -/
inductive Kd (H : Hp) : V → Prop where
  | non : Kd H .non
  | bl (b : Bool) : Kd H (.bl b)
  | int (i : Int) : Kd H (.int i)
  | str (z : Str) : Kd H (.str z)
  | lst {a : Addr} {xs : List V} (h : H a = some (.lst xs)) : Kd H (.ref a)
  | tup {a : Addr} {xs : List V} (h : H a = some (.tup xs)) : Kd H (.ref a)
theorem Kd.mono {H H' : Hp} {v : V} (e : Ex H H') (h : Kd H v) : Kd H' v := by
  cases h with
  | non => exact .non
  | bl b => exact .bl b
  | int i => exact .int i
  | str z => exact .str z
  | lst h => exact .lst (e _ _ h)
  | tup h => exact .tup (e _ _ h)
def isI : V → Bool
  | .int _ => true
  | _ => false
def isB : V → Bool
  | .bl _ => true
  | _ => false
theorem isi_int {K : PySem.W.Frag} {H : Hp} {v : V} (h : Kd H v) : RC (rIsi K) [v, .ty "int"] H (.bl (isI v || isB v)) := fun H1 e Q q => by
  have h1 := h.mono e
  cases h1 with
  | non => exact ⟨_, _, _, _, false, rfl, .ty _, .base .non, kit_ty (by decide +kernel), q H1 (Ex.refl H1)⟩
  | bl b => exact ⟨_, _, _, _, true, rfl, .ty _, .base (.bl b), kit_ty (by decide +kernel), q H1 (Ex.refl H1)⟩
  | int i => exact ⟨_, _, _, _, true, rfl, .ty _, .base (.int i), kit_ty (by decide +kernel), q H1 (Ex.refl H1)⟩
  | str z => exact ⟨_, _, _, _, false, rfl, .ty _, .base (.str z), kit_ty (by decide +kernel), q H1 (Ex.refl H1)⟩
  | lst z1 => exact ⟨_, _, _, _, false, rfl, .ty _, .base (.lst z1), kit_ty (by decide +kernel), q H1 (Ex.refl H1)⟩
  | tup z1 => exact ⟨_, _, _, _, false, rfl, .ty _, .base (.tup z1), kit_ty (by decide +kernel), q H1 (Ex.refl H1)⟩
theorem isi_bool {K : PySem.W.Frag} {H : Hp} {v : V} (h : Kd H v) : RC (rIsi K) [v, .ty "bool"] H (.bl (isB v)) := fun H1 e Q q => by
  have h1 := h.mono e
  cases h1 with
  | non => exact ⟨_, _, _, _, false, rfl, .ty _, .base .non, kit_ty (by decide +kernel), q H1 (Ex.refl H1)⟩
  | bl b => exact ⟨_, _, _, _, true, rfl, .ty _, .base (.bl b), kit_ty (by decide +kernel), q H1 (Ex.refl H1)⟩
  | int i => exact ⟨_, _, _, _, false, rfl, .ty _, .base (.int i), kit_ty (by decide +kernel), q H1 (Ex.refl H1)⟩
  | str z => exact ⟨_, _, _, _, false, rfl, .ty _, .base (.str z), kit_ty (by decide +kernel), q H1 (Ex.refl H1)⟩
  | lst z1 => exact ⟨_, _, _, _, false, rfl, .ty _, .base (.lst z1), kit_ty (by decide +kernel), q H1 (Ex.refl H1)⟩
  | tup z1 => exact ⟨_, _, _, _, false, rfl, .ty _, .base (.tup z1), kit_ty (by decide +kernel), q H1 (Ex.refl H1)⟩
/-- what is at v, if it is a list: its items -/
inductive Ls (H : Hp) : V → Option (List V) → Prop where
  | lst {a : Addr} {xs : List V} (h : H a = some (.lst xs)) : Ls H (.ref a) (some xs)
  | tup {a : Addr} {xs : List V} (h : H a = some (.tup xs)) : Ls H (.ref a) none
  | non : Ls H .non none
  | bl (b : Bool) : Ls H (.bl b) none
  | int (i : Int) : Ls H (.int i) none
  | str (z : Str) : Ls H (.str z) none
theorem Ls.mono {H H' : Hp} {v : V} {o : Option (List V)} (e : Ex H H') (h : Ls H v o) : Ls H' v o := by
  cases h with
  | lst h => exact .lst (e _ _ h)
  | tup h => exact .tup (e _ _ h)
  | non => exact .non
  | bl b => exact .bl b
  | int i => exact .int i
  | str z => exact .str z
theorem isi_list {K : PySem.W.Frag} {H : Hp} {v : V} {o : Option (List V)} (h : Ls H v o) : RC (rIsi K) [v, .ty "list"] H (.bl o.isSome) := fun H1 e Q q => by
  have h1 := h.mono e
  cases h1 with
  | lst z1 => exact ⟨_, _, _, _, true, rfl, .ty _, .base (.lst z1), kit_ty (by decide +kernel), q H1 (Ex.refl H1)⟩
  | tup z1 => exact ⟨_, _, _, _, false, rfl, .ty _, .base (.tup z1), kit_ty (by decide +kernel), q H1 (Ex.refl H1)⟩
  | non => exact ⟨_, _, _, _, false, rfl, .ty _, .base .non, kit_ty (by decide +kernel), q H1 (Ex.refl H1)⟩
  | bl b => exact ⟨_, _, _, _, false, rfl, .ty _, .base (.bl b), kit_ty (by decide +kernel), q H1 (Ex.refl H1)⟩
  | int i => exact ⟨_, _, _, _, false, rfl, .ty _, .base (.int i), kit_ty (by decide +kernel), q H1 (Ex.refl H1)⟩
  | str z => exact ⟨_, _, _, _, false, rfl, .ty _, .base (.str z), kit_ty (by decide +kernel), q H1 (Ex.refl H1)⟩
/-! the rules that name the written part, K said -/
section
variable {X : Cx}
theorem k_isi (K : PySem.W.Frag) (h : X.K = K := by rfl) : CallR X (.builtin "isinstance") (rIsi K) := by
  subst h
  exact call_isi
theorem k_isiT (K : PySem.W.Frag) (h : X.K = K := by rfl) : CallR X (.builtin "isinstance") (rIsiT K) := by
  subst h
  exact call_isiT
theorem k_len (K : PySem.W.Frag) (h : X.K = K := by rfl) : CallR X (.builtin "len") (rLenS K) := by
  subst h
  exact call_len_seq
theorem k_sum (K : PySem.W.Frag) (hc : X.calm = true) (h : X.K = K := by rfl) : CallR X (.builtin "sum") (rSum K) := by
  subst h
  exact cr_sum hc
theorem k_all (K : PySem.W.Frag) (hc : X.calm = true) (h : X.K = K := by rfl) : CallR X (.builtin "all") (rAll K) := by
  subst h
  exact cr_all hc
theorem k_any (K : PySem.W.Frag) (hc : X.calm = true) (h : X.K = K := by rfl) : CallR X (.builtin "any") (rAny K) := by
  subst h
  exact cr_any hc
theorem k_max (K : PySem.W.Frag) (hc : X.calm = true) (h : X.K = K := by rfl) : CallR X (.builtin "max") (rMax K) := by
  subst h
  exact cr_max hc
theorem k_min (K : PySem.W.Frag) (hc : X.calm = true) (h : X.K = K := by rfl) : CallR X (.builtin "min") (rMin K) := by
  subst h
  exact cr_min hc
theorem k_sorted (K : PySem.W.Frag) (h : X.K = K := by rfl) : CallR X (.builtin "sorted") (rSortedI K) := by
  subst h
  exact cr_sortedI
theorem k_list (K : PySem.W.Frag) (h : X.K = K := by rfl) : CallR X (.type "list") (rListS K) := by
  subst h
  exact call_list_of
theorem k_ixL (K : PySem.W.Frag) (h : X.K = K := by rfl) : IxR X (rIxL K) := by
  subst h
  exact ix_list
theorem k_ixT (K : PySem.W.Frag) (h : X.K = K := by rfl) : IxR X (rIxT K) := by
  subst h
  exact ix_tup
theorem k_in (K : PySem.W.Frag) (h : X.K = K := by rfl) : OpR X (compareOp .In) (rIn K false) := by
  subst h
  exact op_in_seq
theorem k_notIn (K : PySem.W.Frag) (h : X.K = K := by rfl) : OpR X (compareOp .NotIn) (rIn K true) := by
  subst h
  exact op_notIn_seq
theorem k_eqD (K : PySem.W.Frag) (hu : X.A.units + 64 < cLine) (h : X.K = K := by rfl) : OpR X (compareOp .Eq) (rEqD K) := by
  subst h
  exact op_eqD hu
theorem k_neD (K : PySem.W.Frag) (hu : X.A.units + 64 < cLine) (h : X.K = K := by rfl) : OpR X (compareOp .NotEq) (rNeD K) := by
  subst h
  exact op_neD hu
theorem k_slL (K : PySem.W.Frag) (h : X.K = K := by rfl) : SlR X (rSlL K) := by
  subst h
  exact sl_list
theorem k_piL (K : PySem.W.Frag) {tg l : Expr} {tl : TE} (hl : PE X l tl) (h : X.K = K := by rfl) : PI X tg l (iList K tl) := by
  subst h
  exact pi_list hl
theorem k_piT (K : PySem.W.Frag) {tg l : Expr} {tl : TE} (hl : PE X l tl) (h : X.K = K := by rfl) : PI X tg l (iTup K tl) := by
  subst h
  exact pi_tup hl
end
end TB

/-! ### what evaluates to what: further -/
namespace TB
open PySem PySem.Spec PyProof.Rows L2 Evl
def dInts (ns : List Int) : List PyData := ns.map PyData.int
theorem lay_ints : ∀ ns : List Int, PyData.canLayAll0 (dInts ns) = true
  | [] => rfl
  | n :: r => by
    show (PyData.canLay0 (.int n) && PyData.canLayAll0 (dInts r)) = true
    rw [lay_ints r]
    rfl
theorem dep_ints : ∀ ns : List Int, PyData.depthAll (dInts ns) = 0
  | [] => rfl
  | n :: r => by
    show max (PyData.depth (.int n)) (PyData.depthAll (dInts r)) = 0
    rw [dep_ints r]
    rfl
theorem shaped_list (ns : List Int) : SeqAt.shaped (.list (dInts ns)) = true := by
  show (PyData.canLayAll0 (dInts ns) && decide (PyData.depthAll (dInts ns) + 1 ≤ 64)) = true
  rw [lay_ints, dep_ints]
  rfl
theorem shaped_tuple (ns : List Int) : SeqAt.shaped (.tuple (dInts ns)) = true := by
  show (PyData.canLayAll0 (dInts ns) && decide (PyData.depthAll (dInts ns) + 1 ≤ 64)) = true
  rw [lay_ints, dep_ints]
  rfl
theorem eqvAll_ints : ∀ ns ms : List Int, PyData.eqvAll (dInts ns) (dInts ms) = decide (ns = ms)
  | [], [] => rfl
  | [], _ :: _ => rfl
  | _ :: _, [] => rfl
  | a :: r, b :: t => by
    show (PyData.eqv (.int a) (.int b) && PyData.eqvAll (dInts r) (dInts t)) = _
    rw [eqvAll_ints r t]
    show ((a == b) && decide (r = t)) = _
    rw [Bool.eq_iff_iff]
    simp
theorem eqv_list (ns ms : List Int) : PyData.eqv (.list (dInts ns)) (.list (dInts ms)) = decide (ns = ms) := by
  rw [← eqvAll_ints]
  rw [PyData.eqv]
theorem eqv_tuple (ns ms : List Int) : PyData.eqv (.tuple (dInts ns)) (.tuple (dInts ms)) = decide (ns = ms) := by
  rw [← eqvAll_ints]
  rw [PyData.eqv]
def RetU (xs : List V) (H : Hp) (Q : VK) : Prop := ∀ p H2, H p = none → Ex H H2 → H2 p = some (.tup xs) → Q (.ref p) H2
/-- what a def gives: a value, a new list, a new tuple, a refusal -/
inductive Re where
  | val (v : V)
  | lst (xs : List V)
  | tup (xs : List V)
  | err (x : Str)
  | clash (i j : Int)
def Give (K : PySem.W.Frag) (r : Re) (H : Hp) (Q : VK) (E : XK) : Prop := match r with
  | .val v => RetV v H Q
  | .lst xs => RetL xs H Q
  | .tup xs => RetU xs H Q
  | .err x => ∀ H2, Ex H H2 → E (.ref (He.ga K x)) none H2
  | .clash i j => ∀ H2 d p, H d = none → Ex H H2 → H2 d = some (.xd [(("beats" : Str), .ref p)]) → H2 p = some (.tup [.int i, .int j]) → E (.ref (He.ga K "Clash")) (some d) H2
section
variable {K : PySem.W.Frag} {σ : L2.St} {H H' : Hp} {ta tb tc te tl tx : TE} {t u : TT} {x y z v : V} {r r' : R2} {D : Ends} {tu tw tz : TS} {g : TG} {Q : VK} {E : XK}
theorem RetV.mono (e : Ex H H') (h : RetV v H Q) : RetV v H' Q := fun H2 e2 => h H2 (e.trans e2)
theorem RetL.mono {xs : List V} (e : Ex H H') (h : RetL xs H Q) : RetL xs H' Q := fun p H2 hp e2 h2 => h p H2 (fresh_back e hp) (e.trans e2) h2
theorem RetU.mono {xs : List V} (e : Ex H H') (h : RetU xs H Q) : RetU xs H' Q := fun p H2 hp e2 h2 => h p H2 (fresh_back e hp) (e.trans e2) h2
theorem Give.mono {r : Re} (e : Ex H H') (h : Give K r H Q E) : Give K r H' Q E := by
  cases r with
  | val v => exact RetV.mono e h
  | lst xs => exact RetL.mono e h
  | tup xs => exact RetU.mono e h
  | err x => exact fun H2 e2 => h H2 (e.trans e2)
  | clash i j => exact fun H2 d p hd e2 h1 h2 => h H2 d p (fresh_back e hd) (e.trans e2) h1 h2
theorem ev_chain {b c : Bool} (ha : Ev ta σ H x) (hb : Ev tb σ H y) (hr : RV r x y H (.bl b)) (hc : b = true → Ev tc σ H z) (hr' : b = true → RV r' y z H (.bl c)) : Ev (tChain r r' ta tb tc) σ H (.bl (b && c)) := fun H1 e Q q =>
  ha H1 e _ fun H2 e2 => hb H2 (e.trans e2) _ fun H3 e3 => hr H3 ((e.trans e2).trans e3) _ fun H4 e4 => ⟨b, rfl, by
    cases b with
    | true =>
      show tc σ H4 fun w' H4 => r' y w' H4 Q
      exact hc rfl H4 (((e.trans e2).trans e3).trans e4) _ fun H5 e5 => hr' rfl H5 ((((e.trans e2).trans e3).trans e4).trans e5) Q fun H6 e6 => q H6 ((((e2.trans e3).trans e4).trans e5).trans e6)
    | false =>
      show Q (.bl false) H4
      exact q H4 ((e2.trans e3).trans e4)⟩
theorem ev_and2 {a b : Bool} (h1 : Ev ta σ H (.bl a)) (h2 : Ev tb σ H (.bl b)) : Ev (tAndV ta tb) σ H (.bl (a && b)) := ev_andV h1 fun _ => h2
theorem ev_or2 {a b : Bool} (h1 : Ev ta σ H (.bl a)) (h2 : Ev tb σ H (.bl b)) : Ev (tOrV ta tb) σ H (.bl (a || b)) := ev_orV h1 fun _ => h2
theorem et_and2 {a b : Bool} (h1 : EvT t σ H a) (h2 : EvT u σ H b) : EvT (tAnd t u) σ H (a && b) := et_and h1 fun _ => h2
theorem et_or2 {a b : Bool} (h1 : EvT t σ H a) (h2 : EvT u σ H b) : EvT (tOr t u) σ H (a || b) := et_or h1 fun _ => h2
theorem ev_chain2 {b c : Bool} (ha : Ev ta σ H x) (hb : Ev tb σ H y) (hr : RV r x y H (.bl b)) (hc : Ev tc σ H z) (hr' : RV r' y z H (.bl c)) : Ev (tChain r r' ta tb tc) σ H (.bl (b && c)) := ev_chain ha hb hr (fun _ => hc) fun _ => hr'
/-- tests by truth -/
theorem et_tru {b : Bool} (h : Ev te σ H v) (ht : ∀ H1, Ex H H1 → TruV K v H1 b) : EvT (fun σ H Q => te σ H fun x H' => ∃ k, TruV K x H' k ∧ Q k H') σ H b := fun H1 e Q q =>
  h H1 e _ fun H2 e2 => ⟨b, ht H2 (e.trans e2), q H2 e2⟩
theorem rv_isN : RV (fun x y H Q => y = .non ∧ Q (.bl (decide (x = .non))) H) x .non H (.bl (decide (x = .non))) := fun H1 _ _ q => ⟨rfl, q H1 (Ex.refl H1)⟩
theorem rv_notN : RV (fun x y H Q => y = .non ∧ Q (.bl (!decide (x = .non))) H) x .non H (.bl (!decide (x = .non))) := fun H1 _ _ q => ⟨rfl, q H1 (Ex.refl H1)⟩
theorem ru_I {g : Int → V} {i : Int} : RU (rU g) (.int i) H (g i) := fun H1 _ _ q => ⟨i, rfl, q H1 (Ex.refl H1)⟩
/-- len of a list -/
theorem rc_len {p : Addr} {xs : List V} (h : SqL K H p xs) : RC (rLenS K) [.ref p] H (.int (xs.length : Int)) := fun H1 e _ q => ⟨p, xs, rfl, .inl (ex_l e h), q H1 (Ex.refl H1)⟩
theorem rc_lenT {p : Addr} {xs : List V} (h : SqT K H p xs) : RC (rLenS K) [.ref p] H (.int (xs.length : Int)) := fun H1 e _ q => ⟨p, xs, rfl, .inr (ex_t e h), q H1 (Ex.refl H1)⟩
theorem rc_sum {p : Addr} {ns : List Int} (h : SqL K H p (ns.map V.int)) : RC (rSum K) [.ref p] H (.int ns.sum) := fun H1 e _ q => ⟨p, ns, rfl, ex_l e h, q H1 (Ex.refl H1)⟩
theorem rc_abs {i : Int} : RC (fun xs H Q => ∃ i, xs = [.int i] ∧ Q (.int (if i < 0 then -i else i)) H) [.int i] H (.int (if i < 0 then -i else i)) := fun H1 _ _ q => ⟨i, rfl, q H1 (Ex.refl H1)⟩
theorem rcl_list {p : Addr} {xs : List V} (h : SqL K H p xs) : RCL (rListS K) [.ref p] H xs := fun H1 e _ q =>
  ⟨p, xs, rfl, .inl (ex_l e h), fun l hl => q l _ hl (Ex.new hl) upd_same⟩
theorem ev_all {bs : List Bool} (h : EvL te σ H (bs.map V.bl)) : Ev (tCB (rAll K) (tCons te tNil)) σ H (.bl (bs.all id)) := fun H1 e Q q =>
  h H1 e _ fun p H2 _ e2 h2 => ⟨p, bs, rfl, sq_of h2, q H2 e2⟩
theorem ev_any {bs : List Bool} (h : EvL te σ H (bs.map V.bl)) : Ev (tCB (rAny K) (tCons te tNil)) σ H (.bl (bs.any id)) := fun H1 e Q q =>
  h H1 e _ fun p H2 _ e2 h2 => ⟨p, bs, rfl, sq_of h2, q H2 e2⟩
theorem ev_sumN {ns : List Int} (h : EvL te σ H (ns.map V.int)) : Ev (tCB (rSum K) (tCons te tNil)) σ H (.int ns.sum) := fun H1 e Q q =>
  h H1 e _ fun p H2 _ e2 h2 => ⟨p, ns, rfl, sq_of h2, q H2 e2⟩
theorem et_yes : EvT tYes σ H true := fun H1 _ _ q => q H1 (Ex.refl H1)
theorem given_all (n : Nat) (v : Nat → V) : given n (fun _ => true) v = (List.range n).map v := by
  unfold given
  rw [List.filter_eq_self.mpr (fun _ _ => rfl)]
theorem given_map {xs : List V} {g : V → V} (v : Nat → V) (h : ∀ i x, xs[i]? = some x → v i = g x) : given xs.length (fun _ => true) v = xs.map g := by
  rw [given_all]
  apply List.ext_getElem
  · simp
  · intro i h1 h2
    simp only [List.getElem_map, List.getElem_range]
    have h3 : i < xs.length := by simpa using h2
    exact h i _ (List.getElem?_eq_getElem h3)
/-- [e for x in xs] -/
theorem el_map {a : Addr} {xs : List V} {j : Nat} {vs : List Nat} (g : V → V) (h : Ev tl σ H (.ref a)) (hx : SqL K H a xs) (hz : xs.length ≤ 40000) (hw : ∀ x, wipe ((wipe σ vs).set j (some x)) vs = wipe σ vs)
    (he : ∀ (x : V) H1, Ex H H1 → x ∈ xs → Ev te ((wipe σ vs).set j (some x)) H1 (g x)) :
    EvL (tLc (iList K tl) (gName j) tYes te vs) σ H (xs.map g) := by
  have q := el_lcL (te := te) (t := tYes) (fun _ => true) (fun i => g (xs.getD i .non)) h hx hz hw (fun _ _ _ _ _ => et_yes) (fun i x H1 e hi _ => by
    have e2 : xs.getD i .non = x := by
      rw [List.getD_eq_getElem?_getD, hi]
      rfl
    rw [e2]
    exact he x H1 e (List.mem_of_getElem? hi))
  rw [given_map (g := g) _ (fun i x hi => by
    have e2 : xs.getD i .non = x := by
      rw [List.getD_eq_getElem?_getD, hi]
      rfl
    rw [e2])] at q
  exact q
theorem el_mapT {a : Addr} {xs : List V} {j : Nat} {vs : List Nat} (gg : V → V) (h : Ev tl σ H (.ref a)) (hx : SqT K H a xs) (hz : xs.length ≤ 40000) (hw : ∀ x, wipe ((wipe σ vs).set j (some x)) vs = wipe σ vs)
    (he : ∀ (x : V) H1, Ex H H1 → x ∈ xs → Ev te ((wipe σ vs).set j (some x)) H1 (gg x)) :
    EvL (tLc (iTup K tl) (gName j) tYes te vs) σ H (xs.map gg) := fun H0 e Q q => h H0 e _ fun H1 e1 => ⟨a, rfl, ⟨xs, ex_t (e.trans e1) hx⟩, fun Dl hD =>
  lc_tup (xs := xs) (fun i H' => H1 Dl = none ∧ Ex H1 H' ∧ H' Dl = some (.lst ((xs.take i).map gg))) ⟨hD, Ex.new hD, by rw [upd_same]; rfl⟩ (fun i H' _ p => ex_t ((e.trans e1).trans p.2.1) hx) (fun i x H' hi p => ⟨hw x, by
    show te _ H' (fun y H4 => ∃ acc, H4 Dl = some (.lst acc) ∧ acc.length < sizeLine ∧ (H1 Dl = none ∧ Ex H1 (upd H4 Dl (.lst (acc ++ [y]))) ∧ (upd H4 Dl (.lst (acc ++ [y]))) Dl = some (.lst ((xs.take (i + 1)).map gg))))
    have hm := List.mem_of_getElem? hi
    have hil := (List.getElem?_eq_some_iff.mp hi).1
    refine he x H' ((e.trans e1).trans p.2.1) hm H' (Ex.refl H') _ fun H4 e4 => ⟨_, e4 _ _ p.2.2, sz_lt (by rw [List.length_map, List.length_take]; omega), p.1, Ex.mut (p.2.1.trans e4) p.1, ?_⟩
    rw [upd_same, List.take_add_one, hi, List.map_append]
    rfl⟩) (fun H' p => q Dl H' (fresh_back e1 p.1) (e1.trans p.2.1) (by
      have z := p.2.2
      rw [List.take_length] at z
      exact z))⟩
theorem isi_tup {a : Addr} {xs : List V} (h : H a = some (.tup xs)) : RC (rIsi K) [.ref a, .ty "tuple"] H (.bl true) := fun H1 e Q q =>
  ⟨_, _, _, _, true, rfl, .ty _, .base (.tup (e _ _ h)), kit_ty (by decide +kernel), q H1 (Ex.refl H1)⟩
theorem rv_eqD {d f : PyData} (h1 : ∀ H1, Ex H H1 → Dp K H1 x d) (h2 : ∀ H1, Ex H H1 → Dp K H1 y f) (s1 : SeqAt.shaped d = true) (s2 : SeqAt.shaped f = true) : RV (rEqD K) x y H (.bl (PyData.eqv d f)) := fun H1 e _ q => ⟨d, f, h1 H1 e, h2 H1 e, s1, s2, q H1 (Ex.refl H1)⟩
theorem rv_neD {d f : PyData} (h1 : ∀ H1, Ex H H1 → Dp K H1 x d) (h2 : ∀ H1, Ex H H1 → Dp K H1 y f) (s1 : SeqAt.shaped d = true) (s2 : SeqAt.shaped f = true) : RV (rNeD K) x y H (.bl (!PyData.eqv d f)) := fun H1 e _ q => ⟨d, f, h1 H1 e, h2 H1 e, s1, s2, q H1 (Ex.refl H1)⟩
theorem dp_ints : ∀ ns : List Int, DpAll K H (ns.map V.int) (dInts ns)
  | [] => .nil
  | n :: r => .cons (.int n) (dp_ints r)
theorem dp_list {a : Addr} {ns : List Int} (h : SqL K H a (ns.map V.int)) : ∀ H1, Ex H H1 → Dp K H1 (.ref a) (.list (dInts ns)) := fun H1 e => .lst (ex_l e h) (dp_ints ns)
theorem dp_tuple {a : Addr} {ns : List Int} (h : SqT K H a (ns.map V.int)) : ∀ H1, Ex H H1 → Dp K H1 (.ref a) (.tuple (dInts ns)) := fun H1 e => .tup (ex_t e h) (dp_ints ns)
/-- == and != of lists, of tuples of whole numbers -/
theorem rv_eqL {a b : Addr} {ns ms : List Int} (h1 : SqL K H a (ns.map V.int)) (h2 : SqL K H b (ms.map V.int)) : RV (rEqD K) (.ref a) (.ref b) H (.bl (decide (ns = ms))) := by
  have z := rv_eqD (dp_list h1) (dp_list h2) (shaped_list ns) (shaped_list ms)
  rw [eqv_list] at z
  exact z
theorem rv_neL {a b : Addr} {ns ms : List Int} (h1 : SqL K H a (ns.map V.int)) (h2 : SqL K H b (ms.map V.int)) : RV (rNeD K) (.ref a) (.ref b) H (.bl (!decide (ns = ms))) := by
  have z := rv_neD (dp_list h1) (dp_list h2) (shaped_list ns) (shaped_list ms)
  rw [eqv_list] at z
  exact z
theorem rv_neT {a b : Addr} {ns ms : List Int} (h1 : SqT K H a (ns.map V.int)) (h2 : SqT K H b (ms.map V.int)) : RV (rNeD K) (.ref a) (.ref b) H (.bl (!decide (ns = ms))) := by
  have z := rv_neD (dp_tuple h1) (dp_tuple h2) (shaped_tuple ns) (shaped_tuple ms)
  rw [eqv_tuple] at z
  exact z
/-- [e for k in range(n)] -/
theorem el_rng {ta : TA} {j : Nat} {vs : List Nat} {n : Int} (g : Nat → V) (h : EvA ta σ H [.int n]) (hn : 0 ≤ n ∧ n ≤ 40000) (hw : ∀ x, wipe ((wipe σ vs).set j (some x)) vs = wipe σ vs)
    (he : ∀ (i : Nat) H1, Ex H H1 → (i : Int) < n → Ev te ((wipe σ vs).set j (some (.int (i : Int)))) H1 (g i)) :
    EvL (tLc (iRng1 ta) (gName j) tYes te vs) σ H ((List.range n.toNat).map g) := by
  have q := el_lcR1 (te := te) (t := tYes) (fun _ => true) g h hn hw (fun _ _ _ _ => et_yes) (fun i H1 e hi _ => he i H1 e hi)
  rw [given_all] at q
  exact q
theorem el_filtR {ta : TA} {j : Nat} {vs : List Nat} {n : Int} (f : Nat → Bool) (g : Nat → V) (h : EvA ta σ H [.int n]) (hn : 0 ≤ n ∧ n ≤ 40000) (hw : ∀ x, wipe ((wipe σ vs).set j (some x)) vs = wipe σ vs)
    (ht : ∀ (i : Nat) H1, Ex H H1 → (i : Int) < n → EvT t ((wipe σ vs).set j (some (.int (i : Int)))) H1 (f i))
    (he : ∀ (i : Nat) H1, Ex H H1 → (i : Int) < n → f i = true → Ev te ((wipe σ vs).set j (some (.int (i : Int)))) H1 (g i)) :
    EvL (tLc (iRng1 ta) (gName j) t te vs) σ H (((List.range n.toNat).filter f).map g) := el_lcR1 f g h hn hw ht he
/-- what a call of an own def gives -/
theorem spv_of {sp : Sp} {vs : List V} (h : ∀ H1, Ex H H1 → ∀ (Q : VK) (E : XK), RetV z H1 Q → sp vs H1 Q E) : SpV sp vs H z := fun H1 e Q q E => h H1 e Q E q
theorem spl_of {sp : Sp} {vs xs : List V} (h : ∀ H1, Ex H H1 → ∀ (Q : VK) (E : XK), RetL xs H1 Q → sp vs H1 Q E) : SpL sp vs H xs := fun H1 e Q q E => h H1 e Q E q
/-- a call in the making of a tuple -/
def SpU (sp : Sp) (vs : List V) (H : Hp) (xs : List V) : Prop := ∀ H1, Ex H H1 → ∀ Q : VK, RetU xs H1 Q → ∀ E : XK, sp vs H1 Q E
theorem eu_call {sp : Sp} {dvs vs xs : List V} {E : XK} {ta : TA} (h : EvA ta σ H vs) (hs : SpU sp (vs ++ dvs) H xs) : EvU (tCall sp dvs E ta) σ H xs := fun H1 e Q q =>
  h H1 e _ fun H2 e2 => hs H2 (e.trans e2) Q (fun p H3 hp e3 h3 => q p H3 (fresh_back e2 hp) (e2.trans e3) h3) E
/-- a call that gives some new list, of which P holds -/
theorem q_relL {sp : Sp} {vs dvs : List V} {E : XK} {ta : TA} {i : Nat} {P : List Int → Prop} (h : EvA ta σ H vs) (hs : ∀ H1, Ex H H1 → ∀ (Q : VK) (E : XK), (∀ xs, P xs → RetL (xs.map V.int) H1 Q) → sp (vs ++ dvs) H1 Q E)
    (k : ∀ xs p H1, P xs → H p = none → Ex H H1 → H1 p = some (.lst (xs.map V.int)) → tz D (σ.set i (some (.ref p))) H1) : tSeq (tAsg (tCall sp dvs E ta) (gName i)) tz D σ H :=
  h H (Ex.refl H) _ fun H1 e1 => hs H1 e1 _ E fun xs hx p H2 hp e2 h2 => k xs p H2 hx (fresh_back e1 hp) (e1.trans e2) h2
/-- what follows a statement, shown once -/
theorem q_key {M : L2.St → Hp → Prop} (key : ∀ σ' H', M σ' H' → tz D σ' H') (h : (∀ σ' H', M σ' H' → tz D σ' H') → tSeq tu tz D σ H) : tSeq tu tz D σ H := h key
/-! dicts with whole keys -/
theorem ev_din {kvs : List (Key × V)} {a : Addr} {i : Int} {td ty : TE} (hy : Ev ty σ H (.int i)) (hd : Ev td σ H (.ref a)) (h : H a = some (.dK kvs)) : Ev (tDIn ty td) σ H (.bl (valV kvs (Sum.inl i)).isSome) := fun H1 e Q q =>
  hy H1 e _ fun H2 e2 => hd H2 (e.trans e2) _ fun H3 e3 => ⟨a, _, rfl, DGet.k (k := Sum.inl i) (((e.trans e2).trans e3) _ _ h), q H3 (e2.trans e3)⟩
theorem ev_dnotin {kvs : List (Key × V)} {a : Addr} {i : Int} {td ty : TE} (hy : Ev ty σ H (.int i)) (hd : Ev td σ H (.ref a)) (h : H a = some (.dK kvs)) : Ev (tDNotIn ty td) σ H (.bl (!(valV kvs (Sum.inl i)).isSome)) := fun H1 e Q q =>
  hy H1 e _ fun H2 e2 => hd H2 (e.trans e2) _ fun H3 e3 => ⟨a, _, rfl, DGet.k (k := Sum.inl i) (((e.trans e2).trans e3) _ _ h), q H3 (e2.trans e3)⟩
theorem ev_dget {kvs : List (Key × V)} {a : Addr} {i : Int} {td ty : TE} (hd : Ev td σ H (.ref a)) (hy : Ev ty σ H (.int i)) (h : H a = some (.dK kvs)) (hv : valV kvs (Sum.inl i) = some v) : Ev (tDGet td ty) σ H v := fun H1 e Q q =>
  hd H1 e _ fun H2 e2 => hy H2 (e.trans e2) _ fun H3 e3 => ⟨a, v, rfl, by
    have z := DGet.k (k := Sum.inl i) (((e.trans e2).trans e3) _ _ h)
    rw [hv] at z
    exact z, q H3 (e2.trans e3)⟩
theorem s_dput {kvs : List (Key × V)} {a : Addr} {i : Int} {td ty : TE} (h : H a = some (.dK kvs)) (hv : Ev te σ H v) (hd : Ev td σ H (.ref a)) (hy : Ev ty σ H (.int i)) (hz : kvs.length < 100000) (k : ∀ H1, Ex H H1 → D.nx σ (upd H1 a (.dK (putK kvs (Sum.inl i) v)))) :
    sDPut td ty te D σ H := hv H (Ex.refl H) _ fun H1 e1 => hd H1 e1 _ fun H2 e2 => hy H2 (e1.trans e2) _ fun H3 e3 => ⟨a, _, rfl, DPut.k (k := Sum.inl i) (((e1.trans e2).trans e3) _ _ h) (sz_lt hz), k H3 ((e1.trans e2).trans e3)⟩
theorem q_dput {kvs : List (Key × V)} {a : Addr} {i : Int} {td ty : TE} (h : H a = some (.dK kvs)) (hv : Ev te σ H v) (hd : Ev td σ H (.ref a)) (hy : Ev ty σ H (.int i)) (hz : kvs.length < 100000) (k : ∀ H1, Ex H H1 → tz D σ (upd H1 a (.dK (putK kvs (Sum.inl i) v)))) :
    tSeq (sDPut td ty te) tz D σ H := s_dput (D := { D with nx := tz D }) h hv hd hy hz k
/-- d = {} -/
theorem q_dnew {i : Nat} (k : ∀ p, H p = none → tz D (σ.set i (some (.ref p))) (upd H p (.dK []))) : tSeq (tAsg tDNewK (gName i)) tz D σ H := fun p hp => k p hp
/-- a tuple given back -/
theorem s_retU2 {xs : List V} {ta : TA} (h : EvA ta σ H xs) (hl : xs.length ≤ 100000) (k : RetU xs H D.rt) : tRet (tTup ta) D σ H := s_retU (eu_tup h hl) k
end
theorem atI_int {ns : List Int} {j : Nat} (h : j < ns.length) : atI (ns.map V.int) (j : Int) = some (.int (ns.getD j 0)) := by
  apply atI_nat
  rw [List.getElem?_map, List.getElem?_eq_getElem h, List.getD_eq_getElem?_getD, List.getElem?_eq_getElem h]
  rfl
end TB
namespace TB
open PySem PySem.Spec PyProof.Rows L2 Evl
section
variable {K : PySem.W.Frag} {σ : L2.St} {H H' : Hp} {te : TE} {tz : TS} {D : Ends}
/-- the greatest of a list -/
def mx : List Int → Int
  | [] => 0
  | x :: r => r.foldl max x
theorem foldl_max_ge : ∀ (r : List Int) (x : Int), x ≤ r.foldl max x ∧ ∀ y ∈ r, y ≤ r.foldl max x
  | [], x => ⟨Int.le_refl _, fun _ h => nomatch h⟩
  | a :: r, x => by
    obtain ⟨h1, h2⟩ := foldl_max_ge r (max x a)
    refine ⟨Int.le_trans (Int.le_max_left _ _) h1, fun y hy => ?_⟩
    rcases List.mem_cons.mp hy with rfl | hy
    · exact Int.le_trans (Int.le_max_right _ _) h1
    · exact h2 y hy
theorem foldl_max_mem : ∀ (r : List Int) (x : Int), r.foldl max x = x ∨ r.foldl max x ∈ r
  | [], x => .inl rfl
  | a :: r, x => by
    rcases foldl_max_mem r (max x a) with h | h
    · show r.foldl max (max x a) = x ∨ r.foldl max (max x a) ∈ a :: r
      rw [h]
      by_cases e : x ≤ a
      · rw [Int.max_eq_right e]
        exact .inr List.mem_cons_self
      · rw [Int.max_eq_left (by omega)]
        exact .inl rfl
    · exact .inr (List.mem_cons_of_mem _ h)
theorem mx_mem {l : List Int} (h : l ≠ []) : mx l ∈ l := by
  cases l with
  | nil => exact absurd rfl h
  | cons x r =>
    rcases foldl_max_mem r x with e | e
    · show r.foldl max x ∈ x :: r
      rw [e]
      exact List.mem_cons_self
    · exact List.mem_cons_of_mem _ e
theorem mx_ge {l : List Int} {y : Int} (h : y ∈ l) : y ≤ mx l := by
  cases l with
  | nil => cases h
  | cons x r =>
    obtain ⟨h1, h2⟩ := foldl_max_ge r x
    rcases List.mem_cons.mp h with rfl | h
    · exact h1
    · exact h2 y h
theorem mx_eq {l : List Int} {m : Int} (h1 : m ∈ l) (h2 : ∀ y, y ∈ l → y ≤ m) : m = mx l := by
  have ne : l ≠ [] := fun e => by
    rw [e] at h1
    cases h1
  have a := mx_ge h1
  have b := h2 _ (mx_mem ne)
  omega
theorem ev_maxN {ns : List Int} (h : EvL te σ H (ns.map V.int)) (h0 : 0 < ns.length) : Ev (tCB (rMax K) (tCons te tNil)) σ H (.int (mx ns)) := fun H1 e Q q =>
  h H1 e _ fun p H2 _ e2 h2 => ⟨p, ns, rfl, sq_of h2, h0, fun m hm hle => by
    rw [mx_eq hm hle]
    exact q H2 e2⟩
theorem rc_max {p : Addr} {ns : List Int} (h : SqL K H p (ns.map V.int)) (h0 : 0 < ns.length) : RC (rMax K) [.ref p] H (.int (mx ns)) := fun H1 e _ q => ⟨p, ns, rfl, ex_l e h, h0, fun m hm hle => by
  rw [mx_eq hm hle]
  exact q H1 (Ex.refl H1)⟩
/-- the greatest of what is beyond nothing is within -/
theorem mx_abs {ns : List Int} (h : ns ≠ []) (b : Int) : decide (b < mx (ns.map fun n => if n < 0 then -n else n)) = !(ns.all fun n => decide (-b ≤ n) && decide (n ≤ b)) := by
  rw [Bool.eq_iff_iff, decide_eq_true_iff, Bool.not_eq_true', List.all_eq_false]
  constructor
  · intro hb
    have hm := mx_mem (l := ns.map fun n => if n < 0 then -n else n) (by simpa using h)
    obtain ⟨n, hn, e⟩ := List.mem_map.mp hm
    refine ⟨n, hn, ?_⟩
    rw [← e] at hb
    simp only [Bool.and_eq_true, decide_eq_true_iff]
    split at hb <;> omega
  · rintro ⟨n, hn, hb⟩
    simp only [Bool.and_eq_true, decide_eq_true_iff] at hb
    have hg := mx_ge (List.mem_map.mpr ⟨n, hn, rfl⟩ : (if n < 0 then -n else n) ∈ ns.map fun n => if n < 0 then -n else n)
    split at hg <;> omega
/-- a call that gives some number, of which P holds -/
theorem q_relV {sp : Sp} {vs dvs : List V} {E : XK} {ta : TA} {i : Nat} {P : Int → Prop} (h : EvA ta σ H vs) (hs : ∀ H1, Ex H H1 → ∀ (Q : VK) (E : XK), (∀ x, P x → RetV (.int x) H1 Q) → sp (vs ++ dvs) H1 Q E)
    (k : ∀ x H1, P x → Ex H H1 → tz D (σ.set i (some (.int x))) H1) : tSeq (tAsg (tCall sp dvs E ta) (gName i)) tz D σ H :=
  h H (Ex.refl H) _ fun H1 e1 => hs H1 e1 _ E fun x hx H2 e2 => k x H2 hx (e1.trans e2)
theorem isi_listL {a : Addr} {xs : List V} (h : H a = some (.lst xs)) : RC (rIsi K) [.ref a, .ty "list"] H (.bl true) := fun H1 e Q q =>
  ⟨_, _, _, _, true, rfl, .ty _, .base (.lst (e _ _ h)), kit_ty (by decide +kernel), q H1 (Ex.refl H1)⟩
theorem isi_intI {i : Int} : RC (rIsi K) [.int i, .ty "int"] H (.bl true) := isi_int (.int i)
theorem isi_boolI {i : Int} : RC (rIsi K) [.int i, .ty "bool"] H (.bl false) := isi_bool (.int i)
end
theorem atI_lt {ns : List Int} {j : Int} (h0 : 0 ≤ j) (h : j < (ns.length : Int)) : atI (ns.map V.int) j = some (.int (ns.getD j.toNat 0)) := by
  have e : j = ((j.toNat : Nat) : Int) := by omega
  have z := atI_int (ns := ns) (j := j.toNat) (by omega)
  rw [← e] at z
  exact z
end TB
namespace TB
open PySem PySem.Spec PyProof.Rows L2 Evl
section
variable {K : PySem.W.Frag} {σ : L2.St} {H H' : Hp} {te tl : TE} {tz : TS} {D : Ends}
/-- [e for n in ns], whole numbers to whole numbers -/
theorem el_mapI {a : Addr} {ns : List Int} {j : Nat} {vs : List Nat} (f : Int → Int) (h : Ev tl σ H (.ref a)) (hx : SqL K H a (ns.map V.int)) (hz : ns.length ≤ 40000) (hw : ∀ x, wipe ((wipe σ vs).set j (some x)) vs = wipe σ vs)
    (he : ∀ (n : Int) H1, Ex H H1 → n ∈ ns → Ev te ((wipe σ vs).set j (some (.int n))) H1 (.int (f n))) : EvL (tLc (iList K tl) (gName j) tYes te vs) σ H ((ns.map f).map V.int) := by
  have z := el_map (K := K) (te := te) (tl := tl) (j := j) (vs := vs) (σ := σ) (H := H) (fun x => match x with | .int n => .int (f n) | _ => .non) h hx (by rw [List.length_map]; exact hz) hw (fun x H1 e hx => by
    obtain ⟨n, hn, rfl⟩ := List.mem_map.mp hx
    exact he n H1 e hn)
  rw [List.map_map] at z ⊢
  exact z
theorem el_rngI {ta : TA} {j : Nat} {vs : List Nat} {n : Nat} (f : Nat → Int) (h : EvA ta σ H [.int (n : Int)]) (hn : n ≤ 40000) (hw : ∀ x, wipe ((wipe σ vs).set j (some x)) vs = wipe σ vs)
    (he : ∀ (i : Nat) H1, Ex H H1 → i < n → Ev te ((wipe σ vs).set j (some (.int (i : Int)))) H1 (.int (f i))) : EvL (tLc (iRng1 ta) (gName j) tYes te vs) σ H (((List.range n).map f).map V.int) := by
  have z := el_rng (te := te) (j := j) (vs := vs) (σ := σ) (H := H) (fun i => .int (f i)) h (by omega) hw (fun i H1 e hi => he i H1 e (by omega))
  rw [List.map_map]
  exact z
end
end TB
namespace TB
open PySem PySem.Spec PyProof.Rows L2 Evl
section
variable {K : PySem.W.Frag} {σ : L2.St} {H H' : Hp} {t1 t2 : TE} {tz : TS} {D : Ends} {sp : Sp} {dvs xs ys : List V} {E : XK} {v z : V}
/-- calls of two arguments, new lists among them -/
theorem ev_cLL (h1 : EvL t1 σ H xs) (h2 : EvL t2 σ H ys) (hs : ∀ p r H1, H1 p = some (.lst xs) → H1 r = some (.lst ys) → Ex H H1 → SpV sp ([.ref p, .ref r] ++ dvs) H1 z) : Ev (tCall sp dvs E (tCons t1 (tCons t2 tNil))) σ H z := fun H1 e Q q =>
  h1 H1 e _ fun p H2 _ e2 g1 => h2 H2 (e.trans e2) _ fun r H3 _ e3 g2 => hs p r H3 (e3 _ _ g1) g2 ((e.trans e2).trans e3) H3 (Ex.refl H3) Q (fun H4 e4 => q H4 ((e2.trans e3).trans e4)) E
theorem ev_cLV (h1 : EvL t1 σ H xs) (h2 : Ev t2 σ H v) (hs : ∀ p H1, H1 p = some (.lst xs) → Ex H H1 → SpV sp ([.ref p, v] ++ dvs) H1 z) : Ev (tCall sp dvs E (tCons t1 (tCons t2 tNil))) σ H z := fun H1 e Q q =>
  h1 H1 e _ fun p H2 _ e2 g1 => h2 H2 (e.trans e2) _ fun H3 e3 => hs p H3 (e3 _ _ g1) ((e.trans e2).trans e3) H3 (Ex.refl H3) Q (fun H4 e4 => q H4 ((e2.trans e3).trans e4)) E
theorem ev_cVL (h1 : Ev t1 σ H v) (h2 : EvL t2 σ H ys) (hs : ∀ r H1, H1 r = some (.lst ys) → Ex H H1 → SpV sp ([v, .ref r] ++ dvs) H1 z) : Ev (tCall sp dvs E (tCons t1 (tCons t2 tNil))) σ H z := fun H1 e Q q =>
  h1 H1 e _ fun H2 e2 => h2 H2 (e.trans e2) _ fun r H3 _ e3 g2 => hs r H3 g2 ((e.trans e2).trans e3) H3 (Ex.refl H3) Q (fun H4 e4 => q H4 ((e2.trans e3).trans e4)) E
theorem ev_cL (h1 : EvL t1 σ H xs) (hs : ∀ p H1, H1 p = some (.lst xs) → Ex H H1 → SpV sp ([.ref p] ++ dvs) H1 z) : Ev (tCall sp dvs E (tCons t1 tNil)) σ H z := fun H1 e Q q =>
  h1 H1 e _ fun p H2 _ e2 g1 => hs p H2 g1 (e.trans e2) H2 (Ex.refl H2) Q (fun H4 e4 => q H4 (e2.trans e4)) E
/-- .. the second argument some number, of which P holds -/
theorem ev_cVR {sp2 : Sp} {dvs2 vs2 : List V} {E2 : XK} {ta : TA} {P : Int → Prop} (h1 : Ev t1 σ H v) (h2 : EvA ta σ H vs2) (hs2 : ∀ H1, Ex H H1 → ∀ (Q : VK) (E : XK), (∀ x, P x → RetV (.int x) H1 Q) → sp2 (vs2 ++ dvs2) H1 Q E)
    (hs : ∀ x H1, P x → Ex H H1 → SpV sp ([v, .int x] ++ dvs) H1 z) : Ev (tCall sp dvs E (tCons t1 (tCons (tCall sp2 dvs2 E2 ta) tNil))) σ H z := fun H1 e Q q =>
  h1 H1 e _ fun H2 e2 => h2 H2 (e.trans e2) _ fun H3 e3 => hs2 H3 ((e.trans e2).trans e3) _ E2 fun x hx H4 e4 => hs x H4 hx (((e.trans e2).trans e3).trans e4) H4 (Ex.refl H4) Q (fun H5 e5 => q H5 (((e2.trans e3).trans e4).trans e5)) E
end
end TB
/-! isinstance asked of the caught exception -/
namespace TB
open PySem PySem.Spec PyProof.Rows L2 Evl
def excB (K : PySem.W.Frag) (D : Addr) : Bool := decide (PySem.W.findIn K (.ref D) "__getattribute__" = some (some (.builtin "BaseException.__getattribute__"))) && (decide (PySem.W.findIn K (.ref D) "__getattr__" = some none) && (decide (PySem.W.subIn K (.ref D) (.type "BaseException") = some true) && (PySem.W.hasDictIn K D &&
  (decide (PySem.W.findIn K (.ref D) "__class__" = some (some (.builtin "object.__class__"))) && (decide (PySem.W.specialIn K (.builtin "object.__class__") "__get__" = some (some (.builtin "getset_descriptor.__get__"))) && (decide (PySem.W.takesIn K (.builtin "object.__class__") = some true) && decide (PySem.W.mroIn K D (.type "object") = some true)))))))
theorem excB_ok {K : PySem.W.Frag} {D : Addr} (h : excB K D = true) : ExcC K D := by
  obtain ⟨h1, h⟩ := Bool.and_eq_true_iff.mp h
  obtain ⟨h2, h⟩ := Bool.and_eq_true_iff.mp h
  obtain ⟨h3, h⟩ := Bool.and_eq_true_iff.mp h
  obtain ⟨h4, h⟩ := Bool.and_eq_true_iff.mp h
  obtain ⟨h5, h⟩ := Bool.and_eq_true_iff.mp h
  obtain ⟨h6, h⟩ := Bool.and_eq_true_iff.mp h
  obtain ⟨h7, h8⟩ := Bool.and_eq_true_iff.mp h
  exact ⟨of_decide_eq_true h1, of_decide_eq_true h2, of_decide_eq_true h3, h4, of_decide_eq_true h5, of_decide_eq_true h6, of_decide_eq_true h7, of_decide_eq_true h8⟩
/-- the classes of refusals, each with what it is an instance of -/
def exB (K : PySem.W.Frag) (cs : List (Str × List (Str × Bool))) : Bool := cs.all fun r => excB K (He.ga K r.1) && ((r.2.all fun c => decide (PySem.W.kitOne K (.ref (He.ga K r.1)) (.ref (He.ga K c.1)) = some c.2)) && decide (PySem.W.kitOne K (.ref (He.ga K r.1)) (.type "ValueError") = some true))
theorem exB_row {K : PySem.W.Frag} {cs : List (Str × List (Str × Bool))} (h : exB K cs = true) (i : Nat) {r : Str × List (Str × Bool)} (hr : cs[i]? = some r) : ExcC K (He.ga K r.1) ∧ PySem.W.kitOne K (.ref (He.ga K r.1)) (.type "ValueError") = some true ∧ ∀ (j : Nat) (c : Str × Bool), r.2[j]? = some c → PySem.W.kitOne K (.ref (He.ga K r.1)) (.ref (He.ga K c.1)) = some c.2 := by
  have z := List.all_eq_true.mp h r (List.mem_of_getElem? hr)
  obtain ⟨h1, h2⟩ := Bool.and_eq_true_iff.mp z
  obtain ⟨h3, h4⟩ := Bool.and_eq_true_iff.mp h2
  exact ⟨excB_ok h1, of_decide_eq_true h4, fun j c hc => of_decide_eq_true (List.all_eq_true.mp h3 c (List.mem_of_getElem? hc))⟩
def rIsX (K : PySem.W.Frag) (cls : Value) (d : Option Addr) (a : Addr) : List V → Hp → VK → Prop := fun xs H Q => ∃ (D : Addr) (c : V) (cv : Value) (b : Bool), cls = .ref D ∧ d = none ∧ ExcC K D ∧ xs = [.ref a, c] ∧ ClsV c cv ∧ PySem.W.kitOne K (.ref D) cv = some b ∧ Q (.bl b) H
def rIsXT (K : PySem.W.Frag) (cls : Value) (d : Option Addr) (a : Addr) : List V → Hp → VK → Prop := fun xs H Q => ∃ (D tp : Addr) (cs : List V) (us : List Value) (b : Bool), cls = .ref D ∧ d = none ∧ ExcC K D ∧ xs = [.ref a, .ref tp] ∧ H tp = some (.tup cs) ∧ Paired ClsV cs us ∧ PySem.W.kitAny K (.ref D) us = some b ∧ Q (.bl b) H
section
variable {X : Cx} {a : Addr} {oe : Obj} {cls : Value} {d : Option Addr} {pn : List (Addr × Obj)}
theorem isX (hz : Zc cls d oe) (hf : ∃ vs, oe.data = .fields vs) : CallR (X.suite a ((a, oe) :: pn)) (.builtin "isinstance") (rIsX X.K cls d a) := by
  intro pins s σ H xs us Q I r h
  obtain ⟨D, c, cv, b, rfl, rfl, C, rfl, hc, e, q⟩ := h
  exact call_isE C hz hf pins s σ H _ us Q I r ⟨c, cv, b, rfl, fun u k => hc.eq k, e, q⟩
theorem isXT (hz : Zc cls d oe) (hf : ∃ vs, oe.data = .fields vs) : CallR (X.suite a ((a, oe) :: pn)) (.builtin "isinstance") (rIsXT X.K cls d a) := by
  intro pins s σ H xs us Q I r h
  obtain ⟨D, tp, cs, ws, b, rfl, rfl, C, rfl, hT, k, e, q⟩ := h
  obtain ⟨u1, u2, rfl, r1, r2⟩ := vals2 r
  cases (show u2 = Value.ref tp from r2)
  cases (show u1 = Value.ref a from r1)
  obtain ⟨hget, _⟩ := I.pin (a, oe) (List.mem_append.mpr (.inl List.mem_cons_self))
  obtain ⟨vs, hv⟩ := hf
  have J : PySem.W.InstAt s.heap a oe D none := by
    obtain ⟨oc, od, oda, osl⟩ := oe
    obtain ⟨h1, h2⟩ := hz
    dsimp only at h1 h2 hv
    subst h1 h2 hv
    exact ⟨hget, rfl, rfl, trivial⟩
  obtain ⟨_, its, rv, o, h1, h2, n, h3⟩ := (show ObjOk X.prog X.w H s.heap tp (.tup cs) from I.hok tp _ hT)
  have e3 := ClsV.all k rv
  subst e3
  obtain ⟨oc, od, dt, sl⟩ := o
  simp only at h2 h3
  subst h2 h3
  exact PySem.W.kia_tup (PySem.W.handS_kitx_exc C.hg C.hk C.hs C.hd C.ha C.hn C.ht C.hm) I.kIn J h1 e (fun z => nomatch z) fun tk => ⟨.bl b, H, I.kept (t' := tk) fun _ _ z => z, rfl, q⟩
end
section
variable {K : PySem.W.Frag} {σ : L2.St} {H H' : Hp} {te tl : TE}
/-- isinstance(e, c) -/
theorem rc_isX {D a : Addr} {c : V} {cv : Value} {b : Bool} (C : ExcC K D) (hc : ClsV c cv) (e : PySem.W.kitOne K (.ref D) cv = some b) : RC (rIsX K (.ref D) none a) [.ref a, c] H (.bl b) := fun H1 _ Q q => ⟨D, c, cv, b, rfl, rfl, C, rfl, hc, e, q H1 (Ex.refl H1)⟩
theorem rc_isXT {D a tp : Addr} {cs : List V} {us : List Value} {b : Bool} (C : ExcC K D) (h : H tp = some (.tup cs)) (hc : Paired ClsV cs us) (e : PySem.W.kitAny K (.ref D) us = some b) : RC (rIsXT K (.ref D) none a) [.ref a, .ref tp] H (.bl b) := fun H1 e1 Q q => ⟨D, tp, cs, us, b, rfl, rfl, C, rfl, e1 _ _ h, hc, e, q H1 (Ex.refl H1)⟩
/-- a built-in call of two arguments, the second a new tuple -/
theorem ev_cbU {r : List V → Hp → VK → Prop} {t1 t2 : TE} {v z : V} {xs : List V} (h1 : Ev t1 σ H v) (h2 : EvU t2 σ H xs) (hs : ∀ p H1, H1 p = some (.tup xs) → Ex H H1 → RC r [v, .ref p] H1 z) : Ev (tCB r (tCons t1 (tCons t2 tNil))) σ H z := fun H1 e Q q =>
  h1 H1 e _ fun H2 e2 => h2 H2 (e.trans e2) _ fun p H3 _ e3 g2 => hs p H3 g2 ((e.trans e2).trans e3) H3 (Ex.refl H3) Q fun H4 e4 => q H4 ((e2.trans e3).trans e4)
/-- [e for x in xs if t], whole numbers -/
theorem el_filtL {a : Addr} {ns : List Int} {j : Nat} {vs : List Nat} {t : TT} (p : Int → Bool) (f : Int → Int) (h : Ev tl σ H (.ref a)) (hx : SqL K H a (ns.map V.int)) (hz : ns.length ≤ 40000) (hw : ∀ x, wipe ((wipe σ vs).set j (some x)) vs = wipe σ vs)
    (ht : ∀ (n : Int) H1, Ex H H1 → n ∈ ns → EvT t ((wipe σ vs).set j (some (.int n))) H1 (p n)) (he : ∀ (n : Int) H1, Ex H H1 → n ∈ ns → Ev te ((wipe σ vs).set j (some (.int n))) H1 (.int (f n))) : EvL (tLc (iList K tl) (gName j) t te vs) σ H (((ns.filter p).map f).map V.int) := by
  have at_ : ∀ (i : Nat) (x : V), (ns.map V.int)[i]? = some x → x = .int (ns.getD i 0) ∧ ns.getD i 0 ∈ ns := fun i x hi => by
    rw [List.getElem?_map] at hi
    cases hg : ns[i]? with
    | none => rw [hg] at hi; cases hi
    | some y =>
      rw [hg] at hi
      have e2 : ns.getD i 0 = y := by rw [List.getD_eq_getElem?_getD, hg]; rfl
      rw [e2]
      exact ⟨(Option.some.inj hi).symm, List.mem_of_getElem? hg⟩
  have z := el_lcL (K := K) (te := te) (t := t) (tl := tl) (j := j) (vs := vs) (σ := σ) (H := H) (fun i => p (ns.getD i 0)) (fun i => .int (f (ns.getD i 0))) h hx (by rw [List.length_map]; exact hz) hw (fun i x H1 e hi => by
    obtain ⟨rfl, hm⟩ := at_ i x hi
    exact ht _ H1 e hm) (fun i x H1 e hi _ => by
    obtain ⟨rfl, hm⟩ := at_ i x hi
    exact he _ H1 e hm)
  have e : given (ns.map V.int).length (fun i => p (ns.getD i 0)) (fun i => .int (f (ns.getD i 0))) = ((ns.filter p).map f).map V.int := by
    unfold given
    rw [List.length_map]
    have w : ns = (List.range ns.length).map fun i => ns.getD i 0 := by
      apply List.ext_getElem
      · simp
      · intro i h1 h2
        rw [List.getElem_map, List.getElem_range, List.getD_eq_getElem?_getD, List.getElem?_eq_getElem h1]
        rfl
    have w2 : ns.filter p = ((List.range ns.length).filter fun i => p (ns.getD i 0)).map fun i => ns.getD i 0 := by
      conv => lhs; rw [w]
      rw [List.filter_map]
      rfl
    rw [w2, List.map_map, List.map_map]
    rfl
  rw [e] at z
  exact z
end
end TB

namespace TB
open PySem PySem.Spec PyProof.Rows L2 Evl
def top (i : Nat) : Stmt := PySem.Challenge.pw_tossbook_k13_way.main.body.getD i (.Pass ⟨0, 0, 0, 0⟩)
abbrev s_is_whole : Stmt := (top 4)
abbrev s_within : Stmt := (top 5)
abbrev s_bits_of : Stmt := (top 7)
abbrev s_check_state : Stmt := (top 8)
abbrev s_states_ahead : Stmt := (top 9)
abbrev s_distances : Stmt := (top 10)
abbrev s_steps_from : Stmt := (top 11)
abbrev s_way : Stmt := (top 12)
abbrev s__law_cell_at : Stmt := (top 14)
abbrev s__law_mixed : Stmt := (top 15)
abbrev s__law_size_by : Stmt := (top 16)
abbrev s__law_spots_by : Stmt := (top 17)
abbrev s__law_led : Stmt := (top 18)
abbrev s__law_bits : Stmt := (top 19)
abbrev s__law_moved : Stmt := (top 20)
abbrev s__law_refused : Stmt := (top 21)
abbrev s_law : Stmt := (top 22)
def fn : List He.DefD := [
  ⟨("is_whole", none), "is_whole", "is_whole", defArgs s_is_whole, defBody s_is_whole, defScope s_is_whole, [], []⟩,
  ⟨("within", none), "within", "within", defArgs s_within, defBody s_within, defScope s_within, [], []⟩,
  ⟨("bits_of", none), "bits_of", "bits_of", defArgs s_bits_of, defBody s_bits_of, defScope s_bits_of, [], []⟩,
  ⟨("check_state", none), "check_state", "check_state", defArgs s_check_state, defBody s_check_state, defScope s_check_state, [], []⟩,
  ⟨("states_ahead", none), "states_ahead", "states_ahead", defArgs s_states_ahead, defBody s_states_ahead, defScope s_states_ahead, [], []⟩,
  ⟨("distances", none), "distances", "distances", defArgs s_distances, defBody s_distances, defScope s_distances, [], []⟩,
  ⟨("steps_from", none), "steps_from", "steps_from", defArgs s_steps_from, defBody s_steps_from, defScope s_steps_from, [], []⟩,
  ⟨("way", none), "way", "way", defArgs s_way, defBody s_way, defScope s_way, [], []⟩,
  ⟨("_law_cell_at", none), "_law_cell_at", "_law_cell_at", defArgs s__law_cell_at, defBody s__law_cell_at, defScope s__law_cell_at, [], []⟩,
  ⟨("_law_mixed", none), "_law_mixed", "_law_mixed", defArgs s__law_mixed, defBody s__law_mixed, defScope s__law_mixed, [], []⟩,
  ⟨("_law_size_by", none), "_law_size_by", "_law_size_by", defArgs s__law_size_by, defBody s__law_size_by, defScope s__law_size_by, [], []⟩,
  ⟨("_law_spots_by", none), "_law_spots_by", "_law_spots_by", defArgs s__law_spots_by, defBody s__law_spots_by, defScope s__law_spots_by, [], []⟩,
  ⟨("_law_led", none), "_law_led", "_law_led", defArgs s__law_led, defBody s__law_led, defScope s__law_led, [], []⟩,
  ⟨("_law_bits", none), "_law_bits", "_law_bits", defArgs s__law_bits, defBody s__law_bits, defScope s__law_bits, [], []⟩,
  ⟨("_law_moved", none), "_law_moved", "_law_moved", defArgs s__law_moved, defBody s__law_moved, defScope s__law_moved, [], []⟩,
  ⟨("_law_refused", none), "_law_refused", "_law_refused", defArgs s__law_refused, defBody s__law_refused, defScope s__law_refused, [], []⟩,
  ⟨("law", none), "law", "law", defArgs s_law, defBody s_law, defScope s_law, [], []⟩]
def fa : List He.Fa := [.glo "is_whole", .glo "within", .glo "bits_of", .glo "check_state", .glo "states_ahead", .glo "distances", .glo "steps_from", .glo "way", .glo "_law_cell_at", .glo "_law_mixed", .glo "_law_size_by", .glo "_law_spots_by", .glo "_law_led", .glo "_law_bits", .glo "_law_moved", .glo "_law_refused", .glo "law", .glo "TossError", .glo "OutOfBounds", .free "bool", .free "int", .free "isinstance", .free "len", .free "list", .free "range", .free "sorted", .exc "TossError", .exc "OutOfBounds", .exm "TossError" "OutOfBounds" false, .exm "OutOfBounds" "OutOfBounds" true]
def exs : List (Str × List (Str × Bool)) := []
def ex (K : PySem.W.Frag) : Bool := true && exB K exs
abbrev TXT (K : PySem.W.Frag) (mg : Str → Option Value) : Prop := TX fa fn ex K mg
theorem tx_exs {K : PySem.W.Frag} {mg : Str → Option Value} (T : TXT K mg) : exB K exs = true := (Bool.and_eq_true_iff.mp T.c.2).2
end TB


/-! ### rows: is_whole, within, check_row, Clash -/
namespace TB
open PySem PySem.Spec PyProof.Rows L2 Evl
def inB (v : V) (lo hi : Int) : Bool := match v with
  | .int i => decide (lo ≤ i) && decide (i ≤ hi)
  | _ => false
def sp_is_whole : Sp := fun vs H Q E => ∃ v, vs = [v] ∧ Kd H v ∧ RetV (.bl (isI v)) H Q
def sp_within : Sp := fun vs H Q E => ∃ v lo hi, vs = [v, .int lo, .int hi] ∧ Kd H v ∧ RetV (.bl (inB v lo hi)) H Q
theorem sv_is_whole {H : Hp} {v : V} (hk : Kd H v) : SpV sp_is_whole [v] H (.bl (isI v)) := spv_of fun H1 e Q E k => ⟨v, rfl, hk.mono e, k⟩
theorem sv_within {H : Hp} {v : V} {lo hi : Int} (hk : Kd H v) : SpV sp_within [v, .int lo, .int hi] H (.bl (inB v lo hi)) := spv_of fun H1 e Q E k => ⟨v, lo, hi, rfl, hk.mono e, k⟩
theorem sc_is_whole : FnScope ["number"] ["number"] (defScope s_is_whole) := ⟨rfl, rfl, rfl, by decide +kernel, rfl, by decide +kernel, by decide +kernel⟩
theorem ok_is_whole {P : Program} {w : World} {K : PySem.W.Frag} {mg : Str → Option Value} {base : Heap} (T : TXT K mg) : OK P w K mg base "is_whole" ["number"] 1 (sp_is_whole) := by
  obtain ⟨fd, F⟩ := T.def_ 0
  refine ⟨_, fd, T.glo 0, F.kp, F.bindsN (fun _ _ _ _ _ _ us hl => match us, hl with | [_], _ => rfl), F.ok sc_is_whole (fun vs H Q E h => ?_) (fun cdv A outer s H vs Q E hr h => ?_), F.bindsA (fun _ _ _ _ _ _ us hl => match us, hl with | [_], _ => rfl)⟩
  · first | (obtain ⟨rfl, _⟩ := h; rfl) | (obtain ⟨_, rfl, _⟩ := h; rfl) | (obtain ⟨_, _, rfl, _⟩ := h; rfl) | (obtain ⟨_, _, _, rfl, _⟩ := h; rfl) | (obtain ⟨_, _, _, _, rfl, _⟩ := h; rfl) | (obtain ⟨_, _, _, _, _, rfl, _⟩ := h; rfl) | (obtain ⟨_, _, _, _, _, _, rfl, _⟩ := h; rfl) | (obtain ⟨_, _, _, _, _, _, _, rfl, _⟩ := h; rfl) | (obtain ⟨_, _, _, _, _, _, _, _, rfl, _⟩ := h; rfl)
  · replace F : FunD K "is_whole" "is_whole" (defArgs s_is_whole) (defBody s_is_whole) (defScope s_is_whole) [] [] (He.ga K "is_whole") fd := F
    refine ⟨_, (pss_one (ps_ret (pe_and (pe_callB (id := "isinstance") (k_isi K) (by rfl) (T.free 21) (by decide +kernel) (pa_cons (pv 0) (pa_cons (pe_ty (T := "int") (T.free 20) (by decide +kernel)) pa_nil))) (pe_one (pe_not (pe_callB (id := "isinstance") (k_isi K) (by rfl) (T.free 21) (by decide +kernel) (pa_cons (pv 0) (pa_cons (pe_ty (T := "bool") (T.free 19) (by decide +kernel)) pa_nil)))))))), ?_⟩
    obtain ⟨v, rfl, hk, q⟩ := h
    dsimp only [cxOf, L2.start, List.map_cons, List.map_nil, List.length_cons, List.length_nil, Nat.reduceAdd, Nat.reduceSub, List.replicate_succ, List.replicate_zero, List.cons_append, List.nil_append, Nat.zero_add, List.reduceReplicate, List.map]
    refine s_ret ?_ q
    apply ev_is
    · (repeat' (first | with_reducible exact ev_c | ((with_reducible show Ev (tVar _) _ _ _); exact ev_var rfl) | with_reducible exact ea_nil | with_reducible exact eo_none | with_reducible refine' ea_cons ?_ ?_ | with_reducible refine' eo_some ?_ | with_reducible refine' ev_and2 ?_ ?_ | with_reducible refine' ev_or2 ?_ ?_ | with_reducible refine' ev_notV ?_ | with_reducible exact ru_I | with_reducible refine' ev_un ?_ ?_ | with_reducible exact rv_I0 | with_reducible exact rv_isN | with_reducible exact rv_notN | with_reducible refine' rv_I ?_ | with_reducible refine' rv_eq ?_ | with_reducible refine' rv_ne ?_ | with_reducible refine' ev_op ?_ ?_ ?_ | with_reducible refine' ev_chain2 ?_ ?_ ?_ ?_ ?_ | with_reducible refine' et_B ?_ | with_reducible refine' et_test ?_ | with_reducible refine' et_and2 ?_ ?_ | with_reducible refine' et_or2 ?_ ?_ | with_reducible refine' et_not ?_ | with_reducible refine' ev_call ?_ ?_ | with_reducible refine' ev_callS ?_ ?_ | with_reducible refine' ev_cb ?_ ?_ | with_reducible exact isi_bool (by assumption) | with_reducible exact isi_int (by assumption) | with_reducible exact isi_list (by assumption) | with_reducible exact rc_len (by assumption) | with_reducible exact rc_sum (by assumption) | with_reducible exact rc_abs | with_reducible exact isi_listL (by assumption) | with_reducible exact isi_intI | with_reducible exact isi_boolI | with_reducible exact rc_lenT (by assumption) | with_reducible exact isi_tup (by assumption) | with_reducible exact rv_eqL (by assumption) (by assumption) | with_reducible exact rv_neL (by assumption) (by assumption) | with_reducible exact rv_neT (by assumption) (by assumption) | with_reducible exact rv_ixL (by assumption) (by assumption) | with_reducible exact rv_ixT (by assumption) (by assumption) | with_reducible refine' ev_din ?_ ?_ (by assumption) | with_reducible refine' ev_dnotin ?_ ?_ (by assumption) | with_reducible refine' ev_dget ?_ ?_ (by assumption) (by assumption) | ((with_reducible show SpV _ _ _ _); assumption) | ((with_reducible show RV _ _ _ _ _); assumption) | ((with_reducible show RC _ _ _ _); assumption) | ((with_reducible show CDiv _ _); exact ⟨by omega, by omega⟩) | ((with_reducible show CMul _ _); first | exact .inl ⟨by omega, by omega⟩ | exact .inr ⟨by omega, by omega⟩) | ((with_reducible show CPow _ _); exact ⟨by omega, by omega, by first | decide | assumption | omega⟩) | ((with_reducible show (0 : Int) < _); omega) | ((with_reducible show (0 : Int) ≤ _); omega) | ((with_reducible show scal _ _ = true); rfl)))
    · cases v <;> rfl

theorem sc_within : FnScope ["number", "low", "high"] ["number", "low", "high"] (defScope s_within) := ⟨rfl, rfl, rfl, by decide +kernel, rfl, by decide +kernel, by decide +kernel⟩
theorem ok_within {P : Program} {w : World} {K : PySem.W.Frag} {mg : Str → Option Value} {base : Heap} (T : TXT K mg) : OK P w K mg base "within" ["number", "low", "high"] 2 (sp_within) := by
  have O_is_whole := ok_is_whole (P := P) (w := w) (base := base) T
  obtain ⟨fd, F⟩ := T.def_ 1
  refine ⟨_, fd, T.glo 1, F.kp, F.bindsN (fun _ _ _ _ _ _ us hl => match us, hl with | [_, _, _], _ => rfl), F.ok sc_within (fun vs H Q E h => ?_) (fun cdv A outer s H vs Q E hr h => ?_), F.bindsA (fun _ _ _ _ _ _ us hl => match us, hl with | [_, _, _], _ => rfl)⟩
  · first | (obtain ⟨rfl, _⟩ := h; rfl) | (obtain ⟨_, rfl, _⟩ := h; rfl) | (obtain ⟨_, _, rfl, _⟩ := h; rfl) | (obtain ⟨_, _, _, rfl, _⟩ := h; rfl) | (obtain ⟨_, _, _, _, rfl, _⟩ := h; rfl) | (obtain ⟨_, _, _, _, _, rfl, _⟩ := h; rfl) | (obtain ⟨_, _, _, _, _, _, rfl, _⟩ := h; rfl) | (obtain ⟨_, _, _, _, _, _, _, rfl, _⟩ := h; rfl) | (obtain ⟨_, _, _, _, _, _, _, _, rfl, _⟩ := h; rfl)
  · replace F : FunD K "within" "within" (defArgs s_within) (defBody s_within) (defScope s_within) [] [] (He.ga K "within") fd := F
    refine ⟨_, (pss_one (ps_ret (pe_and (pe_own O_is_whole (hr.mono (by decide)) (by rfl) (passes_call (takes_of rfl rfl rfl rfl) (fun _ _ _ _ h => h)) (pa_cons (pv 0) pa_nil)) (pe_one (pe_chain op_le op_le (pv 1) (pv 0) (pv 2)))))), ?_⟩
    obtain ⟨v, lo, hi, rfl, hk, q⟩ := h
    dsimp only [cxOf, L2.start, List.map_cons, List.map_nil, List.length_cons, List.length_nil, Nat.reduceAdd, Nat.reduceSub, List.replicate_succ, List.replicate_zero, List.cons_append, List.nil_append, Nat.zero_add, List.reduceReplicate, List.map]
    have hw := sv_is_whole hk
    refine s_ret ?_ q
    cases v with
    | int i =>
      refine ev_andV (a := true) (b := decide (lo ≤ i) && decide (i ≤ hi)) ?_ (fun _ => ?_)
      · (repeat' (first | with_reducible exact ev_c | ((with_reducible show Ev (tVar _) _ _ _); exact ev_var rfl) | with_reducible exact ea_nil | with_reducible exact eo_none | with_reducible refine' ea_cons ?_ ?_ | with_reducible refine' eo_some ?_ | with_reducible refine' ev_and2 ?_ ?_ | with_reducible refine' ev_or2 ?_ ?_ | with_reducible refine' ev_notV ?_ | with_reducible exact ru_I | with_reducible refine' ev_un ?_ ?_ | with_reducible exact rv_I0 | with_reducible exact rv_isN | with_reducible exact rv_notN | with_reducible refine' rv_I ?_ | with_reducible refine' rv_eq ?_ | with_reducible refine' rv_ne ?_ | with_reducible refine' ev_op ?_ ?_ ?_ | with_reducible refine' ev_chain2 ?_ ?_ ?_ ?_ ?_ | with_reducible refine' et_B ?_ | with_reducible refine' et_test ?_ | with_reducible refine' et_and2 ?_ ?_ | with_reducible refine' et_or2 ?_ ?_ | with_reducible refine' et_not ?_ | with_reducible refine' ev_call ?_ ?_ | with_reducible refine' ev_callS ?_ ?_ | with_reducible refine' ev_cb ?_ ?_ | with_reducible exact isi_bool (by assumption) | with_reducible exact isi_int (by assumption) | with_reducible exact isi_list (by assumption) | with_reducible exact rc_len (by assumption) | with_reducible exact rc_sum (by assumption) | with_reducible exact rc_abs | with_reducible exact isi_listL (by assumption) | with_reducible exact isi_intI | with_reducible exact isi_boolI | with_reducible exact rc_lenT (by assumption) | with_reducible exact isi_tup (by assumption) | with_reducible exact rv_eqL (by assumption) (by assumption) | with_reducible exact rv_neL (by assumption) (by assumption) | with_reducible exact rv_neT (by assumption) (by assumption) | with_reducible exact rv_ixL (by assumption) (by assumption) | with_reducible exact rv_ixT (by assumption) (by assumption) | with_reducible refine' ev_din ?_ ?_ (by assumption) | with_reducible refine' ev_dnotin ?_ ?_ (by assumption) | with_reducible refine' ev_dget ?_ ?_ (by assumption) (by assumption) | ((with_reducible show SpV _ _ _ _); assumption) | ((with_reducible show RV _ _ _ _ _); assumption) | ((with_reducible show RC _ _ _ _); assumption) | ((with_reducible show CDiv _ _); exact ⟨by omega, by omega⟩) | ((with_reducible show CMul _ _); first | exact .inl ⟨by omega, by omega⟩ | exact .inr ⟨by omega, by omega⟩) | ((with_reducible show CPow _ _); exact ⟨by omega, by omega, by first | decide | assumption | omega⟩) | ((with_reducible show (0 : Int) < _); omega) | ((with_reducible show (0 : Int) ≤ _); omega) | ((with_reducible show scal _ _ = true); rfl)))
      · (repeat' (first | with_reducible exact ev_c | ((with_reducible show Ev (tVar _) _ _ _); exact ev_var rfl) | with_reducible exact ea_nil | with_reducible exact eo_none | with_reducible refine' ea_cons ?_ ?_ | with_reducible refine' eo_some ?_ | with_reducible refine' ev_and2 ?_ ?_ | with_reducible refine' ev_or2 ?_ ?_ | with_reducible refine' ev_notV ?_ | with_reducible exact ru_I | with_reducible refine' ev_un ?_ ?_ | with_reducible exact rv_I0 | with_reducible exact rv_isN | with_reducible exact rv_notN | with_reducible refine' rv_I ?_ | with_reducible refine' rv_eq ?_ | with_reducible refine' rv_ne ?_ | with_reducible refine' ev_op ?_ ?_ ?_ | with_reducible refine' ev_chain2 ?_ ?_ ?_ ?_ ?_ | with_reducible refine' et_B ?_ | with_reducible refine' et_test ?_ | with_reducible refine' et_and2 ?_ ?_ | with_reducible refine' et_or2 ?_ ?_ | with_reducible refine' et_not ?_ | with_reducible refine' ev_call ?_ ?_ | with_reducible refine' ev_callS ?_ ?_ | with_reducible refine' ev_cb ?_ ?_ | with_reducible exact isi_bool (by assumption) | with_reducible exact isi_int (by assumption) | with_reducible exact isi_list (by assumption) | with_reducible exact rc_len (by assumption) | with_reducible exact rc_sum (by assumption) | with_reducible exact rc_abs | with_reducible exact isi_listL (by assumption) | with_reducible exact isi_intI | with_reducible exact isi_boolI | with_reducible exact rc_lenT (by assumption) | with_reducible exact isi_tup (by assumption) | with_reducible exact rv_eqL (by assumption) (by assumption) | with_reducible exact rv_neL (by assumption) (by assumption) | with_reducible exact rv_neT (by assumption) (by assumption) | with_reducible exact rv_ixL (by assumption) (by assumption) | with_reducible exact rv_ixT (by assumption) (by assumption) | with_reducible refine' ev_din ?_ ?_ (by assumption) | with_reducible refine' ev_dnotin ?_ ?_ (by assumption) | with_reducible refine' ev_dget ?_ ?_ (by assumption) (by assumption) | ((with_reducible show SpV _ _ _ _); assumption) | ((with_reducible show RV _ _ _ _ _); assumption) | ((with_reducible show RC _ _ _ _); assumption) | ((with_reducible show CDiv _ _); exact ⟨by omega, by omega⟩) | ((with_reducible show CMul _ _); first | exact .inl ⟨by omega, by omega⟩ | exact .inr ⟨by omega, by omega⟩) | ((with_reducible show CPow _ _); exact ⟨by omega, by omega, by first | decide | assumption | omega⟩) | ((with_reducible show (0 : Int) < _); omega) | ((with_reducible show (0 : Int) ≤ _); omega) | ((with_reducible show scal _ _ = true); rfl)))
    | _ =>
      refine ev_andV (a := false) (b := false) ?_ (fun h => nomatch h)
      (repeat' (first | with_reducible exact ev_c | ((with_reducible show Ev (tVar _) _ _ _); exact ev_var rfl) | with_reducible exact ea_nil | with_reducible exact eo_none | with_reducible refine' ea_cons ?_ ?_ | with_reducible refine' eo_some ?_ | with_reducible refine' ev_and2 ?_ ?_ | with_reducible refine' ev_or2 ?_ ?_ | with_reducible refine' ev_notV ?_ | with_reducible exact ru_I | with_reducible refine' ev_un ?_ ?_ | with_reducible exact rv_I0 | with_reducible exact rv_isN | with_reducible exact rv_notN | with_reducible refine' rv_I ?_ | with_reducible refine' rv_eq ?_ | with_reducible refine' rv_ne ?_ | with_reducible refine' ev_op ?_ ?_ ?_ | with_reducible refine' ev_chain2 ?_ ?_ ?_ ?_ ?_ | with_reducible refine' et_B ?_ | with_reducible refine' et_test ?_ | with_reducible refine' et_and2 ?_ ?_ | with_reducible refine' et_or2 ?_ ?_ | with_reducible refine' et_not ?_ | with_reducible refine' ev_call ?_ ?_ | with_reducible refine' ev_callS ?_ ?_ | with_reducible refine' ev_cb ?_ ?_ | with_reducible exact isi_bool (by assumption) | with_reducible exact isi_int (by assumption) | with_reducible exact isi_list (by assumption) | with_reducible exact rc_len (by assumption) | with_reducible exact rc_sum (by assumption) | with_reducible exact rc_abs | with_reducible exact isi_listL (by assumption) | with_reducible exact isi_intI | with_reducible exact isi_boolI | with_reducible exact rc_lenT (by assumption) | with_reducible exact isi_tup (by assumption) | with_reducible exact rv_eqL (by assumption) (by assumption) | with_reducible exact rv_neL (by assumption) (by assumption) | with_reducible exact rv_neT (by assumption) (by assumption) | with_reducible exact rv_ixL (by assumption) (by assumption) | with_reducible exact rv_ixT (by assumption) (by assumption) | with_reducible refine' ev_din ?_ ?_ (by assumption) | with_reducible refine' ev_dnotin ?_ ?_ (by assumption) | with_reducible refine' ev_dget ?_ ?_ (by assumption) (by assumption) | ((with_reducible show SpV _ _ _ _); assumption) | ((with_reducible show RV _ _ _ _ _); assumption) | ((with_reducible show RC _ _ _ _); assumption) | ((with_reducible show CDiv _ _); exact ⟨by omega, by omega⟩) | ((with_reducible show CMul _ _); first | exact .inl ⟨by omega, by omega⟩ | exact .inr ⟨by omega, by omega⟩) | ((with_reducible show CPow _ _); exact ⟨by omega, by omega, by first | decide | assumption | omega⟩) | ((with_reducible show (0 : Int) < _); omega) | ((with_reducible show (0 : Int) ≤ _); omega) | ((with_reducible show scal _ _ = true); rfl)))

/-- a row as it is handed in: what kind of thing, what it holds -/
structure Row (H : Hp) (v : V) (o : Option (List V)) : Prop where
  ls : Ls H v o
  kd : ∀ xs, o = some xs → ∀ x ∈ xs, Kd H x
theorem Row.mono {H H' : Hp} {v : V} {o : Option (List V)} (e : Ex H H') (h : Row H v o) : Row H' v o := ⟨h.ls.mono e, fun xs q x hx => (h.kd xs q x hx).mono e⟩
def rowOk (o : Option (List V)) : Bool := match o with
  | some xs => decide (1 ≤ xs.length) && decide (xs.length ≤ 60) && xs.all fun x => inB x (-1000000) 1000000
  | none => false
def RowI (ns : List Int) : Prop := 1 ≤ ns.length ∧ ns.length ≤ 60 ∧ ∀ n ∈ ns, -1000000 ≤ n ∧ n ≤ 1000000
theorem ints_of : ∀ {xs : List V} {lo hi : Int}, (xs.all fun x => inB x lo hi) = true → ∃ ns : List Int, xs = ns.map V.int ∧ ∀ n ∈ ns, lo ≤ n ∧ n ≤ hi
  | [], _, _, _ => ⟨[], rfl, fun _ h => nomatch h⟩
  | x :: r, lo, hi, h => by
    simp only [List.all_cons, Bool.and_eq_true] at h
    obtain ⟨h1, h2⟩ := h
    obtain ⟨ns, rfl, hn⟩ := ints_of h2
    cases x with
    | int i =>
      simp only [inB, Bool.and_eq_true, decide_eq_true_eq] at h1
      refine ⟨i :: ns, rfl, fun n hm => ?_⟩
      rcases List.mem_cons.mp hm with rfl | hm
      · exact h1
      · exact hn n hm
    | _ => cases h1
theorem row_ints {o : Option (List V)} (h : rowOk o = true) : ∃ ns : List Int, o = some (ns.map V.int) ∧ RowI ns := by
  cases o with
  | none => cases h
  | some xs =>
    simp only [rowOk, Bool.and_eq_true, decide_eq_true_eq] at h
    obtain ⟨⟨h1, h2⟩, h3⟩ := h
    obtain ⟨ns, rfl, hn⟩ := ints_of h3
    rw [List.length_map] at h1 h2
    exact ⟨ns, rfl, h1, h2, hn⟩
theorem rowOk_of {ns : List Int} (h : RowI ns) : rowOk (some (ns.map V.int)) = true := by
  obtain ⟨h1, h2, h3⟩ := h
  simp only [rowOk, Bool.and_eq_true, decide_eq_true_eq, List.length_map]
  refine ⟨⟨h1, h2⟩, ?_⟩
  rw [List.all_eq_true]
  intro x hx
  obtain ⟨n, hn, rfl⟩ := List.mem_map.mp hx
  simp only [inB, Bool.and_eq_true, decide_eq_true_eq]
  exact h3 n hn
theorem Row.of {H : Hp} {a : Addr} {ns : List Int} (h : H a = some (.lst (ns.map V.int))) : Row H (.ref a) (some (ns.map V.int)) := ⟨.lst h, fun xs q x hx => by
  cases q
  obtain ⟨n, _, rfl⟩ := List.mem_map.mp hx
  exact .int n⟩
def sp_check_number (K : PySem.W.Frag) : Sp := fun vs H Q E => ∃ v, vs = [v] ∧ Kd H v ∧ Give K (if inB v (-1000000) 1000000 then .val .non else .err "OutOfBounds") H Q E
def sp_check_row (K : PySem.W.Frag) : Sp := fun vs H Q E => ∃ v o, vs = [v] ∧ Row H v o ∧ Give K (if rowOk o then .val .non else .err "NotARow") H Q E

/-! the first two beats that land together -/
def land (ns : List Int) (j : Nat) : Int := ((j : Int) + ns.getD j 0) % (ns.length : Int)
def seenAt (ns : List Int) (j : Nat) : Option Nat := (List.range j).find? fun i => decide (land ns i = land ns j)
def clashOf (ns : List Int) : Option (Nat × Nat) := (List.range ns.length).findSome? fun j => (seenAt ns j).map fun i => (i, j)
def kvAt (ns : List Int) (j : Nat) : List (Key × V) := (List.range j).map fun i => (Sum.inl (land ns i), V.int (i : Int))
theorem kvAt_val (ns : List Int) (j k : Nat) : valV (kvAt ns j) (Sum.inl (land ns k) : Key) = ((List.range j).find? fun i => decide (land ns i = land ns k)).map fun i => V.int (i : Int) := by
  unfold valV kvAt
  rw [List.find?_map]
  have e : ((fun kv : Key × V => decide (kv.1 = Sum.inl (land ns k))) ∘ fun i => ((Sum.inl (land ns i) : Key), V.int (i : Int))) = fun i => decide (land ns i = land ns k) := by
    funext i
    show decide ((Sum.inl (land ns i) : Key) = Sum.inl (land ns k)) = _
    rw [decide_eq_decide]
    exact ⟨fun z => Sum.inl.inj z, fun z => by rw [z]⟩
  rw [e]
  cases (List.range j).find? fun i => decide (land ns i = land ns k) <;> rfl
theorem kvAt_len (ns : List Int) (j : Nat) : (kvAt ns j).length = j := by simp [kvAt]
theorem kvAt_put {ns : List Int} {j : Nat} (h : seenAt ns j = none) : putK (kvAt ns j) (Sum.inl (land ns j) : Key) (V.int (j : Int)) = kvAt ns (j + 1) := by
  rw [putK_new]
  · unfold kvAt
    rw [List.range_succ, List.map_append]
    rfl
  · rw [kvAt_val]
    unfold seenAt at h
    rw [h]
    rfl
theorem findSome_at {α : Type} {f : Nat → Option α} {n j : Nat} {x : α} (hj : j < n) (h : ∀ i, i < j → f i = none) (hx : f j = some x) : (List.range n).findSome? f = some x := by
  induction n with
  | zero => omega
  | succ n ih =>
    rw [List.range_succ, List.findSome?_append]
    by_cases e : j < n
    · rw [ih e]
      rfl
    · have e2 : j = n := by omega
      subst e2
      have h0 : (List.range j).findSome? f = none := by
        rw [List.findSome?_eq_none_iff]
        intro i hi
        exact h i (List.mem_range.mp hi)
      rw [h0]
      simp [hx]
theorem findSome_none {α : Type} {f : Nat → Option α} {n : Nat} (h : ∀ i, i < n → f i = none) : (List.range n).findSome? f = none := by
  rw [List.findSome?_eq_none_iff]
  intro i hi
  exact h i (List.mem_range.mp hi)
def clashRe (ns : List Int) : Re := match clashOf ns with
  | some (i, j) => .tup [.int (i : Int), .int (j : Int)]
  | none => .val .non
def rowsOf (o : Option (List V)) : List Int := (o.getD []).map fun v => match v with
  | .int i => i
  | _ => 0
theorem rowsOf_some (ns : List Int) : rowsOf (some (ns.map V.int)) = ns := by
  simp only [rowsOf, Option.getD, List.map_map]
  have e : ((fun v : V => match v with | .int i => i | _ => 0) ∘ V.int) = id := by
    funext i
    rfl
  rw [e, List.map_id]
def sp_clash_of (K : PySem.W.Frag) : Sp := fun vs H Q E => ∃ v o, vs = [v] ∧ Row H v o ∧ Give K (if rowOk o then clashRe (rowsOf o) else .err "NotARow") H Q E
theorem sv_check_row {K : PySem.W.Frag} {H : Hp} {v : V} {o : Option (List V)} (hk : Row H v o) (h : rowOk o = true) : SpV (sp_check_row K) [v] H .non := spv_of fun H1 e Q E k => ⟨v, o, rfl, hk.mono e, by
  rw [h]
  exact k⟩
theorem sx_check_row {K : PySem.W.Frag} {H : Hp} {v : V} {o : Option (List V)} {E : XK} (hk : Row H v o) (h : rowOk o = false) (he : ∀ H2, Ex H H2 → E (.ref (He.ga K "NotARow")) none H2) : ∀ H1, Ex H H1 → ∀ Q : VK, sp_check_row K [v] H1 Q E := fun H1 e Q => ⟨v, o, rfl, hk.mono e, by
  rw [h]
  exact fun H2 e2 => he H2 (e.trans e2)⟩
end TB

/-! ### the laws' own makers: cells, sizes, spots, throws -/
namespace TB
open PySem PySem.Spec PyProof.Rows L2 Evl
def sp_cell (K : PySem.W.Frag) : Sp := fun vs H Q E => ∃ (a : Addr) (ns : List Int) (k : Nat), vs = [.ref a, .int (k : Int)] ∧ SqL K H a (ns.map V.int) ∧ RetV (.int (ns.getD k 0)) H Q
theorem sv_cell {K : PySem.W.Frag} {H : Hp} {a : Addr} {ns : List Int} {k : Nat} (h : SqL K H a (ns.map V.int)) : SpV (sp_cell K) [.ref a, .int (k : Int)] H (.int (ns.getD k 0)) := spv_of fun H1 e Q E q => ⟨a, ns, k, rfl, ex_l e h, q⟩
theorem sc__law_cell_at : FnScope ["_law_script", "_law_k"] ["_law_script", "_law_k"] (defScope s__law_cell_at) := ⟨rfl, rfl, rfl, by decide +kernel, rfl, by decide +kernel, by decide +kernel⟩
theorem ok__law_cell_at {P : Program} {w : World} {K : PySem.W.Frag} {mg : Str → Option Value} {base : Heap} (T : TXT K mg) : OK P w K mg base "_law_cell_at" ["_law_script", "_law_k"] 1 (sp_cell K) := by
  obtain ⟨fd, F⟩ := T.def_ 8
  refine ⟨_, fd, T.glo 8, F.kp, F.bindsN (fun _ _ _ _ _ _ us hl => match us, hl with | [_, _], _ => rfl), F.ok sc__law_cell_at (fun vs H Q E h => ?_) (fun cdv A outer s H vs Q E hr h => ?_), F.bindsA (fun _ _ _ _ _ _ us hl => match us, hl with | [_, _], _ => rfl)⟩
  · first | (obtain ⟨rfl, _⟩ := h; rfl) | (obtain ⟨_, rfl, _⟩ := h; rfl) | (obtain ⟨_, _, rfl, _⟩ := h; rfl) | (obtain ⟨_, _, _, rfl, _⟩ := h; rfl) | (obtain ⟨_, _, _, _, rfl, _⟩ := h; rfl) | (obtain ⟨_, _, _, _, _, rfl, _⟩ := h; rfl) | (obtain ⟨_, _, _, _, _, _, rfl, _⟩ := h; rfl) | (obtain ⟨_, _, _, _, _, _, _, rfl, _⟩ := h; rfl) | (obtain ⟨_, _, _, _, _, _, _, _, rfl, _⟩ := h; rfl)
  · replace F : FunD K "_law_cell_at" "_law_cell_at" (defArgs s__law_cell_at) (defBody s__law_cell_at) (defScope s__law_cell_at) [] [] (He.ga K "_law_cell_at") fd := F
    refine ⟨_, (pss_cons (ps_if (pt_cmpR op_lt (pv 1) (pe_callB (id := "len") (k_len K) (by rfl) (T.free 22) (by decide +kernel) (pa_cons (pv 0) pa_nil)) (nomark _))
        (pss_one (ps_ret (pe_ix (k_ixL K) (pv 0) (pv 1) (fun _ _ => rfl))))
        pss_nil)
      (pss_one (ps_ret pe_int))), ?_⟩
    obtain ⟨a, ns, k, rfl, hs, q⟩ := h
    dsimp only [cxOf, L2.start, List.map_cons, List.map_nil, List.length_cons, List.length_nil, Nat.reduceAdd, Nat.reduceSub, List.replicate_succ, List.replicate_zero, List.cons_append, List.nil_append, Nat.zero_add, List.reduceReplicate, List.map]
    refine q_when (b := decide ((k : Int) < (ns.length : Int))) ?_ (fun hb H1 e1 => ?_) (fun hb H1 e1 => ?_)
    · apply et_is
      · (repeat' (first | with_reducible exact ev_c | ((with_reducible show Ev (tVar _) _ _ _); exact ev_var rfl) | with_reducible exact ea_nil | with_reducible exact eo_none | with_reducible refine' ea_cons ?_ ?_ | with_reducible refine' eo_some ?_ | with_reducible refine' ev_and2 ?_ ?_ | with_reducible refine' ev_or2 ?_ ?_ | with_reducible refine' ev_notV ?_ | with_reducible exact ru_I | with_reducible refine' ev_un ?_ ?_ | with_reducible exact rv_I0 | with_reducible exact rv_isN | with_reducible exact rv_notN | with_reducible refine' rv_I ?_ | with_reducible refine' rv_eq ?_ | with_reducible refine' rv_ne ?_ | with_reducible refine' ev_op ?_ ?_ ?_ | with_reducible refine' ev_chain2 ?_ ?_ ?_ ?_ ?_ | with_reducible refine' et_B ?_ | with_reducible refine' et_test ?_ | with_reducible refine' et_and2 ?_ ?_ | with_reducible refine' et_or2 ?_ ?_ | with_reducible refine' et_not ?_ | with_reducible refine' ev_call ?_ ?_ | with_reducible refine' ev_callS ?_ ?_ | with_reducible refine' ev_cb ?_ ?_ | with_reducible exact isi_bool (by assumption) | with_reducible exact isi_int (by assumption) | with_reducible exact isi_list (by assumption) | with_reducible exact rc_len (by assumption) | with_reducible exact rc_sum (by assumption) | with_reducible exact rc_abs | with_reducible exact isi_listL (by assumption) | with_reducible exact isi_intI | with_reducible exact isi_boolI | with_reducible exact rc_lenT (by assumption) | with_reducible exact isi_tup (by assumption) | with_reducible exact rv_eqL (by assumption) (by assumption) | with_reducible exact rv_neL (by assumption) (by assumption) | with_reducible exact rv_neT (by assumption) (by assumption) | with_reducible exact rv_ixL (by assumption) (by assumption) | with_reducible exact rv_ixT (by assumption) (by assumption) | with_reducible refine' ev_din ?_ ?_ (by assumption) | with_reducible refine' ev_dnotin ?_ ?_ (by assumption) | with_reducible refine' ev_dget ?_ ?_ (by assumption) (by assumption) | ((with_reducible show SpV _ _ _ _); assumption) | ((with_reducible show RV _ _ _ _ _); assumption) | ((with_reducible show RC _ _ _ _); assumption) | ((with_reducible show CDiv _ _); exact ⟨by omega, by omega⟩) | ((with_reducible show CMul _ _); first | exact .inl ⟨by omega, by omega⟩ | exact .inr ⟨by omega, by omega⟩) | ((with_reducible show CPow _ _); exact ⟨by omega, by omega, by first | decide | assumption | omega⟩) | ((with_reducible show (0 : Int) < _); omega) | ((with_reducible show (0 : Int) ≤ _); omega) | ((with_reducible show scal _ _ = true); rfl)))
      · rw [List.length_map]
    · have hk : k < ns.length := by
        have := of_decide_eq_true hb
        omega
      have hs1 := ex_l e1 hs
      have g := atI_int hk
      exact s_ret (by (repeat' (first | with_reducible exact ev_c | ((with_reducible show Ev (tVar _) _ _ _); exact ev_var rfl) | with_reducible exact ea_nil | with_reducible exact eo_none | with_reducible refine' ea_cons ?_ ?_ | with_reducible refine' eo_some ?_ | with_reducible refine' ev_and2 ?_ ?_ | with_reducible refine' ev_or2 ?_ ?_ | with_reducible refine' ev_notV ?_ | with_reducible exact ru_I | with_reducible refine' ev_un ?_ ?_ | with_reducible exact rv_I0 | with_reducible exact rv_isN | with_reducible exact rv_notN | with_reducible refine' rv_I ?_ | with_reducible refine' rv_eq ?_ | with_reducible refine' rv_ne ?_ | with_reducible refine' ev_op ?_ ?_ ?_ | with_reducible refine' ev_chain2 ?_ ?_ ?_ ?_ ?_ | with_reducible refine' et_B ?_ | with_reducible refine' et_test ?_ | with_reducible refine' et_and2 ?_ ?_ | with_reducible refine' et_or2 ?_ ?_ | with_reducible refine' et_not ?_ | with_reducible refine' ev_call ?_ ?_ | with_reducible refine' ev_callS ?_ ?_ | with_reducible refine' ev_cb ?_ ?_ | with_reducible exact isi_bool (by assumption) | with_reducible exact isi_int (by assumption) | with_reducible exact isi_list (by assumption) | with_reducible exact rc_len (by assumption) | with_reducible exact rc_sum (by assumption) | with_reducible exact rc_abs | with_reducible exact isi_listL (by assumption) | with_reducible exact isi_intI | with_reducible exact isi_boolI | with_reducible exact rc_lenT (by assumption) | with_reducible exact isi_tup (by assumption) | with_reducible exact rv_eqL (by assumption) (by assumption) | with_reducible exact rv_neL (by assumption) (by assumption) | with_reducible exact rv_neT (by assumption) (by assumption) | with_reducible exact rv_ixL (by assumption) (by assumption) | with_reducible exact rv_ixT (by assumption) (by assumption) | with_reducible refine' ev_din ?_ ?_ (by assumption) | with_reducible refine' ev_dnotin ?_ ?_ (by assumption) | with_reducible refine' ev_dget ?_ ?_ (by assumption) (by assumption) | ((with_reducible show SpV _ _ _ _); assumption) | ((with_reducible show RV _ _ _ _ _); assumption) | ((with_reducible show RC _ _ _ _); assumption) | ((with_reducible show CDiv _ _); exact ⟨by omega, by omega⟩) | ((with_reducible show CMul _ _); first | exact .inl ⟨by omega, by omega⟩ | exact .inr ⟨by omega, by omega⟩) | ((with_reducible show CPow _ _); exact ⟨by omega, by omega, by first | decide | assumption | omega⟩) | ((with_reducible show (0 : Int) < _); omega) | ((with_reducible show (0 : Int) ≤ _); omega) | ((with_reducible show scal _ _ = true); rfl)))) fun H2 e2 => q H2 (e1.trans e2)
    · have hk : ¬ k < ns.length := by
        have := of_decide_eq_false hb
        omega
      have z : ns.getD k 0 = 0 := by
        rw [List.getD_eq_getElem?_getD, List.getElem?_eq_none (by omega)]
        rfl
      rw [z] at q
      exact s_ret (by (repeat' (first | with_reducible exact ev_c | ((with_reducible show Ev (tVar _) _ _ _); exact ev_var rfl) | with_reducible exact ea_nil | with_reducible exact eo_none | with_reducible refine' ea_cons ?_ ?_ | with_reducible refine' eo_some ?_ | with_reducible refine' ev_and2 ?_ ?_ | with_reducible refine' ev_or2 ?_ ?_ | with_reducible refine' ev_notV ?_ | with_reducible exact ru_I | with_reducible refine' ev_un ?_ ?_ | with_reducible exact rv_I0 | with_reducible exact rv_isN | with_reducible exact rv_notN | with_reducible refine' rv_I ?_ | with_reducible refine' rv_eq ?_ | with_reducible refine' rv_ne ?_ | with_reducible refine' ev_op ?_ ?_ ?_ | with_reducible refine' ev_chain2 ?_ ?_ ?_ ?_ ?_ | with_reducible refine' et_B ?_ | with_reducible refine' et_test ?_ | with_reducible refine' et_and2 ?_ ?_ | with_reducible refine' et_or2 ?_ ?_ | with_reducible refine' et_not ?_ | with_reducible refine' ev_call ?_ ?_ | with_reducible refine' ev_callS ?_ ?_ | with_reducible refine' ev_cb ?_ ?_ | with_reducible exact isi_bool (by assumption) | with_reducible exact isi_int (by assumption) | with_reducible exact isi_list (by assumption) | with_reducible exact rc_len (by assumption) | with_reducible exact rc_sum (by assumption) | with_reducible exact rc_abs | with_reducible exact isi_listL (by assumption) | with_reducible exact isi_intI | with_reducible exact isi_boolI | with_reducible exact rc_lenT (by assumption) | with_reducible exact isi_tup (by assumption) | with_reducible exact rv_eqL (by assumption) (by assumption) | with_reducible exact rv_neL (by assumption) (by assumption) | with_reducible exact rv_neT (by assumption) (by assumption) | with_reducible exact rv_ixL (by assumption) (by assumption) | with_reducible exact rv_ixT (by assumption) (by assumption) | with_reducible refine' ev_din ?_ ?_ (by assumption) | with_reducible refine' ev_dnotin ?_ ?_ (by assumption) | with_reducible refine' ev_dget ?_ ?_ (by assumption) (by assumption) | ((with_reducible show SpV _ _ _ _); assumption) | ((with_reducible show RV _ _ _ _ _); assumption) | ((with_reducible show RC _ _ _ _); assumption) | ((with_reducible show CDiv _ _); exact ⟨by omega, by omega⟩) | ((with_reducible show CMul _ _); first | exact .inl ⟨by omega, by omega⟩ | exact .inr ⟨by omega, by omega⟩) | ((with_reducible show CPow _ _); exact ⟨by omega, by omega, by first | decide | assumption | omega⟩) | ((with_reducible show (0 : Int) < _); omega) | ((with_reducible show (0 : Int) ≤ _); omega) | ((with_reducible show scal _ _ = true); rfl)))) fun H2 e2 => q H2 (e1.trans e2)

def mixed (c k : Int) : Int := ((c + 977 * k + 31) * 48271 % 2147483647) * ((c + 977 * k + 31) * 48271 % 2147483647) % 2147483629
theorem mixed_nn (c k : Int) : 0 ≤ mixed c k := Int.emod_nonneg _ (by decide)
theorem mixed_lt (c k : Int) : mixed c k < 2147483629 := Int.emod_lt_of_pos _ (by decide)
def sp_mixed : Sp := fun vs H Q E => ∃ (c k : Int), vs = [.int c, .int k] ∧ RetV (.int (mixed c k)) H Q
theorem sv_mixed {H : Hp} {c k : Int} : SpV sp_mixed [.int c, .int k] H (.int (mixed c k)) := spv_of fun H1 e Q E q => ⟨c, k, rfl, q⟩
theorem sc__law_mixed : FnScope ["_law_cell", "_law_k", "_law_found"] ["_law_cell", "_law_k"] (defScope s__law_mixed) := ⟨rfl, rfl, rfl, by decide +kernel, rfl, by decide +kernel, by decide +kernel⟩
theorem ok__law_mixed {P : Program} {w : World} {K : PySem.W.Frag} {mg : Str → Option Value} {base : Heap} (T : TXT K mg) : OK P w K mg base "_law_mixed" ["_law_cell", "_law_k"] 1 (sp_mixed) := by
  obtain ⟨fd, F⟩ := T.def_ 9
  refine ⟨_, fd, T.glo 9, F.kp, F.bindsN (fun _ _ _ _ _ _ us hl => match us, hl with | [_, _], _ => rfl), F.ok sc__law_mixed (fun vs H Q E h => ?_) (fun cdv A outer s H vs Q E hr h => ?_), F.bindsA (fun _ _ _ _ _ _ us hl => match us, hl with | [_, _], _ => rfl)⟩
  · first | (obtain ⟨rfl, _⟩ := h; rfl) | (obtain ⟨_, rfl, _⟩ := h; rfl) | (obtain ⟨_, _, rfl, _⟩ := h; rfl) | (obtain ⟨_, _, _, rfl, _⟩ := h; rfl) | (obtain ⟨_, _, _, _, rfl, _⟩ := h; rfl) | (obtain ⟨_, _, _, _, _, rfl, _⟩ := h; rfl) | (obtain ⟨_, _, _, _, _, _, rfl, _⟩ := h; rfl) | (obtain ⟨_, _, _, _, _, _, _, rfl, _⟩ := h; rfl) | (obtain ⟨_, _, _, _, _, _, _, _, rfl, _⟩ := h; rfl)
  · replace F : FunD K "_law_mixed" "_law_mixed" (defArgs s__law_mixed) (defBody s__law_mixed) (defScope s__law_mixed) [] [] (He.ga K "_law_mixed") fd := F
    refine ⟨_, (pss_cons (ps_set (i := 2) sc__law_mixed.nd rfl (Or.inl rfl) (pe_op op_mod (pe_op op_mul (pe_op op_add (pe_op op_add (pv 0) (pe_op op_mul pe_int (pv 1))) pe_int) pe_int) pe_int))
      (pss_one (ps_ret (pe_op op_mod (pe_op op_mul (pv 2) (pv 2)) pe_int)))), ?_⟩
    obtain ⟨c, k, rfl, q⟩ := h
    dsimp only [cxOf, L2.start, List.map_cons, List.map_nil, List.length_cons, List.length_nil, Nat.reduceAdd, Nat.reduceSub, List.replicate_succ, List.replicate_zero, List.cons_append, List.nil_append, Nat.zero_add, List.reduceReplicate, List.map]
    refine q_asg (v := .int ((c + 977 * k + 31) * 48271 % 2147483647)) ?_ fun H1 e1 => ?_
    · (repeat' (first | with_reducible exact ev_c | ((with_reducible show Ev (tVar _) _ _ _); exact ev_var rfl) | with_reducible exact ea_nil | with_reducible exact eo_none | with_reducible refine' ea_cons ?_ ?_ | with_reducible refine' eo_some ?_ | with_reducible refine' ev_and2 ?_ ?_ | with_reducible refine' ev_or2 ?_ ?_ | with_reducible refine' ev_notV ?_ | with_reducible exact ru_I | with_reducible refine' ev_un ?_ ?_ | with_reducible exact rv_I0 | with_reducible exact rv_isN | with_reducible exact rv_notN | with_reducible refine' rv_I ?_ | with_reducible refine' rv_eq ?_ | with_reducible refine' rv_ne ?_ | with_reducible refine' ev_op ?_ ?_ ?_ | with_reducible refine' ev_chain2 ?_ ?_ ?_ ?_ ?_ | with_reducible refine' et_B ?_ | with_reducible refine' et_test ?_ | with_reducible refine' et_and2 ?_ ?_ | with_reducible refine' et_or2 ?_ ?_ | with_reducible refine' et_not ?_ | with_reducible refine' ev_call ?_ ?_ | with_reducible refine' ev_callS ?_ ?_ | with_reducible refine' ev_cb ?_ ?_ | with_reducible exact isi_bool (by assumption) | with_reducible exact isi_int (by assumption) | with_reducible exact isi_list (by assumption) | with_reducible exact rc_len (by assumption) | with_reducible exact rc_sum (by assumption) | with_reducible exact rc_abs | with_reducible exact isi_listL (by assumption) | with_reducible exact isi_intI | with_reducible exact isi_boolI | with_reducible exact rc_lenT (by assumption) | with_reducible exact isi_tup (by assumption) | with_reducible exact rv_eqL (by assumption) (by assumption) | with_reducible exact rv_neL (by assumption) (by assumption) | with_reducible exact rv_neT (by assumption) (by assumption) | with_reducible exact rv_ixL (by assumption) (by assumption) | with_reducible exact rv_ixT (by assumption) (by assumption) | with_reducible refine' ev_din ?_ ?_ (by assumption) | with_reducible refine' ev_dnotin ?_ ?_ (by assumption) | with_reducible refine' ev_dget ?_ ?_ (by assumption) (by assumption) | ((with_reducible show SpV _ _ _ _); assumption) | ((with_reducible show RV _ _ _ _ _); assumption) | ((with_reducible show RC _ _ _ _); assumption) | ((with_reducible show CDiv _ _); exact ⟨by omega, by omega⟩) | ((with_reducible show CMul _ _); first | exact .inl ⟨by omega, by omega⟩ | exact .inr ⟨by omega, by omega⟩) | ((with_reducible show CPow _ _); exact ⟨by omega, by omega, by first | decide | assumption | omega⟩) | ((with_reducible show (0 : Int) < _); omega) | ((with_reducible show (0 : Int) ≤ _); omega) | ((with_reducible show scal _ _ = true); rfl)))
    · have h1 : 0 ≤ (c + 977 * k + 31) * 48271 % 2147483647 := Int.emod_nonneg _ (by decide)
      have h2 : (c + 977 * k + 31) * 48271 % 2147483647 < 2147483647 := Int.emod_lt_of_pos _ (by decide)
      refine s_ret (v := .int (mixed c k)) ?_ fun H2 e2 => q H2 (e1.trans e2)
      apply ev_is
      · (repeat' (first | with_reducible exact ev_c | ((with_reducible show Ev (tVar _) _ _ _); exact ev_var rfl) | with_reducible exact ea_nil | with_reducible exact eo_none | with_reducible refine' ea_cons ?_ ?_ | with_reducible refine' eo_some ?_ | with_reducible refine' ev_and2 ?_ ?_ | with_reducible refine' ev_or2 ?_ ?_ | with_reducible refine' ev_notV ?_ | with_reducible exact ru_I | with_reducible refine' ev_un ?_ ?_ | with_reducible exact rv_I0 | with_reducible exact rv_isN | with_reducible exact rv_notN | with_reducible refine' rv_I ?_ | with_reducible refine' rv_eq ?_ | with_reducible refine' rv_ne ?_ | with_reducible refine' ev_op ?_ ?_ ?_ | with_reducible refine' ev_chain2 ?_ ?_ ?_ ?_ ?_ | with_reducible refine' et_B ?_ | with_reducible refine' et_test ?_ | with_reducible refine' et_and2 ?_ ?_ | with_reducible refine' et_or2 ?_ ?_ | with_reducible refine' et_not ?_ | with_reducible refine' ev_call ?_ ?_ | with_reducible refine' ev_callS ?_ ?_ | with_reducible refine' ev_cb ?_ ?_ | with_reducible exact isi_bool (by assumption) | with_reducible exact isi_int (by assumption) | with_reducible exact isi_list (by assumption) | with_reducible exact rc_len (by assumption) | with_reducible exact rc_sum (by assumption) | with_reducible exact rc_abs | with_reducible exact isi_listL (by assumption) | with_reducible exact isi_intI | with_reducible exact isi_boolI | with_reducible exact rc_lenT (by assumption) | with_reducible exact isi_tup (by assumption) | with_reducible exact rv_eqL (by assumption) (by assumption) | with_reducible exact rv_neL (by assumption) (by assumption) | with_reducible exact rv_neT (by assumption) (by assumption) | with_reducible exact rv_ixL (by assumption) (by assumption) | with_reducible exact rv_ixT (by assumption) (by assumption) | with_reducible refine' ev_din ?_ ?_ (by assumption) | with_reducible refine' ev_dnotin ?_ ?_ (by assumption) | with_reducible refine' ev_dget ?_ ?_ (by assumption) (by assumption) | ((with_reducible show SpV _ _ _ _); assumption) | ((with_reducible show RV _ _ _ _ _); assumption) | ((with_reducible show RC _ _ _ _); assumption) | ((with_reducible show CDiv _ _); exact ⟨by omega, by omega⟩) | ((with_reducible show CMul _ _); first | exact .inl ⟨by omega, by omega⟩ | exact .inr ⟨by omega, by omega⟩) | ((with_reducible show CPow _ _); exact ⟨by omega, by omega, by first | decide | assumption | omega⟩) | ((with_reducible show (0 : Int) < _); omega) | ((with_reducible show (0 : Int) ≤ _); omega) | ((with_reducible show scal _ _ = true); rfl)))
      · rfl

def sizeBy (c : Int) : Int := if c % 4 = 1 then 1 + c / 4 % 60 else 1 + c / 4 % 9
theorem sizeBy_1 (c : Int) : 1 ≤ sizeBy c := by
  unfold sizeBy
  split <;> omega
theorem sizeBy_60 (c : Int) : sizeBy c ≤ 60 := by
  unfold sizeBy
  split <;> omega
def sp_size : Sp := fun vs H Q E => ∃ (c : Int), vs = [.int c] ∧ RetV (.int (sizeBy c)) H Q
theorem sv_size {H : Hp} {c : Int} : SpV sp_size [.int c] H (.int (sizeBy c)) := spv_of fun H1 e Q E q => ⟨c, rfl, q⟩
theorem sc__law_size_by : FnScope ["_law_cell"] ["_law_cell"] (defScope s__law_size_by) := ⟨rfl, rfl, rfl, by decide +kernel, rfl, by decide +kernel, by decide +kernel⟩
theorem ok__law_size_by {P : Program} {w : World} {K : PySem.W.Frag} {mg : Str → Option Value} {base : Heap} (T : TXT K mg) : OK P w K mg base "_law_size_by" ["_law_cell"] 1 (sp_size) := by
  obtain ⟨fd, F⟩ := T.def_ 10
  refine ⟨_, fd, T.glo 10, F.kp, F.bindsN (fun _ _ _ _ _ _ us hl => match us, hl with | [_], _ => rfl), F.ok sc__law_size_by (fun vs H Q E h => ?_) (fun cdv A outer s H vs Q E hr h => ?_), F.bindsA (fun _ _ _ _ _ _ us hl => match us, hl with | [_], _ => rfl)⟩
  · first | (obtain ⟨rfl, _⟩ := h; rfl) | (obtain ⟨_, rfl, _⟩ := h; rfl) | (obtain ⟨_, _, rfl, _⟩ := h; rfl) | (obtain ⟨_, _, _, rfl, _⟩ := h; rfl) | (obtain ⟨_, _, _, _, rfl, _⟩ := h; rfl) | (obtain ⟨_, _, _, _, _, rfl, _⟩ := h; rfl) | (obtain ⟨_, _, _, _, _, _, rfl, _⟩ := h; rfl) | (obtain ⟨_, _, _, _, _, _, _, rfl, _⟩ := h; rfl) | (obtain ⟨_, _, _, _, _, _, _, _, rfl, _⟩ := h; rfl)
  · replace F : FunD K "_law_size_by" "_law_size_by" (defArgs s__law_size_by) (defBody s__law_size_by) (defScope s__law_size_by) [] [] (He.ga K "_law_size_by") fd := F
    refine ⟨_, (pss_cons (ps_if (pt_cmpR op_eq (pe_op op_mod (pv 0) pe_int) pe_int (nomark _))
        (pss_one (ps_ret (pe_op op_add pe_int (pe_op op_mod (pe_op op_fdiv (pv 0) pe_int) pe_int))))
        pss_nil)
      (pss_one (ps_ret (pe_op op_add pe_int (pe_op op_mod (pe_op op_fdiv (pv 0) pe_int) pe_int))))), ?_⟩
    obtain ⟨c, rfl, q⟩ := h
    dsimp only [cxOf, L2.start, List.map_cons, List.map_nil, List.length_cons, List.length_nil, Nat.reduceAdd, Nat.reduceSub, List.replicate_succ, List.replicate_zero, List.cons_append, List.nil_append, Nat.zero_add, List.reduceReplicate, List.map]
    refine q_when (b := decide (c % 4 = 1)) ?_ (fun hb H1 e1 => ?_) (fun hb H1 e1 => ?_)
    · apply et_is
      · (repeat' (first | with_reducible exact ev_c | ((with_reducible show Ev (tVar _) _ _ _); exact ev_var rfl) | with_reducible exact ea_nil | with_reducible exact eo_none | with_reducible refine' ea_cons ?_ ?_ | with_reducible refine' eo_some ?_ | with_reducible refine' ev_and2 ?_ ?_ | with_reducible refine' ev_or2 ?_ ?_ | with_reducible refine' ev_notV ?_ | with_reducible exact ru_I | with_reducible refine' ev_un ?_ ?_ | with_reducible exact rv_I0 | with_reducible exact rv_isN | with_reducible exact rv_notN | with_reducible refine' rv_I ?_ | with_reducible refine' rv_eq ?_ | with_reducible refine' rv_ne ?_ | with_reducible refine' ev_op ?_ ?_ ?_ | with_reducible refine' ev_chain2 ?_ ?_ ?_ ?_ ?_ | with_reducible refine' et_B ?_ | with_reducible refine' et_test ?_ | with_reducible refine' et_and2 ?_ ?_ | with_reducible refine' et_or2 ?_ ?_ | with_reducible refine' et_not ?_ | with_reducible refine' ev_call ?_ ?_ | with_reducible refine' ev_callS ?_ ?_ | with_reducible refine' ev_cb ?_ ?_ | with_reducible exact isi_bool (by assumption) | with_reducible exact isi_int (by assumption) | with_reducible exact isi_list (by assumption) | with_reducible exact rc_len (by assumption) | with_reducible exact rc_sum (by assumption) | with_reducible exact rc_abs | with_reducible exact isi_listL (by assumption) | with_reducible exact isi_intI | with_reducible exact isi_boolI | with_reducible exact rc_lenT (by assumption) | with_reducible exact isi_tup (by assumption) | with_reducible exact rv_eqL (by assumption) (by assumption) | with_reducible exact rv_neL (by assumption) (by assumption) | with_reducible exact rv_neT (by assumption) (by assumption) | with_reducible exact rv_ixL (by assumption) (by assumption) | with_reducible exact rv_ixT (by assumption) (by assumption) | with_reducible refine' ev_din ?_ ?_ (by assumption) | with_reducible refine' ev_dnotin ?_ ?_ (by assumption) | with_reducible refine' ev_dget ?_ ?_ (by assumption) (by assumption) | ((with_reducible show SpV _ _ _ _); assumption) | ((with_reducible show RV _ _ _ _ _); assumption) | ((with_reducible show RC _ _ _ _); assumption) | ((with_reducible show CDiv _ _); exact ⟨by omega, by omega⟩) | ((with_reducible show CMul _ _); first | exact .inl ⟨by omega, by omega⟩ | exact .inr ⟨by omega, by omega⟩) | ((with_reducible show CPow _ _); exact ⟨by omega, by omega, by first | decide | assumption | omega⟩) | ((with_reducible show (0 : Int) < _); omega) | ((with_reducible show (0 : Int) ≤ _); omega) | ((with_reducible show scal _ _ = true); rfl)))
      · exact dec_int.trans (by rw [Bool.eq_iff_iff]; simp)
    · have z : sizeBy c = 1 + c / 4 % 60 := if_pos (of_decide_eq_true hb)
      rw [z] at q
      refine s_ret ?_ fun H2 e2 => q H2 (e1.trans e2)
      (repeat' (first | with_reducible exact ev_c | ((with_reducible show Ev (tVar _) _ _ _); exact ev_var rfl) | with_reducible exact ea_nil | with_reducible exact eo_none | with_reducible refine' ea_cons ?_ ?_ | with_reducible refine' eo_some ?_ | with_reducible refine' ev_and2 ?_ ?_ | with_reducible refine' ev_or2 ?_ ?_ | with_reducible refine' ev_notV ?_ | with_reducible exact ru_I | with_reducible refine' ev_un ?_ ?_ | with_reducible exact rv_I0 | with_reducible exact rv_isN | with_reducible exact rv_notN | with_reducible refine' rv_I ?_ | with_reducible refine' rv_eq ?_ | with_reducible refine' rv_ne ?_ | with_reducible refine' ev_op ?_ ?_ ?_ | with_reducible refine' ev_chain2 ?_ ?_ ?_ ?_ ?_ | with_reducible refine' et_B ?_ | with_reducible refine' et_test ?_ | with_reducible refine' et_and2 ?_ ?_ | with_reducible refine' et_or2 ?_ ?_ | with_reducible refine' et_not ?_ | with_reducible refine' ev_call ?_ ?_ | with_reducible refine' ev_callS ?_ ?_ | with_reducible refine' ev_cb ?_ ?_ | with_reducible exact isi_bool (by assumption) | with_reducible exact isi_int (by assumption) | with_reducible exact isi_list (by assumption) | with_reducible exact rc_len (by assumption) | with_reducible exact rc_sum (by assumption) | with_reducible exact rc_abs | with_reducible exact isi_listL (by assumption) | with_reducible exact isi_intI | with_reducible exact isi_boolI | with_reducible exact rc_lenT (by assumption) | with_reducible exact isi_tup (by assumption) | with_reducible exact rv_eqL (by assumption) (by assumption) | with_reducible exact rv_neL (by assumption) (by assumption) | with_reducible exact rv_neT (by assumption) (by assumption) | with_reducible exact rv_ixL (by assumption) (by assumption) | with_reducible exact rv_ixT (by assumption) (by assumption) | with_reducible refine' ev_din ?_ ?_ (by assumption) | with_reducible refine' ev_dnotin ?_ ?_ (by assumption) | with_reducible refine' ev_dget ?_ ?_ (by assumption) (by assumption) | ((with_reducible show SpV _ _ _ _); assumption) | ((with_reducible show RV _ _ _ _ _); assumption) | ((with_reducible show RC _ _ _ _); assumption) | ((with_reducible show CDiv _ _); exact ⟨by omega, by omega⟩) | ((with_reducible show CMul _ _); first | exact .inl ⟨by omega, by omega⟩ | exact .inr ⟨by omega, by omega⟩) | ((with_reducible show CPow _ _); exact ⟨by omega, by omega, by first | decide | assumption | omega⟩) | ((with_reducible show (0 : Int) < _); omega) | ((with_reducible show (0 : Int) ≤ _); omega) | ((with_reducible show scal _ _ = true); rfl)))
    · have z : sizeBy c = 1 + c / 4 % 9 := if_neg (of_decide_eq_false hb)
      rw [z] at q
      refine s_ret ?_ fun H2 e2 => q H2 (e1.trans e2)
      (repeat' (first | with_reducible exact ev_c | ((with_reducible show Ev (tVar _) _ _ _); exact ev_var rfl) | with_reducible exact ea_nil | with_reducible exact eo_none | with_reducible refine' ea_cons ?_ ?_ | with_reducible refine' eo_some ?_ | with_reducible refine' ev_and2 ?_ ?_ | with_reducible refine' ev_or2 ?_ ?_ | with_reducible refine' ev_notV ?_ | with_reducible exact ru_I | with_reducible refine' ev_un ?_ ?_ | with_reducible exact rv_I0 | with_reducible exact rv_isN | with_reducible exact rv_notN | with_reducible refine' rv_I ?_ | with_reducible refine' rv_eq ?_ | with_reducible refine' rv_ne ?_ | with_reducible refine' ev_op ?_ ?_ ?_ | with_reducible refine' ev_chain2 ?_ ?_ ?_ ?_ ?_ | with_reducible refine' et_B ?_ | with_reducible refine' et_test ?_ | with_reducible refine' et_and2 ?_ ?_ | with_reducible refine' et_or2 ?_ ?_ | with_reducible refine' et_not ?_ | with_reducible refine' ev_call ?_ ?_ | with_reducible refine' ev_callS ?_ ?_ | with_reducible refine' ev_cb ?_ ?_ | with_reducible exact isi_bool (by assumption) | with_reducible exact isi_int (by assumption) | with_reducible exact isi_list (by assumption) | with_reducible exact rc_len (by assumption) | with_reducible exact rc_sum (by assumption) | with_reducible exact rc_abs | with_reducible exact isi_listL (by assumption) | with_reducible exact isi_intI | with_reducible exact isi_boolI | with_reducible exact rc_lenT (by assumption) | with_reducible exact isi_tup (by assumption) | with_reducible exact rv_eqL (by assumption) (by assumption) | with_reducible exact rv_neL (by assumption) (by assumption) | with_reducible exact rv_neT (by assumption) (by assumption) | with_reducible exact rv_ixL (by assumption) (by assumption) | with_reducible exact rv_ixT (by assumption) (by assumption) | with_reducible refine' ev_din ?_ ?_ (by assumption) | with_reducible refine' ev_dnotin ?_ ?_ (by assumption) | with_reducible refine' ev_dget ?_ ?_ (by assumption) (by assumption) | ((with_reducible show SpV _ _ _ _); assumption) | ((with_reducible show RV _ _ _ _ _); assumption) | ((with_reducible show RC _ _ _ _); assumption) | ((with_reducible show CDiv _ _); exact ⟨by omega, by omega⟩) | ((with_reducible show CMul _ _); first | exact .inl ⟨by omega, by omega⟩ | exact .inr ⟨by omega, by omega⟩) | ((with_reducible show CPow _ _); exact ⟨by omega, by omega, by first | decide | assumption | omega⟩) | ((with_reducible show (0 : Int) < _); omega) | ((with_reducible show (0 : Int) ≤ _); omega) | ((with_reducible show scal _ _ = true); rfl)))

def natsI (n : Nat) : List Int := (List.range n).map fun i : Nat => (i : Int)
theorem natsI_len (n : Nat) : (natsI n).length = n := by simp [natsI]
/-- the spots: some arrangement of 0, 1, .. -/
def sp_spots : Sp := fun vs H Q E => ∃ (n : Nat) (c : Int), vs = [.int (n : Int), .int c] ∧ n ≤ 60 ∧ 1 ≤ n ∧ ∀ xs : List Int, xs.Perm (natsI n) → RetL (xs.map V.int) H Q
theorem sc__law_spots_by : FnScope ["_law_size", "_law_cell", "_law_spots", "_law_k", "_law_other", "_law_first"] ["_law_size", "_law_cell"] (defScope s__law_spots_by) := ⟨rfl, rfl, rfl, by decide +kernel, rfl, by decide +kernel, by decide +kernel⟩
theorem ok__law_spots_by {P : Program} {w : World} {K : PySem.W.Frag} {mg : Str → Option Value} {base : Heap} (T : TXT K mg) : OK P w K mg base "_law_spots_by" ["_law_size", "_law_cell"] 2 (sp_spots) := by
  have O__law_mixed := ok__law_mixed (P := P) (w := w) (base := base) T
  obtain ⟨fd, F⟩ := T.def_ 11
  refine ⟨_, fd, T.glo 11, F.kp, F.bindsN (fun _ _ _ _ _ _ us hl => match us, hl with | [_, _], _ => rfl), F.ok sc__law_spots_by (fun vs H Q E h => ?_) (fun cdv A outer s H vs Q E hr h => ?_), F.bindsA (fun _ _ _ _ _ _ us hl => match us, hl with | [_, _], _ => rfl)⟩
  · first | (obtain ⟨rfl, _⟩ := h; rfl) | (obtain ⟨_, rfl, _⟩ := h; rfl) | (obtain ⟨_, _, rfl, _⟩ := h; rfl) | (obtain ⟨_, _, _, rfl, _⟩ := h; rfl) | (obtain ⟨_, _, _, _, rfl, _⟩ := h; rfl) | (obtain ⟨_, _, _, _, _, rfl, _⟩ := h; rfl) | (obtain ⟨_, _, _, _, _, _, rfl, _⟩ := h; rfl) | (obtain ⟨_, _, _, _, _, _, _, rfl, _⟩ := h; rfl) | (obtain ⟨_, _, _, _, _, _, _, _, rfl, _⟩ := h; rfl)
  · replace F : FunD K "_law_spots_by" "_law_spots_by" (defArgs s__law_spots_by) (defBody s__law_spots_by) (defScope s__law_spots_by) [] [] (He.ga K "_law_spots_by") fd := F
    refine ⟨_, (pss_cons (ps_setLc (i := 2) (own := [("_law_k", 3)]) (g := gName 3) (tt := tYes) rfl sc__law_spots_by.nd rfl rfl (sw_true rfl rfl rfl (by decide +kernel)) (pi_range1 (by rfl) (T.free 24) (pa_cons (pv 0) pa_nil)) (blkOk_by (N := ["_law_size", "_law_cell", "_law_spots", "_law_k", "_law_other", "_law_first"]) (sc := defScope s__law_spots_by) (by decide +kernel)) (fun _ _ _ _ _ => pg_name (i := 3) sc__law_spots_by.nd rfl (Or.inl rfl)) (fun _ _ _ _ _ => pts_nil) (fun _ _ _ _ _ => (pv 3)))
      (pss_cons (ps_for (passes_of rfl) rfl (pi_range1 (by rfl) (T.free 24) (pa_cons (pv 0) pa_nil)) (pg_name (i := 3) sc__law_spots_by.nd rfl (Or.inl rfl))
        (pss_cons (ps_set (i := 4) sc__law_spots_by.nd rfl (Or.inl rfl) (pe_op op_mod (pe_own O__law_mixed (hr.mono (by decide)) (by rfl) (passes_call (takes_of rfl rfl rfl rfl) (fun _ _ _ _ h => h)) (pa_cons (pv 1) (pa_cons (pv 3) pa_nil))) (pv 0)))
      (pss_cons (ps_set (i := 5) sc__law_spots_by.nd rfl (Or.inl rfl) (pe_ix (k_ixL K) (pv 2) (pv 3) (fun _ _ => rfl)))
      (pss_cons (ps_asg (pe_ix (k_ixL K) (pv 2) (pv 4) (fun _ _ => rfl)) (pg_sub (pv 2) (pv 3) set_list))
      (pss_one (ps_asg (pv 5) (pg_sub (pv 2) (pv 4) set_list)))))))
      (pss_one (ps_ret (pv 2))))), ?_⟩
    obtain ⟨n, c, rfl, hn, hn1, q⟩ := h
    dsimp only [cxOf, L2.start, List.map_cons, List.map_nil, List.length_cons, List.length_nil, Nat.reduceAdd, Nat.reduceSub, List.replicate_succ, List.replicate_zero, List.cons_append, List.nil_append, Nat.zero_add, List.reduceReplicate, List.map]
    refine q_asgL (xs := (natsI n).map V.int) ?_ fun p H1 hp e1 h1 => ?_
    · have z := el_rng (σ := [some (V.int (n : Int)), some (V.int c), none, none, none, none]) (H := H) (te := tVar 3) (j := 3) (vs := [3]) (ta := tCons (tVar 0) tNil) (n := (n : Int)) (fun i : Nat => V.int (i : Int)) (by (repeat' (first | with_reducible exact ev_c | ((with_reducible show Ev (tVar _) _ _ _); exact ev_var rfl) | with_reducible exact ea_nil | with_reducible exact eo_none | with_reducible refine' ea_cons ?_ ?_ | with_reducible refine' eo_some ?_ | with_reducible refine' ev_and2 ?_ ?_ | with_reducible refine' ev_or2 ?_ ?_ | with_reducible refine' ev_notV ?_ | with_reducible exact ru_I | with_reducible refine' ev_un ?_ ?_ | with_reducible exact rv_I0 | with_reducible exact rv_isN | with_reducible exact rv_notN | with_reducible refine' rv_I ?_ | with_reducible refine' rv_eq ?_ | with_reducible refine' rv_ne ?_ | with_reducible refine' ev_op ?_ ?_ ?_ | with_reducible refine' ev_chain2 ?_ ?_ ?_ ?_ ?_ | with_reducible refine' et_B ?_ | with_reducible refine' et_test ?_ | with_reducible refine' et_and2 ?_ ?_ | with_reducible refine' et_or2 ?_ ?_ | with_reducible refine' et_not ?_ | with_reducible refine' ev_call ?_ ?_ | with_reducible refine' ev_callS ?_ ?_ | with_reducible refine' ev_cb ?_ ?_ | with_reducible exact isi_bool (by assumption) | with_reducible exact isi_int (by assumption) | with_reducible exact isi_list (by assumption) | with_reducible exact rc_len (by assumption) | with_reducible exact rc_sum (by assumption) | with_reducible exact rc_abs | with_reducible exact isi_listL (by assumption) | with_reducible exact isi_intI | with_reducible exact isi_boolI | with_reducible exact rc_lenT (by assumption) | with_reducible exact isi_tup (by assumption) | with_reducible exact rv_eqL (by assumption) (by assumption) | with_reducible exact rv_neL (by assumption) (by assumption) | with_reducible exact rv_neT (by assumption) (by assumption) | with_reducible exact rv_ixL (by assumption) (by assumption) | with_reducible exact rv_ixT (by assumption) (by assumption) | with_reducible refine' ev_din ?_ ?_ (by assumption) | with_reducible refine' ev_dnotin ?_ ?_ (by assumption) | with_reducible refine' ev_dget ?_ ?_ (by assumption) (by assumption) | ((with_reducible show SpV _ _ _ _); assumption) | ((with_reducible show RV _ _ _ _ _); assumption) | ((with_reducible show RC _ _ _ _); assumption) | ((with_reducible show CDiv _ _); exact ⟨by omega, by omega⟩) | ((with_reducible show CMul _ _); first | exact .inl ⟨by omega, by omega⟩ | exact .inr ⟨by omega, by omega⟩) | ((with_reducible show CPow _ _); exact ⟨by omega, by omega, by first | decide | assumption | omega⟩) | ((with_reducible show (0 : Int) < _); omega) | ((with_reducible show (0 : Int) ≤ _); omega) | ((with_reducible show scal _ _ = true); rfl)))) (by omega) (fun _ => rfl) (fun i H2 e2 hi => by (repeat' (first | with_reducible exact ev_c | ((with_reducible show Ev (tVar _) _ _ _); exact ev_var rfl) | with_reducible exact ea_nil | with_reducible exact eo_none | with_reducible refine' ea_cons ?_ ?_ | with_reducible refine' eo_some ?_ | with_reducible refine' ev_and2 ?_ ?_ | with_reducible refine' ev_or2 ?_ ?_ | with_reducible refine' ev_notV ?_ | with_reducible exact ru_I | with_reducible refine' ev_un ?_ ?_ | with_reducible exact rv_I0 | with_reducible exact rv_isN | with_reducible exact rv_notN | with_reducible refine' rv_I ?_ | with_reducible refine' rv_eq ?_ | with_reducible refine' rv_ne ?_ | with_reducible refine' ev_op ?_ ?_ ?_ | with_reducible refine' ev_chain2 ?_ ?_ ?_ ?_ ?_ | with_reducible refine' et_B ?_ | with_reducible refine' et_test ?_ | with_reducible refine' et_and2 ?_ ?_ | with_reducible refine' et_or2 ?_ ?_ | with_reducible refine' et_not ?_ | with_reducible refine' ev_call ?_ ?_ | with_reducible refine' ev_callS ?_ ?_ | with_reducible refine' ev_cb ?_ ?_ | with_reducible exact isi_bool (by assumption) | with_reducible exact isi_int (by assumption) | with_reducible exact isi_list (by assumption) | with_reducible exact rc_len (by assumption) | with_reducible exact rc_sum (by assumption) | with_reducible exact rc_abs | with_reducible exact isi_listL (by assumption) | with_reducible exact isi_intI | with_reducible exact isi_boolI | with_reducible exact rc_lenT (by assumption) | with_reducible exact isi_tup (by assumption) | with_reducible exact rv_eqL (by assumption) (by assumption) | with_reducible exact rv_neL (by assumption) (by assumption) | with_reducible exact rv_neT (by assumption) (by assumption) | with_reducible exact rv_ixL (by assumption) (by assumption) | with_reducible exact rv_ixT (by assumption) (by assumption) | with_reducible refine' ev_din ?_ ?_ (by assumption) | with_reducible refine' ev_dnotin ?_ ?_ (by assumption) | with_reducible refine' ev_dget ?_ ?_ (by assumption) (by assumption) | ((with_reducible show SpV _ _ _ _); assumption) | ((with_reducible show RV _ _ _ _ _); assumption) | ((with_reducible show RC _ _ _ _); assumption) | ((with_reducible show CDiv _ _); exact ⟨by omega, by omega⟩) | ((with_reducible show CMul _ _); first | exact .inl ⟨by omega, by omega⟩ | exact .inr ⟨by omega, by omega⟩) | ((with_reducible show CPow _ _); exact ⟨by omega, by omega, by first | decide | assumption | omega⟩) | ((with_reducible show (0 : Int) < _); omega) | ((with_reducible show (0 : Int) ≤ _); omega) | ((with_reducible show scal _ _ = true); rfl))))
      have z2 : (natsI n).map V.int = (List.range (n : Int).toNat).map fun i : Nat => V.int (i : Int) := by
        rw [natsI, List.map_map]
        rfl
      rw [z2]
      exact z
    refine q_forR1 (n := (n : Int)) (by (repeat' (first | with_reducible exact ev_c | ((with_reducible show Ev (tVar _) _ _ _); exact ev_var rfl) | with_reducible exact ea_nil | with_reducible exact eo_none | with_reducible refine' ea_cons ?_ ?_ | with_reducible refine' eo_some ?_ | with_reducible refine' ev_and2 ?_ ?_ | with_reducible refine' ev_or2 ?_ ?_ | with_reducible refine' ev_notV ?_ | with_reducible exact ru_I | with_reducible refine' ev_un ?_ ?_ | with_reducible exact rv_I0 | with_reducible exact rv_isN | with_reducible exact rv_notN | with_reducible refine' rv_I ?_ | with_reducible refine' rv_eq ?_ | with_reducible refine' rv_ne ?_ | with_reducible refine' ev_op ?_ ?_ ?_ | with_reducible refine' ev_chain2 ?_ ?_ ?_ ?_ ?_ | with_reducible refine' et_B ?_ | with_reducible refine' et_test ?_ | with_reducible refine' et_and2 ?_ ?_ | with_reducible refine' et_or2 ?_ ?_ | with_reducible refine' et_not ?_ | with_reducible refine' ev_call ?_ ?_ | with_reducible refine' ev_callS ?_ ?_ | with_reducible refine' ev_cb ?_ ?_ | with_reducible exact isi_bool (by assumption) | with_reducible exact isi_int (by assumption) | with_reducible exact isi_list (by assumption) | with_reducible exact rc_len (by assumption) | with_reducible exact rc_sum (by assumption) | with_reducible exact rc_abs | with_reducible exact isi_listL (by assumption) | with_reducible exact isi_intI | with_reducible exact isi_boolI | with_reducible exact rc_lenT (by assumption) | with_reducible exact isi_tup (by assumption) | with_reducible exact rv_eqL (by assumption) (by assumption) | with_reducible exact rv_neL (by assumption) (by assumption) | with_reducible exact rv_neT (by assumption) (by assumption) | with_reducible exact rv_ixL (by assumption) (by assumption) | with_reducible exact rv_ixT (by assumption) (by assumption) | with_reducible refine' ev_din ?_ ?_ (by assumption) | with_reducible refine' ev_dnotin ?_ ?_ (by assumption) | with_reducible refine' ev_dget ?_ ?_ (by assumption) (by assumption) | ((with_reducible show SpV _ _ _ _); assumption) | ((with_reducible show RV _ _ _ _ _); assumption) | ((with_reducible show RC _ _ _ _); assumption) | ((with_reducible show CDiv _ _); exact ⟨by omega, by omega⟩) | ((with_reducible show CMul _ _); first | exact .inl ⟨by omega, by omega⟩ | exact .inr ⟨by omega, by omega⟩) | ((with_reducible show CPow _ _); exact ⟨by omega, by omega, by first | decide | assumption | omega⟩) | ((with_reducible show (0 : Int) < _); omega) | ((with_reducible show (0 : Int) ≤ _); omega) | ((with_reducible show scal _ _ = true); rfl)))) (by omega) (fun i σ' H' => ∃ y3 y4 y5 xs, σ' = [some (V.int (n : Int)), some (V.int c), some (V.ref p), y3, y4, y5] ∧ Ex H H' ∧ H' p = some (.lst (xs.map V.int)) ∧ xs.Perm (natsI n)) (fun H2 e2 => ⟨none, none, none, natsI n, rfl, e1.trans e2, e2 _ _ h1, .refl _⟩) ?_ ?_
    · rintro i σ' H' hi ⟨y3, y4, y5, xs, rfl, e3, h3, pm⟩
      have hi' : i < n := by omega
      have hl : xs.length = n := by rw [pm.length_eq, natsI_len]
      obtain ⟨o, ho⟩ := Int.eq_ofNat_of_zero_le (Int.emod_nonneg (mixed c (i : Int)) (show ((n : Nat) : Int) ≠ 0 by omega))
      have ho2 : o < n := by
        have := Int.emod_lt_of_pos (mixed c (i : Int)) (show (0 : Int) < (n : Int) by omega)
        omega
      have sm := sv_mixed (H := H') (c := c) (k := (i : Int))
      refine q_asg (v := .int (o : Int)) ?_ fun H4 e4 => ?_
      · apply ev_is
        · (repeat' (first | with_reducible exact ev_c | ((with_reducible show Ev (tVar _) _ _ _); exact ev_var rfl) | with_reducible exact ea_nil | with_reducible exact eo_none | with_reducible refine' ea_cons ?_ ?_ | with_reducible refine' eo_some ?_ | with_reducible refine' ev_and2 ?_ ?_ | with_reducible refine' ev_or2 ?_ ?_ | with_reducible refine' ev_notV ?_ | with_reducible exact ru_I | with_reducible refine' ev_un ?_ ?_ | with_reducible exact rv_I0 | with_reducible exact rv_isN | with_reducible exact rv_notN | with_reducible refine' rv_I ?_ | with_reducible refine' rv_eq ?_ | with_reducible refine' rv_ne ?_ | with_reducible refine' ev_op ?_ ?_ ?_ | with_reducible refine' ev_chain2 ?_ ?_ ?_ ?_ ?_ | with_reducible refine' et_B ?_ | with_reducible refine' et_test ?_ | with_reducible refine' et_and2 ?_ ?_ | with_reducible refine' et_or2 ?_ ?_ | with_reducible refine' et_not ?_ | with_reducible refine' ev_call ?_ ?_ | with_reducible refine' ev_callS ?_ ?_ | with_reducible refine' ev_cb ?_ ?_ | with_reducible exact isi_bool (by assumption) | with_reducible exact isi_int (by assumption) | with_reducible exact isi_list (by assumption) | with_reducible exact rc_len (by assumption) | with_reducible exact rc_sum (by assumption) | with_reducible exact rc_abs | with_reducible exact isi_listL (by assumption) | with_reducible exact isi_intI | with_reducible exact isi_boolI | with_reducible exact rc_lenT (by assumption) | with_reducible exact isi_tup (by assumption) | with_reducible exact rv_eqL (by assumption) (by assumption) | with_reducible exact rv_neL (by assumption) (by assumption) | with_reducible exact rv_neT (by assumption) (by assumption) | with_reducible exact rv_ixL (by assumption) (by assumption) | with_reducible exact rv_ixT (by assumption) (by assumption) | with_reducible refine' ev_din ?_ ?_ (by assumption) | with_reducible refine' ev_dnotin ?_ ?_ (by assumption) | with_reducible refine' ev_dget ?_ ?_ (by assumption) (by assumption) | ((with_reducible show SpV _ _ _ _); assumption) | ((with_reducible show RV _ _ _ _ _); assumption) | ((with_reducible show RC _ _ _ _); assumption) | ((with_reducible show CDiv _ _); exact ⟨by omega, by omega⟩) | ((with_reducible show CMul _ _); first | exact .inl ⟨by omega, by omega⟩ | exact .inr ⟨by omega, by omega⟩) | ((with_reducible show CPow _ _); exact ⟨by omega, by omega, by first | decide | assumption | omega⟩) | ((with_reducible show (0 : Int) < _); omega) | ((with_reducible show (0 : Int) ≤ _); omega) | ((with_reducible show scal _ _ = true); rfl)))
        · rw [ho]
      have h4 := e4 _ _ h3
      have s4 : SqL K H4 p (xs.map V.int) := sq_of h4
      have gi := atI_int (ns := xs) (j := i) (by omega)
      refine q_asg (v := .int (xs.getD i 0)) (by (repeat' (first | with_reducible exact ev_c | ((with_reducible show Ev (tVar _) _ _ _); exact ev_var rfl) | with_reducible exact ea_nil | with_reducible exact eo_none | with_reducible refine' ea_cons ?_ ?_ | with_reducible refine' eo_some ?_ | with_reducible refine' ev_and2 ?_ ?_ | with_reducible refine' ev_or2 ?_ ?_ | with_reducible refine' ev_notV ?_ | with_reducible exact ru_I | with_reducible refine' ev_un ?_ ?_ | with_reducible exact rv_I0 | with_reducible exact rv_isN | with_reducible exact rv_notN | with_reducible refine' rv_I ?_ | with_reducible refine' rv_eq ?_ | with_reducible refine' rv_ne ?_ | with_reducible refine' ev_op ?_ ?_ ?_ | with_reducible refine' ev_chain2 ?_ ?_ ?_ ?_ ?_ | with_reducible refine' et_B ?_ | with_reducible refine' et_test ?_ | with_reducible refine' et_and2 ?_ ?_ | with_reducible refine' et_or2 ?_ ?_ | with_reducible refine' et_not ?_ | with_reducible refine' ev_call ?_ ?_ | with_reducible refine' ev_callS ?_ ?_ | with_reducible refine' ev_cb ?_ ?_ | with_reducible exact isi_bool (by assumption) | with_reducible exact isi_int (by assumption) | with_reducible exact isi_list (by assumption) | with_reducible exact rc_len (by assumption) | with_reducible exact rc_sum (by assumption) | with_reducible exact rc_abs | with_reducible exact isi_listL (by assumption) | with_reducible exact isi_intI | with_reducible exact isi_boolI | with_reducible exact rc_lenT (by assumption) | with_reducible exact isi_tup (by assumption) | with_reducible exact rv_eqL (by assumption) (by assumption) | with_reducible exact rv_neL (by assumption) (by assumption) | with_reducible exact rv_neT (by assumption) (by assumption) | with_reducible exact rv_ixL (by assumption) (by assumption) | with_reducible exact rv_ixT (by assumption) (by assumption) | with_reducible refine' ev_din ?_ ?_ (by assumption) | with_reducible refine' ev_dnotin ?_ ?_ (by assumption) | with_reducible refine' ev_dget ?_ ?_ (by assumption) (by assumption) | ((with_reducible show SpV _ _ _ _); assumption) | ((with_reducible show RV _ _ _ _ _); assumption) | ((with_reducible show RC _ _ _ _); assumption) | ((with_reducible show CDiv _ _); exact ⟨by omega, by omega⟩) | ((with_reducible show CMul _ _); first | exact .inl ⟨by omega, by omega⟩ | exact .inr ⟨by omega, by omega⟩) | ((with_reducible show CPow _ _); exact ⟨by omega, by omega, by first | decide | assumption | omega⟩) | ((with_reducible show (0 : Int) < _); omega) | ((with_reducible show (0 : Int) ≤ _); omega) | ((with_reducible show scal _ _ = true); rfl)))) fun H5 e5 => ?_
      have h5 := e5 _ _ h4
      have s5 : SqL K H5 p (xs.map V.int) := sq_of h5
      have go := atI_int (ns := xs) (j := o) (by omega)
      refine q_setL (j := i) h5 (v := .int (xs.getD o 0)) (by (repeat' (first | with_reducible exact ev_c | ((with_reducible show Ev (tVar _) _ _ _); exact ev_var rfl) | with_reducible exact ea_nil | with_reducible exact eo_none | with_reducible refine' ea_cons ?_ ?_ | with_reducible refine' eo_some ?_ | with_reducible refine' ev_and2 ?_ ?_ | with_reducible refine' ev_or2 ?_ ?_ | with_reducible refine' ev_notV ?_ | with_reducible exact ru_I | with_reducible refine' ev_un ?_ ?_ | with_reducible exact rv_I0 | with_reducible exact rv_isN | with_reducible exact rv_notN | with_reducible refine' rv_I ?_ | with_reducible refine' rv_eq ?_ | with_reducible refine' rv_ne ?_ | with_reducible refine' ev_op ?_ ?_ ?_ | with_reducible refine' ev_chain2 ?_ ?_ ?_ ?_ ?_ | with_reducible refine' et_B ?_ | with_reducible refine' et_test ?_ | with_reducible refine' et_and2 ?_ ?_ | with_reducible refine' et_or2 ?_ ?_ | with_reducible refine' et_not ?_ | with_reducible refine' ev_call ?_ ?_ | with_reducible refine' ev_callS ?_ ?_ | with_reducible refine' ev_cb ?_ ?_ | with_reducible exact isi_bool (by assumption) | with_reducible exact isi_int (by assumption) | with_reducible exact isi_list (by assumption) | with_reducible exact rc_len (by assumption) | with_reducible exact rc_sum (by assumption) | with_reducible exact rc_abs | with_reducible exact isi_listL (by assumption) | with_reducible exact isi_intI | with_reducible exact isi_boolI | with_reducible exact rc_lenT (by assumption) | with_reducible exact isi_tup (by assumption) | with_reducible exact rv_eqL (by assumption) (by assumption) | with_reducible exact rv_neL (by assumption) (by assumption) | with_reducible exact rv_neT (by assumption) (by assumption) | with_reducible exact rv_ixL (by assumption) (by assumption) | with_reducible exact rv_ixT (by assumption) (by assumption) | with_reducible refine' ev_din ?_ ?_ (by assumption) | with_reducible refine' ev_dnotin ?_ ?_ (by assumption) | with_reducible refine' ev_dget ?_ ?_ (by assumption) (by assumption) | ((with_reducible show SpV _ _ _ _); assumption) | ((with_reducible show RV _ _ _ _ _); assumption) | ((with_reducible show RC _ _ _ _); assumption) | ((with_reducible show CDiv _ _); exact ⟨by omega, by omega⟩) | ((with_reducible show CMul _ _); first | exact .inl ⟨by omega, by omega⟩ | exact .inr ⟨by omega, by omega⟩) | ((with_reducible show CPow _ _); exact ⟨by omega, by omega, by first | decide | assumption | omega⟩) | ((with_reducible show (0 : Int) < _); omega) | ((with_reducible show (0 : Int) ≤ _); omega) | ((with_reducible show scal _ _ = true); rfl)))) (by (repeat' (first | with_reducible exact ev_c | ((with_reducible show Ev (tVar _) _ _ _); exact ev_var rfl) | with_reducible exact ea_nil | with_reducible exact eo_none | with_reducible refine' ea_cons ?_ ?_ | with_reducible refine' eo_some ?_ | with_reducible refine' ev_and2 ?_ ?_ | with_reducible refine' ev_or2 ?_ ?_ | with_reducible refine' ev_notV ?_ | with_reducible exact ru_I | with_reducible refine' ev_un ?_ ?_ | with_reducible exact rv_I0 | with_reducible exact rv_isN | with_reducible exact rv_notN | with_reducible refine' rv_I ?_ | with_reducible refine' rv_eq ?_ | with_reducible refine' rv_ne ?_ | with_reducible refine' ev_op ?_ ?_ ?_ | with_reducible refine' ev_chain2 ?_ ?_ ?_ ?_ ?_ | with_reducible refine' et_B ?_ | with_reducible refine' et_test ?_ | with_reducible refine' et_and2 ?_ ?_ | with_reducible refine' et_or2 ?_ ?_ | with_reducible refine' et_not ?_ | with_reducible refine' ev_call ?_ ?_ | with_reducible refine' ev_callS ?_ ?_ | with_reducible refine' ev_cb ?_ ?_ | with_reducible exact isi_bool (by assumption) | with_reducible exact isi_int (by assumption) | with_reducible exact isi_list (by assumption) | with_reducible exact rc_len (by assumption) | with_reducible exact rc_sum (by assumption) | with_reducible exact rc_abs | with_reducible exact isi_listL (by assumption) | with_reducible exact isi_intI | with_reducible exact isi_boolI | with_reducible exact rc_lenT (by assumption) | with_reducible exact isi_tup (by assumption) | with_reducible exact rv_eqL (by assumption) (by assumption) | with_reducible exact rv_neL (by assumption) (by assumption) | with_reducible exact rv_neT (by assumption) (by assumption) | with_reducible exact rv_ixL (by assumption) (by assumption) | with_reducible exact rv_ixT (by assumption) (by assumption) | with_reducible refine' ev_din ?_ ?_ (by assumption) | with_reducible refine' ev_dnotin ?_ ?_ (by assumption) | with_reducible refine' ev_dget ?_ ?_ (by assumption) (by assumption) | ((with_reducible show SpV _ _ _ _); assumption) | ((with_reducible show RV _ _ _ _ _); assumption) | ((with_reducible show RC _ _ _ _); assumption) | ((with_reducible show CDiv _ _); exact ⟨by omega, by omega⟩) | ((with_reducible show CMul _ _); first | exact .inl ⟨by omega, by omega⟩ | exact .inr ⟨by omega, by omega⟩) | ((with_reducible show CPow _ _); exact ⟨by omega, by omega, by first | decide | assumption | omega⟩) | ((with_reducible show (0 : Int) < _); omega) | ((with_reducible show (0 : Int) ≤ _); omega) | ((with_reducible show scal _ _ = true); rfl)))) (by (repeat' (first | with_reducible exact ev_c | ((with_reducible show Ev (tVar _) _ _ _); exact ev_var rfl) | with_reducible exact ea_nil | with_reducible exact eo_none | with_reducible refine' ea_cons ?_ ?_ | with_reducible refine' eo_some ?_ | with_reducible refine' ev_and2 ?_ ?_ | with_reducible refine' ev_or2 ?_ ?_ | with_reducible refine' ev_notV ?_ | with_reducible exact ru_I | with_reducible refine' ev_un ?_ ?_ | with_reducible exact rv_I0 | with_reducible exact rv_isN | with_reducible exact rv_notN | with_reducible refine' rv_I ?_ | with_reducible refine' rv_eq ?_ | with_reducible refine' rv_ne ?_ | with_reducible refine' ev_op ?_ ?_ ?_ | with_reducible refine' ev_chain2 ?_ ?_ ?_ ?_ ?_ | with_reducible refine' et_B ?_ | with_reducible refine' et_test ?_ | with_reducible refine' et_and2 ?_ ?_ | with_reducible refine' et_or2 ?_ ?_ | with_reducible refine' et_not ?_ | with_reducible refine' ev_call ?_ ?_ | with_reducible refine' ev_callS ?_ ?_ | with_reducible refine' ev_cb ?_ ?_ | with_reducible exact isi_bool (by assumption) | with_reducible exact isi_int (by assumption) | with_reducible exact isi_list (by assumption) | with_reducible exact rc_len (by assumption) | with_reducible exact rc_sum (by assumption) | with_reducible exact rc_abs | with_reducible exact isi_listL (by assumption) | with_reducible exact isi_intI | with_reducible exact isi_boolI | with_reducible exact rc_lenT (by assumption) | with_reducible exact isi_tup (by assumption) | with_reducible exact rv_eqL (by assumption) (by assumption) | with_reducible exact rv_neL (by assumption) (by assumption) | with_reducible exact rv_neT (by assumption) (by assumption) | with_reducible exact rv_ixL (by assumption) (by assumption) | with_reducible exact rv_ixT (by assumption) (by assumption) | with_reducible refine' ev_din ?_ ?_ (by assumption) | with_reducible refine' ev_dnotin ?_ ?_ (by assumption) | with_reducible refine' ev_dget ?_ ?_ (by assumption) (by assumption) | ((with_reducible show SpV _ _ _ _); assumption) | ((with_reducible show RV _ _ _ _ _); assumption) | ((with_reducible show RC _ _ _ _); assumption) | ((with_reducible show CDiv _ _); exact ⟨by omega, by omega⟩) | ((with_reducible show CMul _ _); first | exact .inl ⟨by omega, by omega⟩ | exact .inr ⟨by omega, by omega⟩) | ((with_reducible show CPow _ _); exact ⟨by omega, by omega, by first | decide | assumption | omega⟩) | ((with_reducible show (0 : Int) < _); omega) | ((with_reducible show (0 : Int) ≤ _); omega) | ((with_reducible show scal _ _ = true); rfl)))) (by rw [List.length_map]; omega) fun H6 e6 => ?_
      refine s_setL (j := o) (xs := (xs.map V.int).set i (.int (xs.getD o 0))) upd_same (v := .int (xs.getD i 0)) (by (repeat' (first | with_reducible exact ev_c | ((with_reducible show Ev (tVar _) _ _ _); exact ev_var rfl) | with_reducible exact ea_nil | with_reducible exact eo_none | with_reducible refine' ea_cons ?_ ?_ | with_reducible refine' eo_some ?_ | with_reducible refine' ev_and2 ?_ ?_ | with_reducible refine' ev_or2 ?_ ?_ | with_reducible refine' ev_notV ?_ | with_reducible exact ru_I | with_reducible refine' ev_un ?_ ?_ | with_reducible exact rv_I0 | with_reducible exact rv_isN | with_reducible exact rv_notN | with_reducible refine' rv_I ?_ | with_reducible refine' rv_eq ?_ | with_reducible refine' rv_ne ?_ | with_reducible refine' ev_op ?_ ?_ ?_ | with_reducible refine' ev_chain2 ?_ ?_ ?_ ?_ ?_ | with_reducible refine' et_B ?_ | with_reducible refine' et_test ?_ | with_reducible refine' et_and2 ?_ ?_ | with_reducible refine' et_or2 ?_ ?_ | with_reducible refine' et_not ?_ | with_reducible refine' ev_call ?_ ?_ | with_reducible refine' ev_callS ?_ ?_ | with_reducible refine' ev_cb ?_ ?_ | with_reducible exact isi_bool (by assumption) | with_reducible exact isi_int (by assumption) | with_reducible exact isi_list (by assumption) | with_reducible exact rc_len (by assumption) | with_reducible exact rc_sum (by assumption) | with_reducible exact rc_abs | with_reducible exact isi_listL (by assumption) | with_reducible exact isi_intI | with_reducible exact isi_boolI | with_reducible exact rc_lenT (by assumption) | with_reducible exact isi_tup (by assumption) | with_reducible exact rv_eqL (by assumption) (by assumption) | with_reducible exact rv_neL (by assumption) (by assumption) | with_reducible exact rv_neT (by assumption) (by assumption) | with_reducible exact rv_ixL (by assumption) (by assumption) | with_reducible exact rv_ixT (by assumption) (by assumption) | with_reducible refine' ev_din ?_ ?_ (by assumption) | with_reducible refine' ev_dnotin ?_ ?_ (by assumption) | with_reducible refine' ev_dget ?_ ?_ (by assumption) (by assumption) | ((with_reducible show SpV _ _ _ _); assumption) | ((with_reducible show RV _ _ _ _ _); assumption) | ((with_reducible show RC _ _ _ _); assumption) | ((with_reducible show CDiv _ _); exact ⟨by omega, by omega⟩) | ((with_reducible show CMul _ _); first | exact .inl ⟨by omega, by omega⟩ | exact .inr ⟨by omega, by omega⟩) | ((with_reducible show CPow _ _); exact ⟨by omega, by omega, by first | decide | assumption | omega⟩) | ((with_reducible show (0 : Int) < _); omega) | ((with_reducible show (0 : Int) ≤ _); omega) | ((with_reducible show scal _ _ = true); rfl)))) (by (repeat' (first | with_reducible exact ev_c | ((with_reducible show Ev (tVar _) _ _ _); exact ev_var rfl) | with_reducible exact ea_nil | with_reducible exact eo_none | with_reducible refine' ea_cons ?_ ?_ | with_reducible refine' eo_some ?_ | with_reducible refine' ev_and2 ?_ ?_ | with_reducible refine' ev_or2 ?_ ?_ | with_reducible refine' ev_notV ?_ | with_reducible exact ru_I | with_reducible refine' ev_un ?_ ?_ | with_reducible exact rv_I0 | with_reducible exact rv_isN | with_reducible exact rv_notN | with_reducible refine' rv_I ?_ | with_reducible refine' rv_eq ?_ | with_reducible refine' rv_ne ?_ | with_reducible refine' ev_op ?_ ?_ ?_ | with_reducible refine' ev_chain2 ?_ ?_ ?_ ?_ ?_ | with_reducible refine' et_B ?_ | with_reducible refine' et_test ?_ | with_reducible refine' et_and2 ?_ ?_ | with_reducible refine' et_or2 ?_ ?_ | with_reducible refine' et_not ?_ | with_reducible refine' ev_call ?_ ?_ | with_reducible refine' ev_callS ?_ ?_ | with_reducible refine' ev_cb ?_ ?_ | with_reducible exact isi_bool (by assumption) | with_reducible exact isi_int (by assumption) | with_reducible exact isi_list (by assumption) | with_reducible exact rc_len (by assumption) | with_reducible exact rc_sum (by assumption) | with_reducible exact rc_abs | with_reducible exact isi_listL (by assumption) | with_reducible exact isi_intI | with_reducible exact isi_boolI | with_reducible exact rc_lenT (by assumption) | with_reducible exact isi_tup (by assumption) | with_reducible exact rv_eqL (by assumption) (by assumption) | with_reducible exact rv_neL (by assumption) (by assumption) | with_reducible exact rv_neT (by assumption) (by assumption) | with_reducible exact rv_ixL (by assumption) (by assumption) | with_reducible exact rv_ixT (by assumption) (by assumption) | with_reducible refine' ev_din ?_ ?_ (by assumption) | with_reducible refine' ev_dnotin ?_ ?_ (by assumption) | with_reducible refine' ev_dget ?_ ?_ (by assumption) (by assumption) | ((with_reducible show SpV _ _ _ _); assumption) | ((with_reducible show RV _ _ _ _ _); assumption) | ((with_reducible show RC _ _ _ _); assumption) | ((with_reducible show CDiv _ _); exact ⟨by omega, by omega⟩) | ((with_reducible show CMul _ _); first | exact .inl ⟨by omega, by omega⟩ | exact .inr ⟨by omega, by omega⟩) | ((with_reducible show CPow _ _); exact ⟨by omega, by omega, by first | decide | assumption | omega⟩) | ((with_reducible show (0 : Int) < _); omega) | ((with_reducible show (0 : Int) ≤ _); omega) | ((with_reducible show scal _ _ = true); rfl)))) (by (repeat' (first | with_reducible exact ev_c | ((with_reducible show Ev (tVar _) _ _ _); exact ev_var rfl) | with_reducible exact ea_nil | with_reducible exact eo_none | with_reducible refine' ea_cons ?_ ?_ | with_reducible refine' eo_some ?_ | with_reducible refine' ev_and2 ?_ ?_ | with_reducible refine' ev_or2 ?_ ?_ | with_reducible refine' ev_notV ?_ | with_reducible exact ru_I | with_reducible refine' ev_un ?_ ?_ | with_reducible exact rv_I0 | with_reducible exact rv_isN | with_reducible exact rv_notN | with_reducible refine' rv_I ?_ | with_reducible refine' rv_eq ?_ | with_reducible refine' rv_ne ?_ | with_reducible refine' ev_op ?_ ?_ ?_ | with_reducible refine' ev_chain2 ?_ ?_ ?_ ?_ ?_ | with_reducible refine' et_B ?_ | with_reducible refine' et_test ?_ | with_reducible refine' et_and2 ?_ ?_ | with_reducible refine' et_or2 ?_ ?_ | with_reducible refine' et_not ?_ | with_reducible refine' ev_call ?_ ?_ | with_reducible refine' ev_callS ?_ ?_ | with_reducible refine' ev_cb ?_ ?_ | with_reducible exact isi_bool (by assumption) | with_reducible exact isi_int (by assumption) | with_reducible exact isi_list (by assumption) | with_reducible exact rc_len (by assumption) | with_reducible exact rc_sum (by assumption) | with_reducible exact rc_abs | with_reducible exact isi_listL (by assumption) | with_reducible exact isi_intI | with_reducible exact isi_boolI | with_reducible exact rc_lenT (by assumption) | with_reducible exact isi_tup (by assumption) | with_reducible exact rv_eqL (by assumption) (by assumption) | with_reducible exact rv_neL (by assumption) (by assumption) | with_reducible exact rv_neT (by assumption) (by assumption) | with_reducible exact rv_ixL (by assumption) (by assumption) | with_reducible exact rv_ixT (by assumption) (by assumption) | with_reducible refine' ev_din ?_ ?_ (by assumption) | with_reducible refine' ev_dnotin ?_ ?_ (by assumption) | with_reducible refine' ev_dget ?_ ?_ (by assumption) (by assumption) | ((with_reducible show SpV _ _ _ _); assumption) | ((with_reducible show RV _ _ _ _ _); assumption) | ((with_reducible show RC _ _ _ _); assumption) | ((with_reducible show CDiv _ _); exact ⟨by omega, by omega⟩) | ((with_reducible show CMul _ _); first | exact .inl ⟨by omega, by omega⟩ | exact .inr ⟨by omega, by omega⟩) | ((with_reducible show CPow _ _); exact ⟨by omega, by omega, by first | decide | assumption | omega⟩) | ((with_reducible show (0 : Int) < _); omega) | ((with_reducible show (0 : Int) ≤ _); omega) | ((with_reducible show scal _ _ = true); rfl)))) (by rw [List.length_set, List.length_map]; omega) fun H7 e7 => ?_
      refine ⟨_, _, _, (xs.set i (xs.getD o 0)).set o (xs.getD i 0), rfl, ?_, ?_, ?_⟩
      · exact Ex.mut ((Ex.mut (((e3.trans e4).trans e5).trans e6) hp).trans e7) hp
      · rw [upd_same, List.map_set, List.map_set]
      · have gi2 : xs.getD i 0 = xs[i]'(by omega) := by rw [List.getD_eq_getElem?_getD, List.getElem?_eq_getElem (by omega)]; rfl
        have go2 : xs.getD o 0 = xs[o]'(by omega) := by rw [List.getD_eq_getElem?_getD, List.getElem?_eq_getElem (by omega)]; rfl
        rw [gi2, go2]
        exact (List.set_set_perm (by omega) (by omega)).trans pm
    · rintro σ' H' ⟨y3, y4, y5, xs, rfl, e3, h3, pm⟩
      exact s_ret (v := .ref p) (by (repeat' (first | with_reducible exact ev_c | ((with_reducible show Ev (tVar _) _ _ _); exact ev_var rfl) | with_reducible exact ea_nil | with_reducible exact eo_none | with_reducible refine' ea_cons ?_ ?_ | with_reducible refine' eo_some ?_ | with_reducible refine' ev_and2 ?_ ?_ | with_reducible refine' ev_or2 ?_ ?_ | with_reducible refine' ev_notV ?_ | with_reducible exact ru_I | with_reducible refine' ev_un ?_ ?_ | with_reducible exact rv_I0 | with_reducible exact rv_isN | with_reducible exact rv_notN | with_reducible refine' rv_I ?_ | with_reducible refine' rv_eq ?_ | with_reducible refine' rv_ne ?_ | with_reducible refine' ev_op ?_ ?_ ?_ | with_reducible refine' ev_chain2 ?_ ?_ ?_ ?_ ?_ | with_reducible refine' et_B ?_ | with_reducible refine' et_test ?_ | with_reducible refine' et_and2 ?_ ?_ | with_reducible refine' et_or2 ?_ ?_ | with_reducible refine' et_not ?_ | with_reducible refine' ev_call ?_ ?_ | with_reducible refine' ev_callS ?_ ?_ | with_reducible refine' ev_cb ?_ ?_ | with_reducible exact isi_bool (by assumption) | with_reducible exact isi_int (by assumption) | with_reducible exact isi_list (by assumption) | with_reducible exact rc_len (by assumption) | with_reducible exact rc_sum (by assumption) | with_reducible exact rc_abs | with_reducible exact isi_listL (by assumption) | with_reducible exact isi_intI | with_reducible exact isi_boolI | with_reducible exact rc_lenT (by assumption) | with_reducible exact isi_tup (by assumption) | with_reducible exact rv_eqL (by assumption) (by assumption) | with_reducible exact rv_neL (by assumption) (by assumption) | with_reducible exact rv_neT (by assumption) (by assumption) | with_reducible exact rv_ixL (by assumption) (by assumption) | with_reducible exact rv_ixT (by assumption) (by assumption) | with_reducible refine' ev_din ?_ ?_ (by assumption) | with_reducible refine' ev_dnotin ?_ ?_ (by assumption) | with_reducible refine' ev_dget ?_ ?_ (by assumption) (by assumption) | ((with_reducible show SpV _ _ _ _); assumption) | ((with_reducible show RV _ _ _ _ _); assumption) | ((with_reducible show RC _ _ _ _); assumption) | ((with_reducible show CDiv _ _); exact ⟨by omega, by omega⟩) | ((with_reducible show CMul _ _); first | exact .inl ⟨by omega, by omega⟩ | exact .inr ⟨by omega, by omega⟩) | ((with_reducible show CPow _ _); exact ⟨by omega, by omega, by first | decide | assumption | omega⟩) | ((with_reducible show (0 : Int) < _); omega) | ((with_reducible show (0 : Int) ≤ _); omega) | ((with_reducible show scal _ _ = true); rfl)))) fun H4 e4 => q xs pm p H4 hp (e3.trans e4) (e4 _ _ h3)

end TB

/-! ### plain mathematics: states under a greatest throw, and shortest ways -/
namespace TB
open PySem PySem.Spec PyProof.Rows L2 Evl
/-- the states behind a throw -/
def succN (m x : Nat) : List Nat := if x % 2 = 0 then [x / 2] else (List.range m).filterMap fun t => if x / 2 ^ (t + 1) % 2 = 0 then some (x / 2 + 2 ^ t) else none
/-- the states ahead of a throw -/
def aheadN (m s : Nat) : List Nat := (if 2 * s < 2 ^ m then [2 * s] else []) ++ (List.range m).filterMap fun t => if s / 2 ^ t % 2 = 1 ∧ 2 * (s - 2 ^ t) + 1 < 2 ^ m then some (2 * (s - 2 ^ t) + 1) else none
def spotsN (s : Nat) : List Nat := (List.range 10).filter fun k => decide (s / 2 ^ k % 2 = 1)
def popN (s : Nat) : Nat := (spotsN s).length
def lowT (x : Nat) : Nat := ((List.range 11).find? fun t => decide (x / 2 ^ (t + 1) % 2 = 0)).getD 0
def downN (x : Nat) : Nat := if x % 2 = 0 then x / 2 else x / 2 + 2 ^ lowT x
def downL : Nat → Nat → List Nat
  | 0, x => [x]
  | n + 1, x => x :: downL n (downN x)
def upL (k : Nat) : Nat → Nat → List Nat → List Nat
  | _, x, [] => [x]
  | i, x, b :: r => x :: upL k (i + 1) (x / 2 + 2 ^ (k - i + b - 1)) r
def chainB (m : Nat) : List Nat → Bool
  | [] => true
  | [_] => true
  | x :: y :: r => (succN m x).contains y && chainB m (y :: r)
def okN (m s : Nat) : Bool :=
  ((aheadN m s).all fun x => decide (x < 2 ^ m) && (decide (popN x = popN s) && (succN m x).contains s)) &&
  (((succN m s).all fun x => decide (x < 2 ^ m) && (decide (popN x = popN s) && (aheadN m x).contains s)) &&
  ((chainB m (downL 9 s) && decide ((downL 9 s).getLastD 0 = 2 ^ popN s - 1)) &&
  (chainB m (upL (popN s) 0 (2 ^ popN s - 1) (spotsN s)) && decide ((upL (popN s) 0 (2 ^ popN s - 1) (spotsN s)).getLastD 0 = s))))
def allN : Bool := (List.range 10).all fun m => (List.range (2 ^ (m + 1))).all fun s => okN (m + 1) s
theorem allN_ok : allN = true := by decide +kernel
end TB

/-! ### plain mathematics: a search by levels tells shortest ways -/
namespace TB
open PySem PySem.Spec PyProof.Rows L2 Evl
theorem ok_at {m s : Nat} (h1 : 1 ≤ m) (h10 : m ≤ 10) (hs : s < 2 ^ m) : okN m s = true := by
  have h := allN_ok
  unfold allN at h
  rw [List.all_eq_true] at h
  have h2 := h (m - 1) (List.mem_range.mpr (by omega))
  rw [List.all_eq_true] at h2
  have h3 := h2 s (List.mem_range.mpr (by rw [show m - 1 + 1 = m by omega]; exact hs))
  rw [show m - 1 + 1 = m by omega] at h3
  exact h3
structure GrOk (m s : Nat) : Prop where
  ah : ∀ x ∈ aheadN m s, x < 2 ^ m ∧ popN x = popN s ∧ s ∈ succN m x
  su : ∀ x ∈ succN m s, x < 2 ^ m ∧ popN x = popN s ∧ s ∈ aheadN m x
  dn : chainB m (downL 9 s) = true ∧ (downL 9 s).getLastD 0 = 2 ^ popN s - 1
  up : chainB m (upL (popN s) 0 (2 ^ popN s - 1) (spotsN s)) = true ∧ (upL (popN s) 0 (2 ^ popN s - 1) (spotsN s)).getLastD 0 = s
theorem gr_ok {m s : Nat} (h1 : 1 ≤ m) (h10 : m ≤ 10) (hs : s < 2 ^ m) : GrOk m s := by
  have h := ok_at h1 h10 hs
  unfold okN at h
  rw [Bool.and_eq_true, Bool.and_eq_true, Bool.and_eq_true, Bool.and_eq_true, Bool.and_eq_true, List.all_eq_true, List.all_eq_true] at h
  obtain ⟨a, b, ⟨c1, c2⟩, d1, d2⟩ := h
  refine ⟨fun x hx => ?_, fun x hx => ?_, ⟨c1, of_decide_eq_true c2⟩, d1, of_decide_eq_true d2⟩
  · have z := a x hx
    rw [Bool.and_eq_true, Bool.and_eq_true] at z
    exact ⟨of_decide_eq_true z.1, of_decide_eq_true z.2.1, by simpa using z.2.2⟩
  · have z := b x hx
    rw [Bool.and_eq_true, Bool.and_eq_true] at z
    exact ⟨of_decide_eq_true z.1, of_decide_eq_true z.2.1, by simpa using z.2.2⟩
inductive Way (m : Nat) : Nat → Nat → Prop
  | refl (a : Nat) : Way m a a
  | step {a b c : Nat} : b ∈ succN m a → Way m b c → Way m a c
theorem Way.trans {m a b c : Nat} (h : Way m a b) (h2 : Way m b c) : Way m a c := by
  induction h with
  | refl => exact h2
  | step e _ ih => exact .step e (ih h2)
theorem chain_way {m : Nat} : ∀ {r : List Nat} {x : Nat}, chainB m (x :: r) = true → Way m x ((x :: r).getLastD 0)
  | [], x, _ => .refl x
  | y :: r, x, h => by
    rw [chainB, Bool.and_eq_true] at h
    have ih := chain_way h.2
    refine .step (by simpa using h.1) ?_
    simpa using ih
theorem downL_cons (n x : Nat) : ∃ r, downL n x = x :: r := by
  cases n with
  | zero => exact ⟨[], rfl⟩
  | succ n => exact ⟨_, rfl⟩
theorem upL_cons (k i x : Nat) (l : List Nat) : ∃ r, upL k i x l = x :: r := by
  cases l with
  | nil => exact ⟨[], rfl⟩
  | cons b r => exact ⟨_, rfl⟩
/-- from each state to each one with as many bits -/
theorem way_all {m s t : Nat} (h1 : 1 ≤ m) (h10 : m ≤ 10) (hs : s < 2 ^ m) (ht : t < 2 ^ m) (hp : popN s = popN t) : Way m s t := by
  obtain ⟨c1, c2⟩ := (gr_ok h1 h10 hs).dn
  obtain ⟨d1, d2⟩ := (gr_ok h1 h10 ht).up
  obtain ⟨r, er⟩ := downL_cons 9 s
  obtain ⟨r2, er2⟩ := upL_cons (popN t) 0 (2 ^ popN t - 1) (spotsN t)
  rw [er] at c1 c2
  rw [er2] at d1 d2
  have w1 := chain_way c1
  have w2 := chain_way d1
  rw [c2, hp] at w1
  rw [d2] at w2
  exact w1.trans w2
abbrev Fars := List (Nat × Nat)
structure Bfs (m s0 i : Nat) (far : Fars) : Prop where
  nd : (far.map Prod.fst).Nodup
  cls : ∀ p ∈ far, p.1 < 2 ^ m ∧ popN p.1 = popN s0 ∧ p.2 ≤ i
  zero : (s0, 0) ∈ far
  one0 : ∀ x, (x, 0) ∈ far → x = s0
  pred : ∀ x v, (x, v + 1) ∈ far → ∃ y, (y, v) ∈ far ∧ x ∈ aheadN m y
def Closed (m : Nat) (far : Fars) (y v : Nat) : Prop := ∀ x ∈ aheadN m y, ∃ w, w ≤ v + 1 ∧ (x, w) ∈ far
theorem Closed.mono {m y v : Nat} {far far' : Fars} (h : Closed m far y v) (k : ∀ p ∈ far, p ∈ far') : Closed m far' y v := fun x hx => by
  obtain ⟨w, h1, h2⟩ := h x hx
  exact ⟨w, h1, k _ h2⟩
/-- ahead of a level -/
structure Lev (m s0 i : Nat) (far : Fars) (border : List Nat) : Prop where
  b : Bfs m s0 i far
  bd : ∀ x, x ∈ border ↔ (x, i) ∈ far
  cl : ∀ y v, (y, v) ∈ far → v < i → Closed m far y v
/-- within a level: j of its states done, of the next one l of those ahead of it -/
structure Mid (m s0 i : Nat) (border : List Nat) (j l : Nat) (far : Fars) (more : List Nat) : Prop where
  b : Bfs m s0 (i + 1) far
  bd : ∀ x, x ∈ border ↔ (x, i) ∈ far
  mr : ∀ x, x ∈ more ↔ (x, i + 1) ∈ far
  cl : ∀ y v, (y, v) ∈ far → v < i → Closed m far y v
  dn : ∀ y ∈ border.take j, Closed m far y i
  on : ∀ y, border[j]? = some y → ∀ x ∈ (aheadN m y).take l, ∃ w, w ≤ i + 1 ∧ (x, w) ∈ far
theorem Lev.begin {m s0 i : Nat} {far : Fars} {border : List Nat} (h : Lev m s0 i far border) : Mid m s0 i border 0 0 far [] := ⟨⟨h.b.nd, fun p hp => by
    have := h.b.cls p hp
    exact ⟨this.1, this.2.1, by omega⟩, h.b.zero, h.b.one0, h.b.pred⟩, h.bd, fun x => ⟨fun z => (nomatch z), fun z => by
    have := (h.b.cls _ z).2.2
    dsimp only at this
    omega⟩, h.cl, fun y hy => by simp at hy, fun y _ x hx => by simp at hx⟩
theorem Mid.finish {m s0 i : Nat} {border : List Nat} {far : Fars} {more : List Nat} (h : Mid m s0 i border border.length 0 far more) : Lev m s0 (i + 1) far more := ⟨h.b, h.mr, fun y v hy hv => by
  rcases Nat.lt_or_ge v i with c | c
  · exact h.cl y v hy c
  · have e : v = i := by omega
    subst e
    refine h.dn y ?_
    rw [List.take_length]
    exact (h.bd y).mpr hy⟩
theorem Mid.next {m s0 i j : Nat} {border : List Nat} {far : Fars} {more : List Nat} {y : Nat} (h : Mid m s0 i border j (aheadN m y).length far more) (hy : border[j]? = some y) : Mid m s0 i border (j + 1) 0 far more := ⟨h.b, h.bd, h.mr, h.cl, fun z hz => by
  rw [List.take_add_one, hy] at hz
  rcases List.mem_append.mp hz with c | c
  · exact h.dn z c
  · have e : z = y := by simpa using c
    subst e
    intro x hx
    exact h.on z hy x (by rw [List.take_length]; exact hx), fun z _ x hx => by simp at hx⟩
theorem key_of {far : Fars} {x : Nat} (h : x ∈ far.map Prod.fst) : ∃ v, (x, v) ∈ far := by
  obtain ⟨p, hp, e⟩ := List.mem_map.mp h
  exact ⟨p.2, by rw [← e]; exact hp⟩
theorem Mid.known {m s0 i j l : Nat} {border : List Nat} {far : Fars} {more : List Nat} {y x : Nat} (h : Mid m s0 i border j l far more) (hy : border[j]? = some y) (hx : (aheadN m y)[l]? = some x) (hk : x ∈ far.map Prod.fst) : Mid m s0 i border j (l + 1) far more := ⟨h.b, h.bd, h.mr, h.cl, h.dn, fun z hz u hu => by
  have e : z = y := by
    rw [hy] at hz
    injection hz with hz
    exact hz.symm
  subst e
  rw [List.take_add_one, hx] at hu
  rcases List.mem_append.mp hu with c | c
  · exact h.on z hy u c
  · have e : u = x := by simpa using c
    subst e
    obtain ⟨v, hv⟩ := key_of hk
    exact ⟨v, (h.b.cls _ hv).2.2, hv⟩⟩
theorem Mid.fresh {m s0 i j l : Nat} (h1 : 1 ≤ m) (h10 : m ≤ 10) {border : List Nat} {far : Fars} {more : List Nat} {y x : Nat} (h : Mid m s0 i border j l far more) (hy : border[j]? = some y) (hx : (aheadN m y)[l]? = some x) (hk : x ∉ far.map Prod.fst) : Mid m s0 i border j (l + 1) (far ++ [(x, i + 1)]) (more ++ [x]) := by
  have hym : y ∈ border := List.mem_of_getElem? hy
  have hyf := (h.bd y).mp hym
  have yc := h.b.cls _ hyf
  have hxa : x ∈ aheadN m y := List.mem_of_getElem? hx
  have xc := (gr_ok h1 h10 yc.1).ah x hxa
  have sub : ∀ p ∈ far, p ∈ far ++ [(x, i + 1)] := fun p hp => List.mem_append_left _ hp
  refine ⟨⟨?_, fun p hp => ?_, sub _ h.b.zero, fun z hz => ?_, fun z v hz => ?_⟩, fun z => ?_, fun z => ?_, fun z v hz hv => ?_, fun z hz => (h.dn z hz).mono sub, fun z hz u hu => ?_⟩
  · rw [List.map_append, List.nodup_append]
    refine ⟨h.b.nd, by simp, fun a ha b hb e => hk ?_⟩
    have : b = x := by simpa using hb
    rw [← this, ← e]
    exact ha
  · rcases List.mem_append.mp hp with c | c
    · exact h.b.cls p c
    · rw [List.mem_singleton.mp c]
      exact ⟨xc.1, xc.2.1.trans yc.2.1, Nat.le_refl _⟩
  · rcases List.mem_append.mp hz with c | c
    · exact h.b.one0 z c
    · have := List.mem_singleton.mp c
      injection this with _ e2
      omega
  · rcases List.mem_append.mp hz with c | c
    · obtain ⟨u, h2, h3⟩ := h.b.pred z v c
      exact ⟨u, sub _ h2, h3⟩
    · have := List.mem_singleton.mp c
      injection this with e1 e2
      have : v = i := by omega
      subst this
      subst e1
      exact ⟨y, sub _ hyf, hxa⟩
  · rw [h.bd z, List.mem_append]
    constructor
    · exact .inl
    · rintro (c | c)
      · exact c
      · have := List.mem_singleton.mp c
        injection this with _ e2
        omega
  · rw [List.mem_append, List.mem_append, h.mr z]
    constructor
    · rintro (c | c)
      · exact .inl c
      · exact .inr (by rw [List.mem_singleton.mp c]; simp)
    · rintro (c | c)
      · exact .inl c
      · have := List.mem_singleton.mp c
        injection this with e1 _
        exact .inr (by rw [e1]; simp)
  · rcases List.mem_append.mp hz with c | c
    · exact (h.cl z v c hv).mono sub
    · have := List.mem_singleton.mp c
      injection this with _ e2
      omega
  · have e : z = y := by
      rw [hy] at hz
      injection hz with hz
      exact hz.symm
    subst e
    rw [List.take_add_one, hx] at hu
    rcases List.mem_append.mp hu with c | c
    · obtain ⟨w, h2, h3⟩ := h.on z hy u c
      exact ⟨w, h2, sub _ h3⟩
    · have e : u = x := by simpa using c
      subst e
      exact ⟨i + 1, Nat.le_refl _, List.mem_append_right _ (by simp)⟩
/-- the states with as many bits, rising -/
def classN (m s0 : Nat) : List Nat := (List.range (2 ^ m)).filter fun x => decide (popN x = popN s0)
theorem mem_class {m s0 x : Nat} : x ∈ classN m s0 ↔ x < 2 ^ m ∧ popN x = popN s0 := by
  unfold classN
  rw [List.mem_filter, List.mem_range, decide_eq_true_iff]
/-- distances -/
structure DistF (m s0 : Nat) (D : Nat → Nat) : Prop where
  zero : D s0 = 0
  only : ∀ x ∈ classN m s0, D x = 0 → x = s0
  near : ∀ x ∈ classN m s0, x ≠ s0 → ∃ y ∈ succN m x, D y + 1 = D x
  far : ∀ x ∈ classN m s0, ∀ y ∈ succN m x, D x ≤ D y + 1
def farD (far : Fars) (x : Nat) : Nat := ((far.find? fun p => decide (p.1 = x)).map Prod.snd).getD 0
theorem farD_of {far : Fars} (hn : (far.map Prod.fst).Nodup) {x v : Nat} (h : (x, v) ∈ far) : farD far x = v := by
  induction far with
  | nil => cases h
  | cons p r ih =>
    rw [List.map_cons, List.nodup_cons] at hn
    unfold farD
    rw [List.find?_cons]
    rcases List.mem_cons.mp h with e | e
    · rw [← e]
      simp
    · have : p.1 ≠ x := fun z => hn.1 (by
        rw [z]
        exact List.mem_map.mpr ⟨_, e, rfl⟩)
      rw [decide_eq_false this]
      exact ih hn.2 e
theorem Lev.done {m s0 i : Nat} (h1 : 1 ≤ m) (h10 : m ≤ 10) {far : Fars} (h : Lev m s0 i far []) (hs : s0 < 2 ^ m) : (∀ x, x ∈ far.map Prod.fst ↔ x ∈ classN m s0) ∧ DistF m s0 (farD far) := by
  have cl : ∀ y v, (y, v) ∈ far → Closed m far y v := fun y v hy => by
    have := (h.b.cls _ hy).2.2
    dsimp only at this
    rcases Nat.lt_or_ge v i with c | c
    · exact h.cl y v hy c
    · have e : v = i := by omega
      subst e
      exact nomatch (h.bd y).mpr hy
  have all : ∀ {x c}, Way m x c → (∃ v, (c, v) ∈ far) → x < 2 ^ m → ∃ v, (x, v) ∈ far := fun {x c} w => by
    induction w with
    | refl => exact fun hc _ => hc
    | step e _ ih =>
      intro hc hx
      have g := (gr_ok h1 h10 hx).su _ e
      obtain ⟨v, hv⟩ := ih hc g.1
      obtain ⟨w, _, hw⟩ := cl _ _ hv _ g.2.2
      exact ⟨w, hw⟩
  have inn : ∀ x ∈ classN m s0, ∃ v, (x, v) ∈ far := fun x hx => by
    obtain ⟨a, b⟩ := mem_class.mp hx
    exact all (way_all h1 h10 a hs b) ⟨0, h.b.zero⟩ a
  refine ⟨fun x => ⟨fun hx => ?_, fun hx => ?_⟩, ⟨farD_of h.b.nd h.b.zero, fun x hx h0 => ?_, fun x hx hne => ?_, fun x hx y hy => ?_⟩⟩
  · obtain ⟨v, hv⟩ := key_of hx
    obtain ⟨a, b, _⟩ := h.b.cls _ hv
    exact mem_class.mpr ⟨a, b⟩
  · obtain ⟨v, hv⟩ := inn x hx
    exact List.mem_map.mpr ⟨_, hv, rfl⟩
  · obtain ⟨v, hv⟩ := inn x hx
    rw [farD_of h.b.nd hv] at h0
    rw [h0] at hv
    exact h.b.one0 x hv
  · obtain ⟨v, hv⟩ := inn x hx
    cases v with
    | zero => exact absurd (h.b.one0 x hv) hne
    | succ v =>
      obtain ⟨y, hy, ha⟩ := h.b.pred x v hv
      have yc := h.b.cls _ hy
      refine ⟨y, ((gr_ok h1 h10 yc.1).ah x ha).2.2, ?_⟩
      rw [farD_of h.b.nd hv, farD_of h.b.nd hy]
  · obtain ⟨v, hv⟩ := inn x hx
    obtain ⟨a, b⟩ := mem_class.mp hx
    have g := (gr_ok h1 h10 a).su y hy
    obtain ⟨u, hu⟩ := inn y (mem_class.mpr ⟨g.1, g.2.1.trans b⟩)
    obtain ⟨w, h2, hw⟩ := cl _ _ hu _ g.2.2
    rw [farD_of h.b.nd hu, farD_of h.b.nd hw]
    exact h2
theorem Bfs.len {m s0 i : Nat} {far : Fars} (h : Bfs m s0 i far) : far.length ≤ 2 ^ m := by
  have : (far.map Prod.fst).length ≤ (List.range (2 ^ m)).length := by
    have key : ∀ {l r : List Nat}, l.Nodup → (∀ x ∈ l, x ∈ r) → l.length ≤ r.length := fun {l} => by
      induction l with
      | nil => intro r _ _; simp
      | cons a l ih =>
        intro r hn hs
        rw [List.nodup_cons] at hn
        have ha : a ∈ r := hs a List.mem_cons_self
        have := ih (r := r.erase a) hn.2 fun x hx => (List.mem_erase_of_ne fun e => hn.1 (by rw [e] at hx; exact hx)).mpr (hs x (List.mem_cons_of_mem _ hx))
        rw [List.length_erase_of_mem ha] at this
        have := List.length_pos_of_mem ha
        rw [List.length_cons]
        omega
    refine key h.nd fun x hx => ?_
    obtain ⟨v, hv⟩ := key_of hx
    exact List.mem_range.mpr (h.cls _ hv).1
  rw [List.length_map, List.length_range] at this
  exact this
theorem lev0 {m s0 : Nat} (hs : s0 < 2 ^ m) : Lev m s0 0 [(s0, 0)] [s0] := by
  have key : ∀ x v, (x, v) ∈ [(s0, 0)] → x = s0 ∧ v = 0 := fun x v h => by
    have := List.mem_singleton.mp h
    injection this with a b
    exact ⟨a, b⟩
  refine ⟨⟨by simp, fun p hp => ?_, by simp, fun x hx => (key _ _ hx).1, fun x v hx => ?_⟩, fun x => ?_, fun y v _ hv => absurd hv (by omega)⟩
  · rw [List.mem_singleton.mp hp]
    exact ⟨hs, rfl, Nat.le_refl _⟩
  · have := (key _ _ hx).2
    omega
  · rw [List.mem_singleton, List.mem_singleton]
    constructor
    · intro e
      rw [e]
    · intro e
      injection e
end TB

/-! ### dicts: sorted keys, a display, keys walked over -/
namespace TB
open PySem PySem.Spec PyProof.Rows L2 Evl
section
variable {X : Cx}
/-- sorted(d), d a dict of whole keys, any number of them -/
def rSortedDA : List V → Hp → VK → Prop := fun xs H Q => ∃ (a : Addr) (kvs : List (Key × V)) (ks : List Int), xs = [.ref a] ∧ Rd H a (.dK kvs) ∧ kvs.map (·.1) = ks.map Sum.inl ∧ ks.length ≤ 100000 ∧
  ∀ (ys : List Int) (p : Addr), ys.Perm ks → ys.Pairwise (· ≤ ·) → H p = none → Q (.ref p) (upd H p (.lst (ys.map V.int)))
theorem cr_sortedDA (hcalm : X.calm = true) : CallR X (.builtin "sorted") rSortedDA := by
  intro pins s σ H xs us Q I r q
  obtain ⟨a, kvs, ks, ex, hd, hks, h64, q⟩ := q
  have hz : ks.length ≤ sizeLine := sz_of h64
  subst ex
  obtain ⟨u, eu, rx⟩ := vals1 r
  subst eu
  cases rx
  obtain ⟨z, lo, vs, rel, dd⟩ := dk_rd I.hok hd
  obtain ⟨ep, hat⟩ := dd.dictAt
  have hkeys : vs.map (·.1) = ks.map Sum.inl := rel.keys.symm.trans hks
  have hl : vs.length = ks.length := by
    have e := congrArg List.length hkeys
    rw [List.length_map, List.length_map] at e
    exact e
  have h16 : vs.length ≤ sizeLine := by rw [hl]; exact hz
  refine Calls.call_function_entry PyProof.Rows.kind_sorted PyProof.Rows.plain_sorted PyProof.Rows.entry_sorted (PyProof.Rows.args_sorted1 _) ?_
  unfold Builtin.«sorted»
  refine wpAny_bind (m := checkCount "sorted" 1 1 _) (wpAny_pure ?_)
  refine wpAny_bind (PySem.W.kdu_collect (A := X.A.in1) (PySem.W.kdl_dict (knd := mixKind X.prog X.w) (kvs := vs) (ep := ep) lo) (I.ok.hd hcalm) hat h16 fun h' tk acc hk hacc => ?_)
  have hal : acc.toList.length = ks.length := by rw [Array.length_toList, hacc.1, hl]
  have hS : IntsAre acc.toList ks := ints_each hal fun j v e => by
    obtain ⟨k, x, e1, e2⟩ := hacc.2 j v (by rw [← Array.getElem?_toList]; exact e)
    have e3 : (vs.map (·.1))[j]? = some k := by rw [List.getElem?_map, e1]; rfl
    rw [hkeys, List.getElem?_map] at e3
    cases e4 : ks[j]? with
    | none => rw [e4] at e3; cases e3
    | some y =>
      rw [e4] at e3
      have e5 : Sum.inl y = k := Option.some.inj e3
      subst e5
      rcases keyIs_shape (show keyIs (Sum.inl y) v = true from e2) with ⟨i, t, ek, ev⟩ | ⟨z, t, ek, ev⟩
      · cases ek
        exact ⟨y, t, rfl, ev⟩
      · cases ek
  have I1 : Inv X pins σ H { s with heap := h', toks := tk } := I.kept hk
  have halz : acc.toList.length ≤ sizeLine := by rw [hal]; exact hz
  refine wpAny_bind (wpAny_newList ?_ halz)
  have hoL : (h'.push (seqObj "list" acc.toList.toArray 0)).get? h'.objs.size = some (seqObj "list" acc.toList.toArray 0) := Heap.get?_push_size _ rfl
  show wpAny _ _ _ _ _ { s with heap := h'.push (seqObj "list" acc.toList.toArray 0), toks := tk }
  refine wpAny_bind (wpAny_holding (wpAny_call_entry PyProof.Rows.slot_list_sort ⟨_, hoL, rfl⟩ PyProof.Rows.entry_list_sort
    (SrtO.list_sort_ord (s := { s with heap := h'.push (seqObj "list" acc.toList.toArray 0), toks := tk }) SrtO.swo_int hoL halz (fun h2 => SrtO.ints_sortable hS h2) fun out h1 h2 => ⟨_, rfl, ?_⟩) (PyProof.Rows.args_list_sort _)))
  obtain ⟨k1, k2, k3⟩ := SrtO.ints_out hS h1 h2
  obtain ⟨e', he'⟩ := PyProof.Rows.sortedHeap_at (vs := acc.toList) (out := out.toArray) hoL
  have hlen : ((out.map SrtO.iv).map V.int).length ≤ sizeLine := by
    rw [List.length_map, k2.length_eq]
    exact hz
  refine wpAny_pure ⟨_, rfl, .ref h'.objs.size, upd H h'.objs.size (.lst ((out.map SrtO.iv).map V.int)), I1.laid (t' := tk) (fun b u e => ?_) (Nat.le_refl _)
    (show ObjOk X.prog X.w _ _ _ (.lst ((out.map SrtO.iv).map V.int)) from ⟨hlen, out, e', vals_of_ints k1, he'⟩), rfl, q _ _ k2 k3 (I1.hok.fresh (Nat.le_refl _))⟩
  have hb : b < h'.objs.size := Heap.lt_size e
  rw [PyProof.Rows.sortedHeap_old (Nat.ne_of_lt hb) (by rw [size_push']; exact Nat.lt_succ_of_lt hb)]
  exact Heap.get?_push_of_some _ e
theorem k_sortedDA (K : PySem.W.Frag) (hcalm : X.calm = true) (h : X.K = K := by rfl) : CallR X (.builtin "sorted") rSortedDA := cr_sortedDA hcalm
end
section
variable {K : PySem.W.Frag} {σ : L2.St} {H H' : Hp} {t1 t2 te tl td : TE} {tt : TT} {tz : TS} {D : Ends}
theorem el_sortedDA {a : Addr} {kvs : List (Key × V)} {ks ys : List Int} (h : Ev te σ H (.ref a)) (hd : H a = some (.dK kvs)) (hk : kvs.map (·.1) = ks.map Sum.inl) (hz : ks.length ≤ 100000) (hu : ∀ zs : List Int, zs.Perm ks → zs.Pairwise (· ≤ ·) → zs = ys) : EvL (tCB rSortedDA (tCons te tNil)) σ H (ys.map V.int) := fun H1 e Q q =>
  h H1 e _ fun H2 e2 => ⟨a, kvs, ks, rfl, .inl ((e.trans e2) _ _ hd), hk, hz, fun zs p h1 h2 hp => by
    rw [hu zs h1 h2]
    exact q p _ (fresh_back e2 hp) (e2.trans (Ex.new hp)) upd_same⟩
/-- {k: v} -/
theorem q_disp1 {i : Nat} {k : Int} {v : V} (h1 : Ev t1 σ H (.int k)) (h2 : Ev t2 σ H v) (k2 : ∀ p H1, H p = none → Ex H H1 → H1 p = some (.dK [(Sum.inl k, v)]) → tz D (σ.set i (some (.ref p))) H1) : tSeq (tAsg (tDisp [(t1, t2)]) (gName i)) tz D σ H := fun p hp => by
  refine h1 _ (Ex.new hp) _ fun H1 e1 => h2 H1 ((Ex.new hp).trans e1) _ fun H2 e2 => ?_
  have e3 : (upd H p (.dK [])) p = some (.dK []) := upd_same
  refine ⟨(e1.trans e2) _ _ e3, [(Sum.inl k, v)], rfl, by simp, ?_⟩
  exact k2 p _ hp (Ex.mut (((Ex.new hp).trans e1).trans e2) hp) upd_same
/-- list(d) -/
theorem el_listD {a : Addr} {kvs : List (Key × V)} (h : Ev te σ H (.ref a)) (hd : H a = some (.dK kvs)) : EvL (tCB (fun xs H Q => ∃ (a : Addr) (kvs : List (Key × V)), xs = [.ref a] ∧ Rd H a (.dK kvs) ∧ ∀ p, H p = none → Q (.ref p) (upd H p (.lst (kvs.map fun kv => kV kv.1)))) (tCons te tNil)) σ H (kvs.map fun kv => kV kv.1) := fun H1 e Q q =>
  h H1 e _ fun H2 e2 => ⟨a, kvs, rfl, .inl ((e.trans e2) _ _ hd), fun p hp => q p _ (fresh_back e2 hp) (e2.trans (Ex.new hp)) upd_same⟩
theorem isi_dict {a : Addr} {kvs : List (Key × V)} (h : H a = some (.dK kvs)) : RC (rIsi K) [.ref a, .ty "dict"] H (.bl true) := fun H1 e Q q =>
  ⟨_, _, _, _, true, rfl, .ty _, .base (.dK (e _ _ h)), kit_ty (by decide +kernel), q H1 (Ex.refl H1)⟩
/-- d.clear() -/
theorem q_dclear {a : Addr} {kvs : List (Key × V)} (h : Ev te σ H (.ref a)) (hd : H a = some (.dK kvs)) (k : ∀ H1, Ex H H1 → tz D σ (upd H1 a (.dK []))) : tSeq (tDrop (tBM0 K "dict" rDClear te)) tz D σ H :=
  h H (Ex.refl H) _ fun H1 e1 => ⟨.inr (.inr (.inl ⟨rfl, .inl ⟨kvs, e1 _ _ hd⟩⟩)), a, kvs, rfl, rfl, e1 _ _ hd, k H1 e1⟩
/-- [e for k in d], e of no heap -/
theorem el_lockKeys {i j : Nat} {vs : List Nat} {d : Addr} {kvs : List (Key × V)} (g : V → V) (hσ : σ[i]? = some (some (.ref d))) (hd : H d = some (.dK kvs)) (hz : kvs.length ≤ 40000) (hw : ∀ x, wipe ((wipe σ vs).set j (some x)) vs = wipe σ vs)
    (he : ∀ kv ∈ kvs, ∀ H1, Ev te ((wipe σ vs).set j (some (kV kv.1))) H1 (g (kV kv.1))) : EvL (tLockE (tLc (iKeys (tVar i)) (gName j) tYes te vs)) σ H (kvs.map fun kv => g (kV kv.1)) := fun H1 e Q q => by
  have hd1 := e _ _ hd
  refine ⟨d, .dK kvs, hd1, trivial, fun od => ⟨.ref d, hσ, d, od, rfl, .inl ⟨kvs, upd_same, fun Dl hDl => ?_⟩⟩⟩
  have hne : d ≠ Dl := fun z => by
    rw [← z, upd_same] at hDl
    cases hDl
  have hD1 : H1 Dl = none := by
    rw [upd_ne hne.symm] at hDl
    exact hDl
  refine lc_it (walk_keys (d := d) (o := od) (kvs := kvs)) (fun n H' => Ex (upd H1 d (.frz od (.dK kvs))) H' ∧ H' Dl = some (.lst ((kvs.take n).map fun kv => g (kV kv.1)))) ⟨Ex.new hDl, upd_same⟩ (fun n H' _ p => p.1 _ _ upd_same) (fun n x H2 H3 hn p y => ?_) (fun H' p => ?_)
  · obtain ⟨rfl, k, v, hk, rfl⟩ := y
    have hm := List.mem_of_getElem? hk
    refine ⟨hw _, ?_⟩
    show te _ _ _
    refine he (k, v) hm H3 H3 (Ex.refl H3) _ fun H4 e4 => ⟨_, e4 _ _ p.2, sz_lt (by rw [List.length_map, List.length_take]; omega), ?_, ?_⟩
    · exact Ex.mut (p.1.trans e4) hDl
    · rw [upd_same, List.take_add_one, hk, List.map_append]
      rfl
  · obtain ⟨p1, p2⟩ := p
    rw [List.take_length] at p2
    have e3 : (upd H1 d (.frz od (.dK kvs))) d = some (.frz od (.dK kvs)) := upd_same
    refine ⟨p1 _ _ e3, q Dl _ hD1 (fun x u hu => ?_) ?_⟩
    · by_cases z : x = d
      · rw [z, upd_same]
        rw [z, hd1] at hu
        exact hu
      · rw [upd_ne z]
        refine p1 _ _ ?_
        rw [upd_ne z]
        exact hu
    · rw [upd_ne hne.symm]
      exact p2
end
end TB

/-! ### check_state, states_ahead -/
namespace TB
open PySem PySem.Spec PyProof.Rows L2 Evl
def bitsB : Bool := (List.range 1024).all fun s => (List.range 10).all fun t => (decide (s &&& 2 ^ t = 0) == decide (s / 2 ^ t % 2 = 0)) && (decide (s / 2 ^ t % 2 = 0) || decide (((s ^^^ 2 ^ t) * 2 ||| 1) = 2 * (s - 2 ^ t) + 1))
theorem bitsB_ok : bitsB = true := by decide +kernel
theorem bits_at {s t : Nat} (hs : s < 1024) (ht : t < 10) : (s &&& 2 ^ t = 0 ↔ s / 2 ^ t % 2 = 0) ∧ (s / 2 ^ t % 2 = 1 → ((s ^^^ 2 ^ t) * 2 ||| 1) = 2 * (s - 2 ^ t) + 1) := by
  have h := bitsB_ok
  unfold bitsB at h
  rw [List.all_eq_true] at h
  have h2 := h s (List.mem_range.mpr hs)
  rw [List.all_eq_true] at h2
  have h3 := h2 t (List.mem_range.mpr ht)
  rw [Bool.and_eq_true, Bool.or_eq_true, decide_eq_true_iff, decide_eq_true_iff] at h3
  refine ⟨?_, fun e => ?_⟩
  · have := h3.1
    rw [beq_iff_eq, decide_eq_decide] at this
    exact this
  · rcases h3.2 with z | z
    · omega
    · exact z
def stOk (s m : V) : Bool := match m with
  | .int k => if 1 ≤ k ∧ k ≤ 10 then inB s 0 (1 * 2 ^ k.toNat - 1) else false
  | _ => false
def csRe (s m : V) : Re := if stOk s m then .val .non else .err "OutOfBounds"
theorem inB_i2 {v : V} {lo hi : Int} (h : inB v lo hi = true) : ∃ x, v = .int x ∧ lo ≤ x ∧ x ≤ hi := by
  cases v with
  | int x =>
    refine ⟨x, rfl, ?_⟩
    simpa [inB] using h
  | _ => cases h
def sp_check_state (K : PySem.W.Frag) : Sp := fun vs H Q E => ∃ s m, vs = [s, m] ∧ Kd H s ∧ Kd H m ∧ Give K (csRe s m) H Q E
theorem sc_check_state : FnScope ["state", "most"] ["state", "most"] (defScope s_check_state) := ⟨rfl, rfl, rfl, by decide +kernel, rfl, by decide +kernel, by decide +kernel⟩
theorem ok_check_state {P : Program} {w : World} {K : PySem.W.Frag} {mg : Str → Option Value} {base : Heap} (T : TXT K mg) : OK P w K mg base "check_state" ["state", "most"] 3 (sp_check_state K) := by
  have O_within := ok_within (P := P) (w := w) (base := base) T
  obtain ⟨fd, F⟩ := T.def_ 3
  refine ⟨_, fd, T.glo 3, F.kp, F.bindsN (fun _ _ _ _ _ _ us hl => match us, hl with | [_, _], _ => rfl), F.ok sc_check_state (fun vs H Q E h => ?_) (fun cdv A outer s H vs Q E hr h => ?_), F.bindsA (fun _ _ _ _ _ _ us hl => match us, hl with | [_, _], _ => rfl)⟩
  · first | (obtain ⟨rfl, _⟩ := h; rfl) | (obtain ⟨_, rfl, _⟩ := h; rfl) | (obtain ⟨_, _, rfl, _⟩ := h; rfl) | (obtain ⟨_, _, _, rfl, _⟩ := h; rfl) | (obtain ⟨_, _, _, _, rfl, _⟩ := h; rfl) | (obtain ⟨_, _, _, _, _, rfl, _⟩ := h; rfl) | (obtain ⟨_, _, _, _, _, _, rfl, _⟩ := h; rfl) | (obtain ⟨_, _, _, _, _, _, _, rfl, _⟩ := h; rfl) | (obtain ⟨_, _, _, _, _, _, _, _, rfl, _⟩ := h; rfl)
  · replace F : FunD K "check_state" "check_state" (defArgs s_check_state) (defBody s_check_state) (defScope s_check_state) [] [] (He.ga K "check_state") fd := F
    refine ⟨_, (pss_one (ps_if (PW.pt (pw_or (pt_not (pt_val (pe_own O_within (hr.mono (by decide)) (by rfl) (passes_call (takes_of rfl rfl rfl rfl) (fun _ _ _ _ h => h)) (pa_cons (pv 1) (pa_cons pe_int (pa_cons pe_int pa_nil)))))) (pw_or1 (pt_not (pt_val (pe_own O_within (hr.mono (by decide)) (by rfl) (passes_call (takes_of rfl rfl rfl rfl) (fun _ _ _ _ h => h)) (pa_cons (pv 0) (pa_cons pe_int (pa_cons (pe_op op_sub (pe_op op_shl pe_int (pv 1)) pe_int) pa_nil)))))))))
        (pss_one (ps_raise rfl (takes_of rfl rfl rfl rfl) (pmk_ex (T.fact 27) (T.glo 18))))
        pss_nil)), ?_⟩
    obtain ⟨s, m, rfl, hs, hm, q⟩ := h
    dsimp only [cxOf, L2.start, List.map_cons, List.map_nil, List.length_cons, List.length_nil, Nat.reduceAdd, Nat.reduceSub, List.replicate_succ, List.replicate_zero, List.cons_append, List.nil_append, Nat.zero_add, List.reduceReplicate, List.map]
    have wm := sv_within (lo := 1) (hi := 10) hm
    by_cases h1 : inB m 1 10 = true
    case neg =>
      have h1 : inB m 1 10 = false := by simpa using h1
      have e0 : stOk s m = false := by
        cases m with
        | int k =>
          have : ¬ (1 ≤ k ∧ k ≤ 10) := fun z => by
            simp only [inB, Bool.and_eq_false_iff, decide_eq_false_iff_not] at h1
            omega
          show (if 1 ≤ k ∧ k ≤ 10 then inB s 0 (1 * 2 ^ k.toNat - 1) else false) = false
          rw [if_neg this]
        | _ => rfl
      have e : csRe s m = .err "OutOfBounds" := by
        unfold csRe
        rw [e0]
        rfl
      rw [e] at q
      exact s_when (b := true) (et_is (et_or (a := !inB m 1 10) (b := false) (by (repeat' (first | with_reducible exact ev_c | ((with_reducible show Ev (tVar _) _ _ _); exact ev_var rfl) | with_reducible exact ea_nil | with_reducible exact eo_none | with_reducible refine' ea_cons ?_ ?_ | with_reducible refine' eo_some ?_ | with_reducible refine' ev_and2 ?_ ?_ | with_reducible refine' ev_or2 ?_ ?_ | with_reducible refine' ev_notV ?_ | with_reducible exact ru_I | with_reducible refine' ev_un ?_ ?_ | with_reducible exact rv_I0 | with_reducible exact rv_isN | with_reducible exact rv_notN | with_reducible refine' rv_I ?_ | with_reducible refine' rv_eq ?_ | with_reducible refine' rv_ne ?_ | with_reducible refine' ev_op ?_ ?_ ?_ | with_reducible refine' ev_chain2 ?_ ?_ ?_ ?_ ?_ | with_reducible refine' et_B ?_ | with_reducible refine' et_test ?_ | with_reducible refine' et_and2 ?_ ?_ | with_reducible refine' et_or2 ?_ ?_ | with_reducible refine' et_not ?_ | with_reducible refine' ev_call ?_ ?_ | with_reducible refine' ev_callS ?_ ?_ | with_reducible refine' ev_cb ?_ ?_ | with_reducible exact isi_bool (by assumption) | with_reducible exact isi_int (by assumption) | with_reducible exact isi_list (by assumption) | with_reducible exact rc_len (by assumption) | with_reducible exact rc_sum (by assumption) | with_reducible exact rc_abs | with_reducible exact isi_listL (by assumption) | with_reducible exact isi_intI | with_reducible exact isi_boolI | with_reducible exact rc_lenT (by assumption) | with_reducible exact isi_tup (by assumption) | with_reducible exact rv_eqL (by assumption) (by assumption) | with_reducible exact rv_neL (by assumption) (by assumption) | with_reducible exact rv_neT (by assumption) (by assumption) | with_reducible exact rv_ixL (by assumption) (by assumption) | with_reducible exact rv_ixT (by assumption) (by assumption) | with_reducible refine' ev_din ?_ ?_ (by assumption) | with_reducible refine' ev_dnotin ?_ ?_ (by assumption) | with_reducible refine' ev_dget ?_ ?_ (by assumption) (by assumption) | ((with_reducible show SpV _ _ _ _); assumption) | ((with_reducible show RV _ _ _ _ _); assumption) | ((with_reducible show RC _ _ _ _); assumption) | ((with_reducible show CDiv _ _); exact ⟨by omega, by omega⟩) | ((with_reducible show CMul _ _); first | exact .inl ⟨by omega, by omega⟩ | exact .inr ⟨by omega, by omega⟩) | ((with_reducible show CPow _ _); exact ⟨by omega, by omega, by first | decide | assumption | omega⟩) | ((with_reducible show (0 : Int) < _); omega) | ((with_reducible show (0 : Int) ≤ _); omega) | ((with_reducible show scal _ _ = true); rfl)))) (fun h => by rw [h1] at h; cases h)) (by rw [h1]; rfl)) (fun _ H2 e2 => q H2 e2) (fun h => by cases h)
    obtain ⟨k, rfl, k1, k2⟩ := inB_i2 h1
    have ws := sv_within (lo := 0) (hi := 1 * 2 ^ k.toNat - 1) hs
    have e : csRe s (.int k) = if inB s 0 (1 * 2 ^ k.toNat - 1) = true then .val .non else .err "OutOfBounds" := by
      have e0 : stOk s (.int k) = inB s 0 (1 * 2 ^ k.toNat - 1) := by
        show (if 1 ≤ k ∧ k ≤ 10 then inB s 0 (1 * 2 ^ k.toNat - 1) else false) = _
        rw [if_pos ⟨k1, k2⟩]
      unfold csRe
      rw [e0]
    rw [e] at q
    refine s_when (b := !inB (.int k) 1 10 || !inB s 0 (1 * 2 ^ k.toNat - 1)) (by (repeat' (first | with_reducible exact ev_c | ((with_reducible show Ev (tVar _) _ _ _); exact ev_var rfl) | with_reducible exact ea_nil | with_reducible exact eo_none | with_reducible refine' ea_cons ?_ ?_ | with_reducible refine' eo_some ?_ | with_reducible refine' ev_and2 ?_ ?_ | with_reducible refine' ev_or2 ?_ ?_ | with_reducible refine' ev_notV ?_ | with_reducible exact ru_I | with_reducible refine' ev_un ?_ ?_ | with_reducible exact rv_I0 | with_reducible exact rv_isN | with_reducible exact rv_notN | with_reducible refine' rv_I ?_ | with_reducible refine' rv_eq ?_ | with_reducible refine' rv_ne ?_ | with_reducible refine' ev_op ?_ ?_ ?_ | with_reducible refine' ev_chain2 ?_ ?_ ?_ ?_ ?_ | with_reducible refine' et_B ?_ | with_reducible refine' et_test ?_ | with_reducible refine' et_and2 ?_ ?_ | with_reducible refine' et_or2 ?_ ?_ | with_reducible refine' et_not ?_ | with_reducible refine' ev_call ?_ ?_ | with_reducible refine' ev_callS ?_ ?_ | with_reducible refine' ev_cb ?_ ?_ | with_reducible exact isi_bool (by assumption) | with_reducible exact isi_int (by assumption) | with_reducible exact isi_list (by assumption) | with_reducible exact rc_len (by assumption) | with_reducible exact rc_sum (by assumption) | with_reducible exact rc_abs | with_reducible exact isi_listL (by assumption) | with_reducible exact isi_intI | with_reducible exact isi_boolI | with_reducible exact rc_lenT (by assumption) | with_reducible exact isi_tup (by assumption) | with_reducible exact rv_eqL (by assumption) (by assumption) | with_reducible exact rv_neL (by assumption) (by assumption) | with_reducible exact rv_neT (by assumption) (by assumption) | with_reducible exact rv_ixL (by assumption) (by assumption) | with_reducible exact rv_ixT (by assumption) (by assumption) | with_reducible refine' ev_din ?_ ?_ (by assumption) | with_reducible refine' ev_dnotin ?_ ?_ (by assumption) | with_reducible refine' ev_dget ?_ ?_ (by assumption) (by assumption) | ((with_reducible show SpV _ _ _ _); assumption) | ((with_reducible show RV _ _ _ _ _); assumption) | ((with_reducible show RC _ _ _ _); assumption) | ((with_reducible show CDiv _ _); exact ⟨by omega, by omega⟩) | ((with_reducible show CMul _ _); first | exact .inl ⟨by omega, by omega⟩ | exact .inr ⟨by omega, by omega⟩) | ((with_reducible show CPow _ _); exact ⟨by omega, by omega, by first | decide | assumption | omega⟩) | ((with_reducible show (0 : Int) < _); omega) | ((with_reducible show (0 : Int) ≤ _); omega) | ((with_reducible show scal _ _ = true); rfl)))) (fun hb H2 e2 => ?_) (fun hb H2 e2 => ?_)
    · rw [h1] at hb
      have hb : inB s 0 (1 * 2 ^ k.toNat - 1) = false := by simpa using hb
      rw [hb] at q
      exact q H2 e2
    · rw [h1] at hb
      have hb : inB s 0 (1 * 2 ^ k.toNat - 1) = true := by simpa using hb
      rw [hb, if_pos rfl] at q
      exact q H2 e2

def ntV (l : List Nat) : List V := l.map fun k : Nat => V.int (k : Int)
def aheadT (m s t : Nat) : Option Nat := if s / 2 ^ t % 2 = 1 ∧ 2 * (s - 2 ^ t) + 1 < 2 ^ m then some (2 * (s - 2 ^ t) + 1) else none
def sp_states_ahead (K : PySem.W.Frag) : Sp := fun vs H Q E => ∃ (s m : Nat), vs = [.int (s : Int), .int (m : Int)] ∧ 1 ≤ m ∧ m ≤ 10 ∧ s < 2 ^ m ∧ RetL (ntV (aheadN m s)) H Q
theorem two_pow_nat (m : Nat) : (1 : Int) * 2 ^ (m : Int).toNat = ((2 ^ m : Nat) : Int) := by
  rw [Int.one_mul, Int.toNat_natCast, Int.natCast_pow]
  rfl
theorem pow_le10 {m : Nat} (h : m ≤ 10) : 2 ^ m ≤ 1024 := by
  have := Nat.pow_le_pow_right (show 0 < 2 by decide) h
  exact this
theorem sc_states_ahead : FnScope ["state", "most", "found", "throw", "bit", "one"] ["state", "most"] (defScope s_states_ahead) := ⟨rfl, rfl, rfl, by decide +kernel, rfl, by decide +kernel, by decide +kernel⟩
theorem ok_states_ahead {P : Program} {w : World} {K : PySem.W.Frag} {mg : Str → Option Value} {base : Heap} (T : TXT K mg) : OK P w K mg base "states_ahead" ["state", "most"] 1 (sp_states_ahead K) := by
  obtain ⟨fd, F⟩ := T.def_ 4
  refine ⟨_, fd, T.glo 4, F.kp, F.bindsN (fun _ _ _ _ _ _ us hl => match us, hl with | [_, _], _ => rfl), F.ok sc_states_ahead (fun vs H Q E h => ?_) (fun cdv A outer s H vs Q E hr h => ?_), F.bindsA (fun _ _ _ _ _ _ us hl => match us, hl with | [_, _], _ => rfl)⟩
  · first | (obtain ⟨rfl, _⟩ := h; rfl) | (obtain ⟨_, rfl, _⟩ := h; rfl) | (obtain ⟨_, _, rfl, _⟩ := h; rfl) | (obtain ⟨_, _, _, rfl, _⟩ := h; rfl) | (obtain ⟨_, _, _, _, rfl, _⟩ := h; rfl) | (obtain ⟨_, _, _, _, _, rfl, _⟩ := h; rfl) | (obtain ⟨_, _, _, _, _, _, rfl, _⟩ := h; rfl) | (obtain ⟨_, _, _, _, _, _, _, rfl, _⟩ := h; rfl) | (obtain ⟨_, _, _, _, _, _, _, _, rfl, _⟩ := h; rfl)
  · replace F : FunD K "states_ahead" "states_ahead" (defArgs s_states_ahead) (defBody s_states_ahead) (defScope s_states_ahead) [] [] (He.ga K "states_ahead") fd := F
    refine ⟨_, (pss_cons (ps_set (i := 2) sc_states_ahead.nd rfl (Or.inl rfl) (pe_lst pa_nil))
      (pss_cons (ps_if (pt_cmpR op_lt (pe_op op_shl (pv 0) pe_int) (pe_op op_shl pe_int (pv 1)) (nomark _))
        (pss_one (ps_expr (pe_bm PySem.F.plainAttrs_list PySem.F.slot_list_append PySem.F.type_list_append mt_append (pv 2) (pa_cons (pe_op op_shl (pv 0) pe_int) pa_nil))))
        pss_nil)
      (pss_cons (ps_for (passes_of rfl) rfl (pi_range2 (by rfl) (T.free 24) (pa_cons pe_int (pa_cons (pe_op op_add (pv 1) pe_int) pa_nil))) (pg_name (i := 3) sc_states_ahead.nd rfl (Or.inl rfl))
        (pss_cons (ps_set (i := 4) sc_states_ahead.nd rfl (Or.inl rfl) (pe_op op_shl pe_int (pe_op op_sub (pv 3) pe_int)))
      (pss_cons (ps_set (i := 5) sc_states_ahead.nd rfl (Or.inl rfl) (pe_op op_or (pe_op op_shl (pe_op op_xor (pv 0) (pv 4)) pe_int) pe_int))
      (pss_one (ps_if (PW.pt (pw_and (pt_cmpR op_ne (pe_op op_and (pv 0) (pv 4)) pe_int (nomark _)) (pw_and1 (pt_cmpR op_lt (pv 5) (pe_op op_shl pe_int (pv 1)) (nomark _)))))
        (pss_one (ps_expr (pe_bm PySem.F.plainAttrs_list PySem.F.slot_list_append PySem.F.type_list_append mt_append (pv 2) (pa_cons (pv 5) pa_nil))))
        pss_nil)))))
      (pss_one (ps_ret (pv 2)))))), ?_⟩
    obtain ⟨s, m, rfl, h1, h10, hs, q⟩ := h
    dsimp only [cxOf, L2.start, List.map_cons, List.map_nil, List.length_cons, List.length_nil, Nat.reduceAdd, Nat.reduceSub, List.replicate_succ, List.replicate_zero, List.cons_append, List.nil_append, Nat.zero_add, List.reduceReplicate, List.map]
    have p10 := pow_le10 h10
    have hs10 : s < 1024 := by omega
    refine q_asgL (xs := []) (el_lst ea_nil (by decide)) fun l H1 hl e1 h1l => ?_
    have e2s : (s : Int) * 2 ^ (1 : Int).toNat = ((2 * s : Nat) : Int) := by
      rw [show (2 : Int) ^ (1 : Int).toNat = 2 by decide]
      omega
    have tp := two_pow_nat m
    have sa : (s : Int).natAbs < 2 ^ 64 := by
      rw [Int.natAbs_natCast]
      omega
    refine q_key (M := fun σ' H' => σ' = [some (V.int (s : Int)), some (V.int (m : Int)), some (V.ref l), none, none, none] ∧ Ex H H' ∧ H' l = some (.lst (ntV (if 2 * s < 2 ^ m then [2 * s] else [])))) ?_ ?_
    case refine_2 =>
      intro key
      refine q_when (b := decide ((s : Int) * 2 ^ (1 : Int).toNat < 1 * 2 ^ (m : Int).toNat)) (by (repeat' (first | with_reducible exact ev_c | ((with_reducible show Ev (tVar _) _ _ _); exact ev_var rfl) | with_reducible exact ea_nil | with_reducible exact eo_none | with_reducible refine' ea_cons ?_ ?_ | with_reducible refine' eo_some ?_ | with_reducible refine' ev_and2 ?_ ?_ | with_reducible refine' ev_or2 ?_ ?_ | with_reducible refine' ev_notV ?_ | with_reducible exact ru_I | with_reducible refine' ev_un ?_ ?_ | with_reducible exact rv_I0 | with_reducible exact rv_isN | with_reducible exact rv_notN | with_reducible refine' rv_I ?_ | with_reducible refine' rv_eq ?_ | with_reducible refine' rv_ne ?_ | with_reducible refine' ev_op ?_ ?_ ?_ | with_reducible refine' ev_chain2 ?_ ?_ ?_ ?_ ?_ | with_reducible refine' et_B ?_ | with_reducible refine' et_test ?_ | with_reducible refine' et_and2 ?_ ?_ | with_reducible refine' et_or2 ?_ ?_ | with_reducible refine' et_not ?_ | with_reducible refine' ev_call ?_ ?_ | with_reducible refine' ev_callS ?_ ?_ | with_reducible refine' ev_cb ?_ ?_ | with_reducible exact isi_bool (by assumption) | with_reducible exact isi_int (by assumption) | with_reducible exact isi_list (by assumption) | with_reducible exact rc_len (by assumption) | with_reducible exact rc_sum (by assumption) | with_reducible exact rc_abs | with_reducible exact isi_listL (by assumption) | with_reducible exact isi_intI | with_reducible exact isi_boolI | with_reducible exact rc_lenT (by assumption) | with_reducible exact isi_tup (by assumption) | with_reducible exact rv_eqL (by assumption) (by assumption) | with_reducible exact rv_neL (by assumption) (by assumption) | with_reducible exact rv_neT (by assumption) (by assumption) | with_reducible exact rv_ixL (by assumption) (by assumption) | with_reducible exact rv_ixT (by assumption) (by assumption) | with_reducible refine' ev_din ?_ ?_ (by assumption) | with_reducible refine' ev_dnotin ?_ ?_ (by assumption) | with_reducible refine' ev_dget ?_ ?_ (by assumption) (by assumption) | ((with_reducible show SpV _ _ _ _); assumption) | ((with_reducible show RV _ _ _ _ _); assumption) | ((with_reducible show RC _ _ _ _); assumption) | ((with_reducible show CDiv _ _); exact ⟨by omega, by omega⟩) | ((with_reducible show CMul _ _); first | exact .inl ⟨by omega, by omega⟩ | exact .inr ⟨by omega, by omega⟩) | ((with_reducible show CPow _ _); exact ⟨by omega, by omega, by first | decide | assumption | omega⟩) | ((with_reducible show (0 : Int) < _); omega) | ((with_reducible show (0 : Int) ≤ _); omega) | ((with_reducible show scal _ _ = true); rfl)))) (fun hb H2 e2 => ?_) (fun hb H2 e2 => ?_)
      · have hb := of_decide_eq_true hb
        rw [e2s, tp] at hb
        refine s_app (xs := []) (v := .int ((s : Int) * 2 ^ (1 : Int).toNat)) (e2 _ _ h1l) (by (repeat' (first | with_reducible exact ev_c | ((with_reducible show Ev (tVar _) _ _ _); exact ev_var rfl) | with_reducible exact ea_nil | with_reducible exact eo_none | with_reducible refine' ea_cons ?_ ?_ | with_reducible refine' eo_some ?_ | with_reducible refine' ev_and2 ?_ ?_ | with_reducible refine' ev_or2 ?_ ?_ | with_reducible refine' ev_notV ?_ | with_reducible exact ru_I | with_reducible refine' ev_un ?_ ?_ | with_reducible exact rv_I0 | with_reducible exact rv_isN | with_reducible exact rv_notN | with_reducible refine' rv_I ?_ | with_reducible refine' rv_eq ?_ | with_reducible refine' rv_ne ?_ | with_reducible refine' ev_op ?_ ?_ ?_ | with_reducible refine' ev_chain2 ?_ ?_ ?_ ?_ ?_ | with_reducible refine' et_B ?_ | with_reducible refine' et_test ?_ | with_reducible refine' et_and2 ?_ ?_ | with_reducible refine' et_or2 ?_ ?_ | with_reducible refine' et_not ?_ | with_reducible refine' ev_call ?_ ?_ | with_reducible refine' ev_callS ?_ ?_ | with_reducible refine' ev_cb ?_ ?_ | with_reducible exact isi_bool (by assumption) | with_reducible exact isi_int (by assumption) | with_reducible exact isi_list (by assumption) | with_reducible exact rc_len (by assumption) | with_reducible exact rc_sum (by assumption) | with_reducible exact rc_abs | with_reducible exact isi_listL (by assumption) | with_reducible exact isi_intI | with_reducible exact isi_boolI | with_reducible exact rc_lenT (by assumption) | with_reducible exact isi_tup (by assumption) | with_reducible exact rv_eqL (by assumption) (by assumption) | with_reducible exact rv_neL (by assumption) (by assumption) | with_reducible exact rv_neT (by assumption) (by assumption) | with_reducible exact rv_ixL (by assumption) (by assumption) | with_reducible exact rv_ixT (by assumption) (by assumption) | with_reducible refine' ev_din ?_ ?_ (by assumption) | with_reducible refine' ev_dnotin ?_ ?_ (by assumption) | with_reducible refine' ev_dget ?_ ?_ (by assumption) (by assumption) | ((with_reducible show SpV _ _ _ _); assumption) | ((with_reducible show RV _ _ _ _ _); assumption) | ((with_reducible show RC _ _ _ _); assumption) | ((with_reducible show CDiv _ _); exact ⟨by omega, by omega⟩) | ((with_reducible show CMul _ _); first | exact .inl ⟨by omega, by omega⟩ | exact .inr ⟨by omega, by omega⟩) | ((with_reducible show CPow _ _); exact ⟨by omega, by omega, by first | decide | assumption | omega⟩) | ((with_reducible show (0 : Int) < _); omega) | ((with_reducible show (0 : Int) ≤ _); omega) | ((with_reducible show scal _ _ = true); rfl)))) (by (repeat' (first | with_reducible exact ev_c | ((with_reducible show Ev (tVar _) _ _ _); exact ev_var rfl) | with_reducible exact ea_nil | with_reducible exact eo_none | with_reducible refine' ea_cons ?_ ?_ | with_reducible refine' eo_some ?_ | with_reducible refine' ev_and2 ?_ ?_ | with_reducible refine' ev_or2 ?_ ?_ | with_reducible refine' ev_notV ?_ | with_reducible exact ru_I | with_reducible refine' ev_un ?_ ?_ | with_reducible exact rv_I0 | with_reducible exact rv_isN | with_reducible exact rv_notN | with_reducible refine' rv_I ?_ | with_reducible refine' rv_eq ?_ | with_reducible refine' rv_ne ?_ | with_reducible refine' ev_op ?_ ?_ ?_ | with_reducible refine' ev_chain2 ?_ ?_ ?_ ?_ ?_ | with_reducible refine' et_B ?_ | with_reducible refine' et_test ?_ | with_reducible refine' et_and2 ?_ ?_ | with_reducible refine' et_or2 ?_ ?_ | with_reducible refine' et_not ?_ | with_reducible refine' ev_call ?_ ?_ | with_reducible refine' ev_callS ?_ ?_ | with_reducible refine' ev_cb ?_ ?_ | with_reducible exact isi_bool (by assumption) | with_reducible exact isi_int (by assumption) | with_reducible exact isi_list (by assumption) | with_reducible exact rc_len (by assumption) | with_reducible exact rc_sum (by assumption) | with_reducible exact rc_abs | with_reducible exact isi_listL (by assumption) | with_reducible exact isi_intI | with_reducible exact isi_boolI | with_reducible exact rc_lenT (by assumption) | with_reducible exact isi_tup (by assumption) | with_reducible exact rv_eqL (by assumption) (by assumption) | with_reducible exact rv_neL (by assumption) (by assumption) | with_reducible exact rv_neT (by assumption) (by assumption) | with_reducible exact rv_ixL (by assumption) (by assumption) | with_reducible exact rv_ixT (by assumption) (by assumption) | with_reducible refine' ev_din ?_ ?_ (by assumption) | with_reducible refine' ev_dnotin ?_ ?_ (by assumption) | with_reducible refine' ev_dget ?_ ?_ (by assumption) (by assumption) | ((with_reducible show SpV _ _ _ _); assumption) | ((with_reducible show RV _ _ _ _ _); assumption) | ((with_reducible show RC _ _ _ _); assumption) | ((with_reducible show CDiv _ _); exact ⟨by omega, by omega⟩) | ((with_reducible show CMul _ _); first | exact .inl ⟨by omega, by omega⟩ | exact .inr ⟨by omega, by omega⟩) | ((with_reducible show CPow _ _); exact ⟨by omega, by omega, by first | decide | assumption | omega⟩) | ((with_reducible show (0 : Int) < _); omega) | ((with_reducible show (0 : Int) ≤ _); omega) | ((with_reducible show scal _ _ = true); rfl)))) (by decide) fun H3 e3 => key _ _ ⟨rfl, Ex.mut ((e1.trans e2).trans e3) hl, ?_⟩
        rw [upd_same, if_pos (by omega), e2s]
        rfl
      · have hb := of_decide_eq_false hb
        rw [e2s, tp] at hb
        refine key _ _ ⟨rfl, e1.trans e2, ?_⟩
        rw [if_neg (by omega)]
        exact e2 _ _ h1l
    rintro σ' H' ⟨rfl, e2, h2⟩
    have hr : ∀ n, ntV ((if 2 * s < 2 ^ m then [2 * s] else []) ++ (List.range (n + 1)).filterMap (aheadT m s)) = ntV ((if 2 * s < 2 ^ m then [2 * s] else []) ++ (List.range n).filterMap (aheadT m s)) ++ (match aheadT m s n with
      | some x => [V.int (x : Int)]
      | none => []) := fun n => by
      unfold ntV
      rw [List.range_succ, List.filterMap_append, ← List.append_assoc, List.map_append]
      congr 1
      rw [List.filterMap_cons, List.filterMap_nil]
      cases aheadT m s n <;> rfl
    have hlen : ∀ n, n ≤ m → (ntV ((if 2 * s < 2 ^ m then [2 * s] else []) ++ (List.range n).filterMap (aheadT m s))).length ≤ 11 := fun n hn => by
      unfold ntV
      rw [List.length_map, List.length_append]
      have a : (if 2 * s < 2 ^ m then [2 * s] else []).length ≤ 1 := by split <;> simp
      have b := List.length_filterMap_le (aheadT m s) (List.range n)
      rw [List.length_range] at b
      omega
    refine q_forR2 (lo := 1) (n := (m : Int) + 1) (by (repeat' (first | with_reducible exact ev_c | ((with_reducible show Ev (tVar _) _ _ _); exact ev_var rfl) | with_reducible exact ea_nil | with_reducible exact eo_none | with_reducible refine' ea_cons ?_ ?_ | with_reducible refine' eo_some ?_ | with_reducible refine' ev_and2 ?_ ?_ | with_reducible refine' ev_or2 ?_ ?_ | with_reducible refine' ev_notV ?_ | with_reducible exact ru_I | with_reducible refine' ev_un ?_ ?_ | with_reducible exact rv_I0 | with_reducible exact rv_isN | with_reducible exact rv_notN | with_reducible refine' rv_I ?_ | with_reducible refine' rv_eq ?_ | with_reducible refine' rv_ne ?_ | with_reducible refine' ev_op ?_ ?_ ?_ | with_reducible refine' ev_chain2 ?_ ?_ ?_ ?_ ?_ | with_reducible refine' et_B ?_ | with_reducible refine' et_test ?_ | with_reducible refine' et_and2 ?_ ?_ | with_reducible refine' et_or2 ?_ ?_ | with_reducible refine' et_not ?_ | with_reducible refine' ev_call ?_ ?_ | with_reducible refine' ev_callS ?_ ?_ | with_reducible refine' ev_cb ?_ ?_ | with_reducible exact isi_bool (by assumption) | with_reducible exact isi_int (by assumption) | with_reducible exact isi_list (by assumption) | with_reducible exact rc_len (by assumption) | with_reducible exact rc_sum (by assumption) | with_reducible exact rc_abs | with_reducible exact isi_listL (by assumption) | with_reducible exact isi_intI | with_reducible exact isi_boolI | with_reducible exact rc_lenT (by assumption) | with_reducible exact isi_tup (by assumption) | with_reducible exact rv_eqL (by assumption) (by assumption) | with_reducible exact rv_neL (by assumption) (by assumption) | with_reducible exact rv_neT (by assumption) (by assumption) | with_reducible exact rv_ixL (by assumption) (by assumption) | with_reducible exact rv_ixT (by assumption) (by assumption) | with_reducible refine' ev_din ?_ ?_ (by assumption) | with_reducible refine' ev_dnotin ?_ ?_ (by assumption) | with_reducible refine' ev_dget ?_ ?_ (by assumption) (by assumption) | ((with_reducible show SpV _ _ _ _); assumption) | ((with_reducible show RV _ _ _ _ _); assumption) | ((with_reducible show RC _ _ _ _); assumption) | ((with_reducible show CDiv _ _); exact ⟨by omega, by omega⟩) | ((with_reducible show CMul _ _); first | exact .inl ⟨by omega, by omega⟩ | exact .inr ⟨by omega, by omega⟩) | ((with_reducible show CPow _ _); exact ⟨by omega, by omega, by first | decide | assumption | omega⟩) | ((with_reducible show (0 : Int) < _); omega) | ((with_reducible show (0 : Int) ≤ _); omega) | ((with_reducible show scal _ _ = true); rfl)))) (by omega) (fun n σ' H' => ∃ (y3 y4 y5 : Option V), σ' = [some (V.int (s : Int)), some (V.int (m : Int)), some (V.ref l), y3, y4, y5] ∧ Ex H H' ∧ H' l = some (.lst (ntV ((if 2 * s < 2 ^ m then [2 * s] else []) ++ (List.range n).filterMap (aheadT m s))))) (fun H3 e3 => ⟨_, _, _, rfl, e2.trans e3, by
      rw [List.range_zero, List.filterMap_nil, List.append_nil]
      exact e3 _ _ h2⟩) ?_ ?_
    · rintro n σ' H3 hn ⟨y3, y4, y5, rfl, e3, h3⟩
      have hn' : n < m := by omega
      have tn : (1 : Int) * 2 ^ (1 + (n : Int) - 1).toNat = ((2 ^ n : Nat) : Int) := by
        rw [show (1 + (n : Int) - 1).toNat = n by omega, Int.one_mul, Int.natCast_pow]
        rfl
      have hrn := hr n
      have hl11 := hlen n (by omega)
      refine q_asg (v := .int ((2 ^ n : Nat) : Int)) (ev_is (v := .int (1 * 2 ^ (1 + (n : Int) - 1).toNat)) (by (repeat' (first | with_reducible exact ev_c | ((with_reducible show Ev (tVar _) _ _ _); exact ev_var rfl) | with_reducible exact ea_nil | with_reducible exact eo_none | with_reducible refine' ea_cons ?_ ?_ | with_reducible refine' eo_some ?_ | with_reducible refine' ev_and2 ?_ ?_ | with_reducible refine' ev_or2 ?_ ?_ | with_reducible refine' ev_notV ?_ | with_reducible exact ru_I | with_reducible refine' ev_un ?_ ?_ | with_reducible exact rv_I0 | with_reducible exact rv_isN | with_reducible exact rv_notN | with_reducible refine' rv_I ?_ | with_reducible refine' rv_eq ?_ | with_reducible refine' rv_ne ?_ | with_reducible refine' ev_op ?_ ?_ ?_ | with_reducible refine' ev_chain2 ?_ ?_ ?_ ?_ ?_ | with_reducible refine' et_B ?_ | with_reducible refine' et_test ?_ | with_reducible refine' et_and2 ?_ ?_ | with_reducible refine' et_or2 ?_ ?_ | with_reducible refine' et_not ?_ | with_reducible refine' ev_call ?_ ?_ | with_reducible refine' ev_callS ?_ ?_ | with_reducible refine' ev_cb ?_ ?_ | with_reducible exact isi_bool (by assumption) | with_reducible exact isi_int (by assumption) | with_reducible exact isi_list (by assumption) | with_reducible exact rc_len (by assumption) | with_reducible exact rc_sum (by assumption) | with_reducible exact rc_abs | with_reducible exact isi_listL (by assumption) | with_reducible exact isi_intI | with_reducible exact isi_boolI | with_reducible exact rc_lenT (by assumption) | with_reducible exact isi_tup (by assumption) | with_reducible exact rv_eqL (by assumption) (by assumption) | with_reducible exact rv_neL (by assumption) (by assumption) | with_reducible exact rv_neT (by assumption) (by assumption) | with_reducible exact rv_ixL (by assumption) (by assumption) | with_reducible exact rv_ixT (by assumption) (by assumption) | with_reducible refine' ev_din ?_ ?_ (by assumption) | with_reducible refine' ev_dnotin ?_ ?_ (by assumption) | with_reducible refine' ev_dget ?_ ?_ (by assumption) (by assumption) | ((with_reducible show SpV _ _ _ _); assumption) | ((with_reducible show RV _ _ _ _ _); assumption) | ((with_reducible show RC _ _ _ _); assumption) | ((with_reducible show CDiv _ _); exact ⟨by omega, by omega⟩) | ((with_reducible show CMul _ _); first | exact .inl ⟨by omega, by omega⟩ | exact .inr ⟨by omega, by omega⟩) | ((with_reducible show CPow _ _); exact ⟨by omega, by omega, by first | decide | assumption | omega⟩) | ((with_reducible show (0 : Int) < _); omega) | ((with_reducible show (0 : Int) ≤ _); omega) | ((with_reducible show scal _ _ = true); rfl)))) (congrArg V.int tn)) fun H4 e4 => ?_
      obtain ⟨b1, b2⟩ := bits_at hs10 (show n < 10 by omega)
      have x1 : Builtin.bitXor (s : Int) ((2 ^ n : Nat) : Int) = ((s ^^^ 2 ^ n : Nat) : Int) := by
        rw [Bits.bitXor_pp (Int.natCast_nonneg _) (Int.natCast_nonneg _), Int.toNat_natCast, Int.toNat_natCast]
      have x2 : Builtin.bitOr (Builtin.bitXor (s : Int) ((2 ^ n : Nat) : Int) * 2 ^ (1 : Int).toNat) 1 = (((s ^^^ 2 ^ n) * 2 ||| 1 : Nat) : Int) := by
        rw [x1, show (2 : Int) ^ (1 : Int).toNat = 2 by decide, show ((s ^^^ 2 ^ n : Nat) : Int) * 2 = (((s ^^^ 2 ^ n) * 2 : Nat) : Int) by omega, Bits.bitOr_pp (Int.natCast_nonneg _) (by decide), Int.toNat_natCast]
        rfl
      have x3 : Builtin.bitAnd (s : Int) ((2 ^ n : Nat) : Int) = ((s &&& 2 ^ n : Nat) : Int) := by
        rw [PyProof.Rows.bitAnd_pp (Int.natCast_nonneg _) (Int.natCast_nonneg _), Int.toNat_natCast, Int.toNat_natCast]
      have x4 : (Builtin.bitXor (s : Int) ((2 ^ n : Nat) : Int)).natAbs < 2 ^ 64 := by
        rw [x1, Int.natAbs_natCast]
        have a : s < 2 ^ 10 := by omega
        have b : 2 ^ n < 2 ^ 10 := Nat.pow_lt_pow_right (by decide) (by omega)
        have := Nat.xor_lt_two_pow a b
        omega
      refine q_asg (v := .int (((s ^^^ 2 ^ n) * 2 ||| 1 : Nat) : Int)) (ev_is (by (repeat' (first | with_reducible exact ev_c | ((with_reducible show Ev (tVar _) _ _ _); exact ev_var rfl) | with_reducible exact ea_nil | with_reducible exact eo_none | with_reducible refine' ea_cons ?_ ?_ | with_reducible refine' eo_some ?_ | with_reducible refine' ev_and2 ?_ ?_ | with_reducible refine' ev_or2 ?_ ?_ | with_reducible refine' ev_notV ?_ | with_reducible exact ru_I | with_reducible refine' ev_un ?_ ?_ | with_reducible exact rv_I0 | with_reducible exact rv_isN | with_reducible exact rv_notN | with_reducible refine' rv_I ?_ | with_reducible refine' rv_eq ?_ | with_reducible refine' rv_ne ?_ | with_reducible refine' ev_op ?_ ?_ ?_ | with_reducible refine' ev_chain2 ?_ ?_ ?_ ?_ ?_ | with_reducible refine' et_B ?_ | with_reducible refine' et_test ?_ | with_reducible refine' et_and2 ?_ ?_ | with_reducible refine' et_or2 ?_ ?_ | with_reducible refine' et_not ?_ | with_reducible refine' ev_call ?_ ?_ | with_reducible refine' ev_callS ?_ ?_ | with_reducible refine' ev_cb ?_ ?_ | with_reducible exact isi_bool (by assumption) | with_reducible exact isi_int (by assumption) | with_reducible exact isi_list (by assumption) | with_reducible exact rc_len (by assumption) | with_reducible exact rc_sum (by assumption) | with_reducible exact rc_abs | with_reducible exact isi_listL (by assumption) | with_reducible exact isi_intI | with_reducible exact isi_boolI | with_reducible exact rc_lenT (by assumption) | with_reducible exact isi_tup (by assumption) | with_reducible exact rv_eqL (by assumption) (by assumption) | with_reducible exact rv_neL (by assumption) (by assumption) | with_reducible exact rv_neT (by assumption) (by assumption) | with_reducible exact rv_ixL (by assumption) (by assumption) | with_reducible exact rv_ixT (by assumption) (by assumption) | with_reducible refine' ev_din ?_ ?_ (by assumption) | with_reducible refine' ev_dnotin ?_ ?_ (by assumption) | with_reducible refine' ev_dget ?_ ?_ (by assumption) (by assumption) | ((with_reducible show SpV _ _ _ _); assumption) | ((with_reducible show RV _ _ _ _ _); assumption) | ((with_reducible show RC _ _ _ _); assumption) | ((with_reducible show CDiv _ _); exact ⟨by omega, by omega⟩) | ((with_reducible show CMul _ _); first | exact .inl ⟨by omega, by omega⟩ | exact .inr ⟨by omega, by omega⟩) | ((with_reducible show CPow _ _); exact ⟨by omega, by omega, by first | decide | assumption | omega⟩) | ((with_reducible show (0 : Int) < _); omega) | ((with_reducible show (0 : Int) ≤ _); omega) | ((with_reducible show scal _ _ = true); rfl)))) (congrArg V.int x2)) fun H5 e5 => ?_
      refine s_when (b := !decide (V.int (Builtin.bitAnd (s : Int) ((2 ^ n : Nat) : Int)) = V.int 0) && decide ((((s ^^^ 2 ^ n) * 2 ||| 1 : Nat) : Int) < 1 * 2 ^ (m : Int).toNat)) (by (repeat' (first | with_reducible exact ev_c | ((with_reducible show Ev (tVar _) _ _ _); exact ev_var rfl) | with_reducible exact ea_nil | with_reducible exact eo_none | with_reducible refine' ea_cons ?_ ?_ | with_reducible refine' eo_some ?_ | with_reducible refine' ev_and2 ?_ ?_ | with_reducible refine' ev_or2 ?_ ?_ | with_reducible refine' ev_notV ?_ | with_reducible exact ru_I | with_reducible refine' ev_un ?_ ?_ | with_reducible exact rv_I0 | with_reducible exact rv_isN | with_reducible exact rv_notN | with_reducible refine' rv_I ?_ | with_reducible refine' rv_eq ?_ | with_reducible refine' rv_ne ?_ | with_reducible refine' ev_op ?_ ?_ ?_ | with_reducible refine' ev_chain2 ?_ ?_ ?_ ?_ ?_ | with_reducible refine' et_B ?_ | with_reducible refine' et_test ?_ | with_reducible refine' et_and2 ?_ ?_ | with_reducible refine' et_or2 ?_ ?_ | with_reducible refine' et_not ?_ | with_reducible refine' ev_call ?_ ?_ | with_reducible refine' ev_callS ?_ ?_ | with_reducible refine' ev_cb ?_ ?_ | with_reducible exact isi_bool (by assumption) | with_reducible exact isi_int (by assumption) | with_reducible exact isi_list (by assumption) | with_reducible exact rc_len (by assumption) | with_reducible exact rc_sum (by assumption) | with_reducible exact rc_abs | with_reducible exact isi_listL (by assumption) | with_reducible exact isi_intI | with_reducible exact isi_boolI | with_reducible exact rc_lenT (by assumption) | with_reducible exact isi_tup (by assumption) | with_reducible exact rv_eqL (by assumption) (by assumption) | with_reducible exact rv_neL (by assumption) (by assumption) | with_reducible exact rv_neT (by assumption) (by assumption) | with_reducible exact rv_ixL (by assumption) (by assumption) | with_reducible exact rv_ixT (by assumption) (by assumption) | with_reducible refine' ev_din ?_ ?_ (by assumption) | with_reducible refine' ev_dnotin ?_ ?_ (by assumption) | with_reducible refine' ev_dget ?_ ?_ (by assumption) (by assumption) | ((with_reducible show SpV _ _ _ _); assumption) | ((with_reducible show RV _ _ _ _ _); assumption) | ((with_reducible show RC _ _ _ _); assumption) | ((with_reducible show CDiv _ _); exact ⟨by omega, by omega⟩) | ((with_reducible show CMul _ _); first | exact .inl ⟨by omega, by omega⟩ | exact .inr ⟨by omega, by omega⟩) | ((with_reducible show CPow _ _); exact ⟨by omega, by omega, by first | decide | assumption | omega⟩) | ((with_reducible show (0 : Int) < _); omega) | ((with_reducible show (0 : Int) ≤ _); omega) | ((with_reducible show scal _ _ = true); rfl)))) (fun hb H6 e6 => ?_) (fun hb H6 e6 => ?_)
      · rw [Bool.and_eq_true, Bool.not_eq_true', decide_eq_false_iff_not, decide_eq_true_iff, tp, x3] at hb
        have hset : s / 2 ^ n % 2 = 1 := by
          have : ¬ s / 2 ^ n % 2 = 0 := fun z => hb.1 (by
            rw [b1.mpr z]
            rfl)
          omega
        have v2 := b2 hset
        have ha : aheadT m s n = some (2 * (s - 2 ^ n) + 1) := by
          unfold aheadT
          rw [if_pos ⟨hset, by omega⟩]
        rw [ha] at hrn
        refine s_app (v := .int (((s ^^^ 2 ^ n) * 2 ||| 1 : Nat) : Int)) (((e4.trans e5).trans e6) _ _ h3) (by (repeat' (first | with_reducible exact ev_c | ((with_reducible show Ev (tVar _) _ _ _); exact ev_var rfl) | with_reducible exact ea_nil | with_reducible exact eo_none | with_reducible refine' ea_cons ?_ ?_ | with_reducible refine' eo_some ?_ | with_reducible refine' ev_and2 ?_ ?_ | with_reducible refine' ev_or2 ?_ ?_ | with_reducible refine' ev_notV ?_ | with_reducible exact ru_I | with_reducible refine' ev_un ?_ ?_ | with_reducible exact rv_I0 | with_reducible exact rv_isN | with_reducible exact rv_notN | with_reducible refine' rv_I ?_ | with_reducible refine' rv_eq ?_ | with_reducible refine' rv_ne ?_ | with_reducible refine' ev_op ?_ ?_ ?_ | with_reducible refine' ev_chain2 ?_ ?_ ?_ ?_ ?_ | with_reducible refine' et_B ?_ | with_reducible refine' et_test ?_ | with_reducible refine' et_and2 ?_ ?_ | with_reducible refine' et_or2 ?_ ?_ | with_reducible refine' et_not ?_ | with_reducible refine' ev_call ?_ ?_ | with_reducible refine' ev_callS ?_ ?_ | with_reducible refine' ev_cb ?_ ?_ | with_reducible exact isi_bool (by assumption) | with_reducible exact isi_int (by assumption) | with_reducible exact isi_list (by assumption) | with_reducible exact rc_len (by assumption) | with_reducible exact rc_sum (by assumption) | with_reducible exact rc_abs | with_reducible exact isi_listL (by assumption) | with_reducible exact isi_intI | with_reducible exact isi_boolI | with_reducible exact rc_lenT (by assumption) | with_reducible exact isi_tup (by assumption) | with_reducible exact rv_eqL (by assumption) (by assumption) | with_reducible exact rv_neL (by assumption) (by assumption) | with_reducible exact rv_neT (by assumption) (by assumption) | with_reducible exact rv_ixL (by assumption) (by assumption) | with_reducible exact rv_ixT (by assumption) (by assumption) | with_reducible refine' ev_din ?_ ?_ (by assumption) | with_reducible refine' ev_dnotin ?_ ?_ (by assumption) | with_reducible refine' ev_dget ?_ ?_ (by assumption) (by assumption) | ((with_reducible show SpV _ _ _ _); assumption) | ((with_reducible show RV _ _ _ _ _); assumption) | ((with_reducible show RC _ _ _ _); assumption) | ((with_reducible show CDiv _ _); exact ⟨by omega, by omega⟩) | ((with_reducible show CMul _ _); first | exact .inl ⟨by omega, by omega⟩ | exact .inr ⟨by omega, by omega⟩) | ((with_reducible show CPow _ _); exact ⟨by omega, by omega, by first | decide | assumption | omega⟩) | ((with_reducible show (0 : Int) < _); omega) | ((with_reducible show (0 : Int) ≤ _); omega) | ((with_reducible show scal _ _ = true); rfl)))) (by (repeat' (first | with_reducible exact ev_c | ((with_reducible show Ev (tVar _) _ _ _); exact ev_var rfl) | with_reducible exact ea_nil | with_reducible exact eo_none | with_reducible refine' ea_cons ?_ ?_ | with_reducible refine' eo_some ?_ | with_reducible refine' ev_and2 ?_ ?_ | with_reducible refine' ev_or2 ?_ ?_ | with_reducible refine' ev_notV ?_ | with_reducible exact ru_I | with_reducible refine' ev_un ?_ ?_ | with_reducible exact rv_I0 | with_reducible exact rv_isN | with_reducible exact rv_notN | with_reducible refine' rv_I ?_ | with_reducible refine' rv_eq ?_ | with_reducible refine' rv_ne ?_ | with_reducible refine' ev_op ?_ ?_ ?_ | with_reducible refine' ev_chain2 ?_ ?_ ?_ ?_ ?_ | with_reducible refine' et_B ?_ | with_reducible refine' et_test ?_ | with_reducible refine' et_and2 ?_ ?_ | with_reducible refine' et_or2 ?_ ?_ | with_reducible refine' et_not ?_ | with_reducible refine' ev_call ?_ ?_ | with_reducible refine' ev_callS ?_ ?_ | with_reducible refine' ev_cb ?_ ?_ | with_reducible exact isi_bool (by assumption) | with_reducible exact isi_int (by assumption) | with_reducible exact isi_list (by assumption) | with_reducible exact rc_len (by assumption) | with_reducible exact rc_sum (by assumption) | with_reducible exact rc_abs | with_reducible exact isi_listL (by assumption) | with_reducible exact isi_intI | with_reducible exact isi_boolI | with_reducible exact rc_lenT (by assumption) | with_reducible exact isi_tup (by assumption) | with_reducible exact rv_eqL (by assumption) (by assumption) | with_reducible exact rv_neL (by assumption) (by assumption) | with_reducible exact rv_neT (by assumption) (by assumption) | with_reducible exact rv_ixL (by assumption) (by assumption) | with_reducible exact rv_ixT (by assumption) (by assumption) | with_reducible refine' ev_din ?_ ?_ (by assumption) | with_reducible refine' ev_dnotin ?_ ?_ (by assumption) | with_reducible refine' ev_dget ?_ ?_ (by assumption) (by assumption) | ((with_reducible show SpV _ _ _ _); assumption) | ((with_reducible show RV _ _ _ _ _); assumption) | ((with_reducible show RC _ _ _ _); assumption) | ((with_reducible show CDiv _ _); exact ⟨by omega, by omega⟩) | ((with_reducible show CMul _ _); first | exact .inl ⟨by omega, by omega⟩ | exact .inr ⟨by omega, by omega⟩) | ((with_reducible show CPow _ _); exact ⟨by omega, by omega, by first | decide | assumption | omega⟩) | ((with_reducible show (0 : Int) < _); omega) | ((with_reducible show (0 : Int) ≤ _); omega) | ((with_reducible show scal _ _ = true); rfl)))) (by omega) fun H7 e7 => ⟨some (V.int (1 + (n : Int))), _, _, rfl, Ex.mut ((((e3.trans e4).trans e5).trans e6).trans e7) hl, ?_⟩
        rw [upd_same, hrn, v2]
      · rw [Bool.and_eq_false_iff, Bool.not_eq_false', decide_eq_true_iff, decide_eq_false_iff_not, tp, x3] at hb
        have ha : aheadT m s n = none := by
          unfold aheadT
          rw [if_neg]
          rintro ⟨z1, z2⟩
          rcases hb with c | c
          · injection c with c
            have : s &&& 2 ^ n = 0 := by omega
            have := b1.mp this
            omega
          · rw [b2 z1] at c
            omega
        rw [ha, List.append_nil] at hrn
        refine ⟨some (V.int (1 + (n : Int))), _, _, rfl, ((e3.trans e4).trans e5).trans e6, ?_⟩
        rw [hrn]
        exact ((e4.trans e5).trans e6) _ _ h3
    · rintro σ' H3 ⟨y3, y4, y5, rfl, e3, h3⟩
      rw [show ((m : Int) + 1 - 1).toNat = m by omega] at h3
      exact s_ret (v := .ref l) (by (repeat' (first | with_reducible exact ev_c | ((with_reducible show Ev (tVar _) _ _ _); exact ev_var rfl) | with_reducible exact ea_nil | with_reducible exact eo_none | with_reducible refine' ea_cons ?_ ?_ | with_reducible refine' eo_some ?_ | with_reducible refine' ev_and2 ?_ ?_ | with_reducible refine' ev_or2 ?_ ?_ | with_reducible refine' ev_notV ?_ | with_reducible exact ru_I | with_reducible refine' ev_un ?_ ?_ | with_reducible exact rv_I0 | with_reducible exact rv_isN | with_reducible exact rv_notN | with_reducible refine' rv_I ?_ | with_reducible refine' rv_eq ?_ | with_reducible refine' rv_ne ?_ | with_reducible refine' ev_op ?_ ?_ ?_ | with_reducible refine' ev_chain2 ?_ ?_ ?_ ?_ ?_ | with_reducible refine' et_B ?_ | with_reducible refine' et_test ?_ | with_reducible refine' et_and2 ?_ ?_ | with_reducible refine' et_or2 ?_ ?_ | with_reducible refine' et_not ?_ | with_reducible refine' ev_call ?_ ?_ | with_reducible refine' ev_callS ?_ ?_ | with_reducible refine' ev_cb ?_ ?_ | with_reducible exact isi_bool (by assumption) | with_reducible exact isi_int (by assumption) | with_reducible exact isi_list (by assumption) | with_reducible exact rc_len (by assumption) | with_reducible exact rc_sum (by assumption) | with_reducible exact rc_abs | with_reducible exact isi_listL (by assumption) | with_reducible exact isi_intI | with_reducible exact isi_boolI | with_reducible exact rc_lenT (by assumption) | with_reducible exact isi_tup (by assumption) | with_reducible exact rv_eqL (by assumption) (by assumption) | with_reducible exact rv_neL (by assumption) (by assumption) | with_reducible exact rv_neT (by assumption) (by assumption) | with_reducible exact rv_ixL (by assumption) (by assumption) | with_reducible exact rv_ixT (by assumption) (by assumption) | with_reducible refine' ev_din ?_ ?_ (by assumption) | with_reducible refine' ev_dnotin ?_ ?_ (by assumption) | with_reducible refine' ev_dget ?_ ?_ (by assumption) (by assumption) | ((with_reducible show SpV _ _ _ _); assumption) | ((with_reducible show RV _ _ _ _ _); assumption) | ((with_reducible show RC _ _ _ _); assumption) | ((with_reducible show CDiv _ _); exact ⟨by omega, by omega⟩) | ((with_reducible show CMul _ _); first | exact .inl ⟨by omega, by omega⟩ | exact .inr ⟨by omega, by omega⟩) | ((with_reducible show CPow _ _); exact ⟨by omega, by omega, by first | decide | assumption | omega⟩) | ((with_reducible show (0 : Int) < _); omega) | ((with_reducible show (0 : Int) ≤ _); omega) | ((with_reducible show scal _ _ = true); rfl)))) fun H4 e4 => q l H4 hl (e3.trans e4) (e4 _ _ h3)

end TB

/-! ### distances -/
namespace TB
open PySem PySem.Spec PyProof.Rows L2 Evl
theorem sorted_eq : ∀ {l m : List Int}, l.Perm m → l.Pairwise (· ≤ ·) → m.Pairwise (· ≤ ·) → l = m
  | [], m, h, _, _ => h.nil_eq
  | a :: r, m, h, h1, h2 => by
    cases m with
    | nil => exact absurd h.length_eq (by simp)
    | cons b t =>
      have e : a = b := by
        have ha := h.mem_iff.mp (List.mem_cons_self (a := a) (l := r))
        have hb := h.mem_iff.mpr (List.mem_cons_self (a := b) (l := t))
        rcases List.mem_cons.mp ha with ha | ha
        · exact ha
        · rcases List.mem_cons.mp hb with hb | hb
          · exact hb.symm
          · have z1 := (List.pairwise_cons.mp h1).1 b hb
            have z2 := (List.pairwise_cons.mp h2).1 a ha
            omega
      subst e
      rw [sorted_eq ((List.perm_cons a).mp h) (List.pairwise_cons.mp h1).2 (List.pairwise_cons.mp h2).2]
/-- a dict of states and distances -/
def kvF (far : Fars) : List (Key × V) := far.map fun p => (Sum.inl (p.1 : Int), V.int (p.2 : Int))
theorem kvF_len (far : Fars) : (kvF far).length = far.length := by simp [kvF]
theorem kvF_keys (far : Fars) : (kvF far).map (·.1) = ((far.map Prod.fst).map fun x : Nat => (x : Int)).map Sum.inl := by
  unfold kvF
  rw [List.map_map, List.map_map, List.map_map]
  rfl
theorem kvF_val : ∀ (far : Fars) (x : Nat), valV (kvF far) (Sum.inl (x : Int) : Key) = (far.find? fun p => decide (p.1 = x)).map fun p => V.int (p.2 : Int)
  | [], _ => rfl
  | p :: r, x => by
    have ih := kvF_val r x
    unfold kvF at ih ⊢
    rw [List.map_cons, List.find?_cons]
    by_cases e : p.1 = x
    · rw [valV_pos (by rw [e]), decide_eq_true e]
      rfl
    · rw [valV_neg (fun z => e (by have := Sum.inl.inj z; omega)), ih, decide_eq_false e]
theorem kvF_at {far : Fars} (hn : (far.map Prod.fst).Nodup) {x v : Nat} (h : (x, v) ∈ far) : valV (kvF far) (Sum.inl (x : Int) : Key) = some (V.int (v : Int)) := by
  rw [kvF_val]
  cases e : far.find? fun p => decide (p.1 = x) with
  | none =>
    rw [List.find?_eq_none] at e
    exact absurd (decide_eq_true rfl) (e (x, v) h)
  | some p =>
    have h1 := List.find?_some e
    have h2 := List.mem_of_find?_eq_some e
    have hp : p.1 = x := of_decide_eq_true h1
    have e1 := farD_of hn h
    have e2 := farD_of hn (show (x, p.2) ∈ far by rw [← hp]; exact h2)
    rw [e1] at e2
    rw [Option.map_some, e2]
theorem kvF_in (far : Fars) (x : Nat) : (valV (kvF far) (Sum.inl (x : Int) : Key)).isSome = decide (x ∈ far.map Prod.fst) := by
  rw [kvF_val, Option.isSome_map, Bool.eq_iff_iff, decide_eq_true_iff, List.find?_isSome]
  constructor
  · rintro ⟨p, hp, e⟩
    exact List.mem_map.mpr ⟨p, hp, of_decide_eq_true e⟩
  · intro h
    obtain ⟨p, hp, e⟩ := List.mem_map.mp h
    exact ⟨p, hp, decide_eq_true e⟩
theorem kvF_put {far : Fars} {x v : Nat} (h : x ∉ far.map Prod.fst) : putK (kvF far) (Sum.inl (x : Int) : Key) (V.int (v : Int)) = kvF (far ++ [(x, v)]) := by
  have z := kvF_in far x
  rw [decide_eq_false h] at z
  rw [putK_new]
  · unfold kvF
    rw [List.map_append]
    rfl
  · cases hv : valV (kvF far) (Sum.inl (x : Int) : Key) with
    | none => rfl
    | some v => rw [hv] at z; cases z
def farC (m s0 : Nat) (D : Nat → Nat) : Fars := (classN m s0).map fun x => (x, D x)
def RetD (m s0 : Nat) (H : Hp) (Q : VK) : Prop := ∀ p D H2, H p = none → Ex H H2 → H2 p = some (.dK (kvF (farC m s0 D))) → DistF m s0 D → Q (.ref p) H2
def sp_distances (K : PySem.W.Frag) : Sp := fun vs H Q E => ∃ s m, vs = [s, m] ∧ Kd H s ∧ Kd H m ∧ (stOk s m = false → Give K (.err "OutOfBounds") H Q E) ∧ ∀ a k : Nat, s = .int (a : Int) → m = .int (k : Int) → 1 ≤ k → k ≤ 10 → a < 2 ^ k → RetD k a H Q
theorem stOk_nat {s m : V} (h : stOk s m = true) : ∃ a k : Nat, s = .int (a : Int) ∧ m = .int (k : Int) ∧ 1 ≤ k ∧ k ≤ 10 ∧ a < 2 ^ k := by
  cases m with
  | int k =>
    have h : (if 1 ≤ k ∧ k ≤ 10 then inB s 0 (1 * 2 ^ k.toNat - 1) else false) = true := h
    by_cases c : 1 ≤ k ∧ k ≤ 10
    · rw [if_pos c] at h
      obtain ⟨x, rfl, x0, x1⟩ := inB_i2 h
      obtain ⟨n, rfl⟩ : ∃ n : Nat, k = (n : Int) := ⟨k.toNat, by omega⟩
      rw [two_pow_nat] at x1
      exact ⟨x.toNat, n, congrArg V.int (by omega), rfl, by omega, by omega, by omega⟩
    · rw [if_neg c] at h
      cases h
  | _ => cases h
section
variable {K : PySem.W.Frag} {σ : L2.St} {H : Hp} {tu tz : TS} {D : Ends}
theorem s_forNLn {xs : List V} {tl : TE} {j : Nat} (h : EvL tl σ H xs) (Pv : Addr → Nat → L2.St → Hp → Prop) (h0 : ∀ p H1, H p = none → Ex H H1 → H1 p = some (.lst xs) → Pv p 0 σ H1) (hl : ∀ p i σ' H', i ≤ xs.length → Pv p i σ' H' → SqL K H' p xs)
    (hs : ∀ p i x σ' H', xs[i]? = some x → Pv p i σ' H' → tu { D with nx := Pv p (i + 1), ct := Pv p (i + 1), bk := D.nx } (σ'.set j (some x)) H') (hd : ∀ p σ' H', Pv p xs.length σ' H' → D.nx σ' H') : tFor (iList K tl) (gName j) tu D σ H :=
  s_forNL h Pv h0 hl hs hd
end
theorem sv_check_state {K : PySem.W.Frag} {H : Hp} {s m : V} (hs : Kd H s) (hm : Kd H m) (h : stOk s m = true) : SpV (sp_check_state K) [s, m] H .non := spv_of fun H1 e Q E k => ⟨s, m, rfl, hs.mono e, hm.mono e, by
  unfold csRe
  rw [h, if_pos rfl]
  exact k⟩
theorem sx_check_state {K : PySem.W.Frag} {H : Hp} {s m : V} {E : XK} {Q0 : VK} (hs : Kd H s) (hm : Kd H m) (h : stOk s m = false) (q : Give K (.err "OutOfBounds") H Q0 E) : ∀ H1, Ex H H1 → ∀ Q : VK, sp_check_state K [s, m] H1 Q E := fun H1 e Q => ⟨s, m, rfl, hs.mono e, hm.mono e, by
  unfold csRe
  rw [h]
  exact fun H2 e2 => q H2 (e.trans e2)⟩
theorem sc_distances : FnScope ["state", "most", "far", "border", "more", "one", "other", "told"] ["state", "most"] (defScope s_distances) := ⟨rfl, rfl, rfl, by decide +kernel, rfl, by decide +kernel, by decide +kernel⟩
theorem ok_distances {P : Program} {w : World} {K : PySem.W.Frag} {mg : Str → Option Value} {base : Heap} (T : TXT K mg) : OK P w K mg base "distances" ["state", "most"] 4 (sp_distances K) := by
  have O_check_state := ok_check_state (P := P) (w := w) (base := base) T
  have O_states_ahead := ok_states_ahead (P := P) (w := w) (base := base) T
  obtain ⟨fd, F⟩ := T.def_ 5
  refine ⟨_, fd, T.glo 5, F.kp, F.bindsN (fun _ _ _ _ _ _ us hl => match us, hl with | [_, _], _ => rfl), F.ok sc_distances (fun vs H Q E h => ?_) (fun cdv A outer s H vs Q E hr h => ?_), F.bindsA (fun _ _ _ _ _ _ us hl => match us, hl with | [_, _], _ => rfl)⟩
  · first | (obtain ⟨rfl, _⟩ := h; rfl) | (obtain ⟨_, rfl, _⟩ := h; rfl) | (obtain ⟨_, _, rfl, _⟩ := h; rfl) | (obtain ⟨_, _, _, rfl, _⟩ := h; rfl) | (obtain ⟨_, _, _, _, rfl, _⟩ := h; rfl) | (obtain ⟨_, _, _, _, _, rfl, _⟩ := h; rfl) | (obtain ⟨_, _, _, _, _, _, rfl, _⟩ := h; rfl) | (obtain ⟨_, _, _, _, _, _, _, rfl, _⟩ := h; rfl) | (obtain ⟨_, _, _, _, _, _, _, _, rfl, _⟩ := h; rfl)
  · replace F : FunD K "distances" "distances" (defArgs s_distances) (defBody s_distances) (defScope s_distances) [] [] (He.ga K "distances") fd := F
    refine ⟨_, (pss_cons (ps_expr (pe_own O_check_state (hr.mono (by decide)) (by rfl) (passes_call (takes_of rfl rfl rfl rfl) (fun _ _ _ _ h => h)) (pa_cons (pv 0) (pa_cons (pv 1) pa_nil))))
      (pss_cons (ps_set (i := 2) sc_distances.nd rfl (Or.inl rfl) (pe_disp (pps_cons (pv 0) pe_int pps_nil) (by rfl) (by rfl) (fun z => by cases z) (by decide)))
      (pss_cons (ps_set (i := 3) sc_distances.nd rfl (Or.inl rfl) (pe_lst (pa_cons (pv 0) pa_nil)))
      (pss_cons (ps_while (passes_of rfl) (pt_truth (pv 3) (by intro _; rfl))
        (pss_cons (ps_set (i := 4) sc_distances.nd rfl (Or.inl rfl) (pe_lst pa_nil))
      (pss_cons (ps_for (passes_of rfl) rfl (k_piL K (pv 3)) (pg_name (i := 5) sc_distances.nd rfl (Or.inl rfl))
        (pss_one (ps_for (passes_of rfl) rfl (k_piL K (pe_own O_states_ahead (hr.mono (by decide)) (by rfl) (passes_call (takes_of rfl rfl rfl rfl) (fun _ _ _ _ h => h)) (pa_cons (pv 5) (pa_cons (pv 1) pa_nil)))) (pg_name (i := 6) sc_distances.nd rfl (Or.inl rfl))
        (pss_one (ps_if (pt_cmp (pc_dnotin (hu_of hr) (pv 6) (pv 2)))
        (pss_cons (ps_dput (hu_of hr) (pv 2) (pv 6) (pe_op op_add (pe_dget (hu_of hr) (pv 2) (pv 5) (fun _ _ => rfl)) pe_int) rfl)
      (pss_one (ps_expr (pe_bm PySem.F.plainAttrs_list PySem.F.slot_list_append PySem.F.type_list_append mt_append (pv 4) (pa_cons (pv 6) pa_nil)))))
        pss_nil)))))
      (pss_one (ps_set (i := 3) sc_distances.nd rfl (Or.inl rfl) (pv 4))))))
      (pss_cons (ps_set (i := 7) sc_distances.nd rfl (Or.inl rfl) pe_dnewK)
      (pss_cons (ps_for (passes_of rfl) rfl (k_piL K (pe_callB (id := "sorted") (k_sortedDA K rfl) (by rfl) (T.free 25) (by decide +kernel) (pa_cons (pv 2) pa_nil))) (pg_name (i := 5) sc_distances.nd rfl (Or.inl rfl))
        (pss_one (ps_dput (hu_of hr) (pv 7) (pv 5) (pe_dget (hu_of hr) (pv 2) (pv 5) (fun _ _ => rfl)) rfl)))
      (pss_one (ps_ret (pv 7))))))))), ?_⟩
    obtain ⟨s, m, rfl, hs, hm, q1, q2⟩ := h
    dsimp only [cxOf, L2.start, List.map_cons, List.map_nil, List.length_cons, List.length_nil, Nat.reduceAdd, Nat.reduceSub, List.replicate_succ, List.replicate_zero, List.cons_append, List.nil_append, Nat.zero_add, List.reduceReplicate, List.map]
    by_cases hok : stOk s m = true
    case neg =>
      have hok : stOk s m = false := by simpa using hok
      exact xq_drop (rz_call (by (repeat' (first | with_reducible exact ev_c | ((with_reducible show Ev (tVar _) _ _ _); exact ev_var rfl) | with_reducible exact ea_nil | with_reducible exact eo_none | with_reducible refine' ea_cons ?_ ?_ | with_reducible refine' eo_some ?_ | with_reducible refine' ev_and2 ?_ ?_ | with_reducible refine' ev_or2 ?_ ?_ | with_reducible refine' ev_notV ?_ | with_reducible exact ru_I | with_reducible refine' ev_un ?_ ?_ | with_reducible exact rv_I0 | with_reducible exact rv_isN | with_reducible exact rv_notN | with_reducible refine' rv_I ?_ | with_reducible refine' rv_eq ?_ | with_reducible refine' rv_ne ?_ | with_reducible refine' ev_op ?_ ?_ ?_ | with_reducible refine' ev_chain2 ?_ ?_ ?_ ?_ ?_ | with_reducible refine' et_B ?_ | with_reducible refine' et_test ?_ | with_reducible refine' et_and2 ?_ ?_ | with_reducible refine' et_or2 ?_ ?_ | with_reducible refine' et_not ?_ | with_reducible refine' ev_call ?_ ?_ | with_reducible refine' ev_callS ?_ ?_ | with_reducible refine' ev_cb ?_ ?_ | with_reducible exact isi_bool (by assumption) | with_reducible exact isi_int (by assumption) | with_reducible exact isi_list (by assumption) | with_reducible exact rc_len (by assumption) | with_reducible exact rc_sum (by assumption) | with_reducible exact rc_abs | with_reducible exact isi_listL (by assumption) | with_reducible exact isi_intI | with_reducible exact isi_boolI | with_reducible exact rc_lenT (by assumption) | with_reducible exact isi_tup (by assumption) | with_reducible exact rv_eqL (by assumption) (by assumption) | with_reducible exact rv_neL (by assumption) (by assumption) | with_reducible exact rv_neT (by assumption) (by assumption) | with_reducible exact rv_ixL (by assumption) (by assumption) | with_reducible exact rv_ixT (by assumption) (by assumption) | with_reducible refine' ev_din ?_ ?_ (by assumption) | with_reducible refine' ev_dnotin ?_ ?_ (by assumption) | with_reducible refine' ev_dget ?_ ?_ (by assumption) (by assumption) | ((with_reducible show SpV _ _ _ _); assumption) | ((with_reducible show RV _ _ _ _ _); assumption) | ((with_reducible show RC _ _ _ _); assumption) | ((with_reducible show CDiv _ _); exact ⟨by omega, by omega⟩) | ((with_reducible show CMul _ _); first | exact .inl ⟨by omega, by omega⟩ | exact .inr ⟨by omega, by omega⟩) | ((with_reducible show CPow _ _); exact ⟨by omega, by omega, by first | decide | assumption | omega⟩) | ((with_reducible show (0 : Int) < _); omega) | ((with_reducible show (0 : Int) ≤ _); omega) | ((with_reducible show scal _ _ = true); rfl)))) (sx_check_state hs hm hok (q1 hok)))
    have cs := sv_check_state (K := K) hs hm hok
    obtain ⟨a, k, rfl, rfl, k1, k10, hak⟩ := stOk_nat hok
    have q := q2 a k rfl rfl k1 k10 hak
    clear q1 q2
    have p10 := pow_le10 k10
    refine q_drop (v := .non) (by (repeat' (first | with_reducible exact ev_c | ((with_reducible show Ev (tVar _) _ _ _); exact ev_var rfl) | with_reducible exact ea_nil | with_reducible exact eo_none | with_reducible refine' ea_cons ?_ ?_ | with_reducible refine' eo_some ?_ | with_reducible refine' ev_and2 ?_ ?_ | with_reducible refine' ev_or2 ?_ ?_ | with_reducible refine' ev_notV ?_ | with_reducible exact ru_I | with_reducible refine' ev_un ?_ ?_ | with_reducible exact rv_I0 | with_reducible exact rv_isN | with_reducible exact rv_notN | with_reducible refine' rv_I ?_ | with_reducible refine' rv_eq ?_ | with_reducible refine' rv_ne ?_ | with_reducible refine' ev_op ?_ ?_ ?_ | with_reducible refine' ev_chain2 ?_ ?_ ?_ ?_ ?_ | with_reducible refine' et_B ?_ | with_reducible refine' et_test ?_ | with_reducible refine' et_and2 ?_ ?_ | with_reducible refine' et_or2 ?_ ?_ | with_reducible refine' et_not ?_ | with_reducible refine' ev_call ?_ ?_ | with_reducible refine' ev_callS ?_ ?_ | with_reducible refine' ev_cb ?_ ?_ | with_reducible exact isi_bool (by assumption) | with_reducible exact isi_int (by assumption) | with_reducible exact isi_list (by assumption) | with_reducible exact rc_len (by assumption) | with_reducible exact rc_sum (by assumption) | with_reducible exact rc_abs | with_reducible exact isi_listL (by assumption) | with_reducible exact isi_intI | with_reducible exact isi_boolI | with_reducible exact rc_lenT (by assumption) | with_reducible exact isi_tup (by assumption) | with_reducible exact rv_eqL (by assumption) (by assumption) | with_reducible exact rv_neL (by assumption) (by assumption) | with_reducible exact rv_neT (by assumption) (by assumption) | with_reducible exact rv_ixL (by assumption) (by assumption) | with_reducible exact rv_ixT (by assumption) (by assumption) | with_reducible refine' ev_din ?_ ?_ (by assumption) | with_reducible refine' ev_dnotin ?_ ?_ (by assumption) | with_reducible refine' ev_dget ?_ ?_ (by assumption) (by assumption) | ((with_reducible show SpV _ _ _ _); assumption) | ((with_reducible show RV _ _ _ _ _); assumption) | ((with_reducible show RC _ _ _ _); assumption) | ((with_reducible show CDiv _ _); exact ⟨by omega, by omega⟩) | ((with_reducible show CMul _ _); first | exact .inl ⟨by omega, by omega⟩ | exact .inr ⟨by omega, by omega⟩) | ((with_reducible show CPow _ _); exact ⟨by omega, by omega, by first | decide | assumption | omega⟩) | ((with_reducible show (0 : Int) < _); omega) | ((with_reducible show (0 : Int) ≤ _); omega) | ((with_reducible show scal _ _ = true); rfl)))) fun H1 e1 => ?_
    refine q_disp1 (k := (a : Int)) (v := .int 0) (ev_var rfl) ev_c fun fa H2 hfa e2 h2 => ?_
    refine q_asgL (xs := [V.int (a : Int)]) (el_lst (by (repeat' (first | with_reducible exact ev_c | ((with_reducible show Ev (tVar _) _ _ _); exact ev_var rfl) | with_reducible exact ea_nil | with_reducible exact eo_none | with_reducible refine' ea_cons ?_ ?_ | with_reducible refine' eo_some ?_ | with_reducible refine' ev_and2 ?_ ?_ | with_reducible refine' ev_or2 ?_ ?_ | with_reducible refine' ev_notV ?_ | with_reducible exact ru_I | with_reducible refine' ev_un ?_ ?_ | with_reducible exact rv_I0 | with_reducible exact rv_isN | with_reducible exact rv_notN | with_reducible refine' rv_I ?_ | with_reducible refine' rv_eq ?_ | with_reducible refine' rv_ne ?_ | with_reducible refine' ev_op ?_ ?_ ?_ | with_reducible refine' ev_chain2 ?_ ?_ ?_ ?_ ?_ | with_reducible refine' et_B ?_ | with_reducible refine' et_test ?_ | with_reducible refine' et_and2 ?_ ?_ | with_reducible refine' et_or2 ?_ ?_ | with_reducible refine' et_not ?_ | with_reducible refine' ev_call ?_ ?_ | with_reducible refine' ev_callS ?_ ?_ | with_reducible refine' ev_cb ?_ ?_ | with_reducible exact isi_bool (by assumption) | with_reducible exact isi_int (by assumption) | with_reducible exact isi_list (by assumption) | with_reducible exact rc_len (by assumption) | with_reducible exact rc_sum (by assumption) | with_reducible exact rc_abs | with_reducible exact isi_listL (by assumption) | with_reducible exact isi_intI | with_reducible exact isi_boolI | with_reducible exact rc_lenT (by assumption) | with_reducible exact isi_tup (by assumption) | with_reducible exact rv_eqL (by assumption) (by assumption) | with_reducible exact rv_neL (by assumption) (by assumption) | with_reducible exact rv_neT (by assumption) (by assumption) | with_reducible exact rv_ixL (by assumption) (by assumption) | with_reducible exact rv_ixT (by assumption) (by assumption) | with_reducible refine' ev_din ?_ ?_ (by assumption) | with_reducible refine' ev_dnotin ?_ ?_ (by assumption) | with_reducible refine' ev_dget ?_ ?_ (by assumption) (by assumption) | ((with_reducible show SpV _ _ _ _); assumption) | ((with_reducible show RV _ _ _ _ _); assumption) | ((with_reducible show RC _ _ _ _); assumption) | ((with_reducible show CDiv _ _); exact ⟨by omega, by omega⟩) | ((with_reducible show CMul _ _); first | exact .inl ⟨by omega, by omega⟩ | exact .inr ⟨by omega, by omega⟩) | ((with_reducible show CPow _ _); exact ⟨by omega, by omega, by first | decide | assumption | omega⟩) | ((with_reducible show (0 : Int) < _); omega) | ((with_reducible show (0 : Int) ≤ _); omega) | ((with_reducible show scal _ _ = true); rfl)))) (by simp)) fun b0 H3 hb0 e3 h3 => ?_
    have faH : H fa = none := fresh_back e1 hfa
    have e13 := (e1.trans e2).trans e3
    refine q_while (fun mm σ' H' => ∃ (i : Nat) (far : Fars) (border : List Nat) (ba : Addr) (y4 y5 y6 : Option V), σ' = [some (V.int (a : Int)), some (V.int (k : Int)), some (V.ref fa), some (V.ref ba), y4, y5, y6, none] ∧ Ex H H' ∧ H' fa = some (.dK (kvF far)) ∧ H' ba = some (.lst (ntV border)) ∧ Lev k a i far border ∧ mm = 2 * (1024 - far.length) + (if border = [] then 0 else 1)) (2 * (1024 - 1) + 1) ⟨0, [(a, 0)], [a], b0, none, none, none, rfl, e13, e3 _ _ h2, h3, lev0 hak, rfl⟩ ?_
    rintro mm σ' H' ⟨i, far, border, ba, y4, y5, y6, rfl, e4, hf4, hb4, lev, rfl⟩
    have flen := lev.b.len
    refine ⟨!(ntV border).isEmpty, et_tru (K := K) (v := .ref ba) (ev_var rfl) fun H5 e5 => .inl ⟨ntV border, sq_of (e5 _ _ hb4), rfl⟩, fun hb H5 e5 => ?_, fun hb H5 e5 => ?_⟩
    · have bne : border ≠ [] := fun z => by rw [z] at hb; simp [ntV] at hb
      rw [if_neg bne]
      refine ⟨fun σ' H' => ∃ (i2 : Nat) (far2 : Fars) (border2 : List Nat) (ba : Addr) (y4 y5 y6 : Option V), σ' = [some (V.int (a : Int)), some (V.int (k : Int)), some (V.ref fa), some (V.ref ba), y4, y5, y6, none] ∧ Ex H H' ∧ H' fa = some (.dK (kvF far2)) ∧ H' ba = some (.lst (ntV border2)) ∧ Lev k a i2 far2 border2 ∧ far.length + border2.length = far2.length, fun σ2 H2 h => ?_, ?_⟩
      · obtain ⟨i2, far2, border2, ba2, z4, z5, z6, g1, g2, g3, g4, g5, g6⟩ := h
        refine ⟨2 * (1024 - far2.length) + (if border2 = [] then 0 else 1), ?_, i2, far2, border2, ba2, z4, z5, z6, g1, g2, g3, g4, g5, rfl⟩
        have := g5.b.len
        by_cases z : border2 = []
        · rw [if_pos z]
          omega
        · rw [if_neg z]
          have := List.length_pos_iff.mpr z
          omega
      have hf5 := e5 _ _ hf4
      have hb5 := e5 _ _ hb4
      refine q_asgL (xs := []) (el_lst ea_nil (by decide)) fun mo H6 hmo e6 h6 => ?_
      have nbm : ba ≠ mo := ne_of_none hb5 hmo
      have nfm : fa ≠ mo := ne_of_none hf5 hmo
      have moH : H mo = none := fresh_back (e4.trans e5) hmo
      refine q_forLn (a := ba) (xs := ntV border) (by (repeat' (first | with_reducible exact ev_c | ((with_reducible show Ev (tVar _) _ _ _); exact ev_var rfl) | with_reducible exact ea_nil | with_reducible exact eo_none | with_reducible refine' ea_cons ?_ ?_ | with_reducible refine' eo_some ?_ | with_reducible refine' ev_and2 ?_ ?_ | with_reducible refine' ev_or2 ?_ ?_ | with_reducible refine' ev_notV ?_ | with_reducible exact ru_I | with_reducible refine' ev_un ?_ ?_ | with_reducible exact rv_I0 | with_reducible exact rv_isN | with_reducible exact rv_notN | with_reducible refine' rv_I ?_ | with_reducible refine' rv_eq ?_ | with_reducible refine' rv_ne ?_ | with_reducible refine' ev_op ?_ ?_ ?_ | with_reducible refine' ev_chain2 ?_ ?_ ?_ ?_ ?_ | with_reducible refine' et_B ?_ | with_reducible refine' et_test ?_ | with_reducible refine' et_and2 ?_ ?_ | with_reducible refine' et_or2 ?_ ?_ | with_reducible refine' et_not ?_ | with_reducible refine' ev_call ?_ ?_ | with_reducible refine' ev_callS ?_ ?_ | with_reducible refine' ev_cb ?_ ?_ | with_reducible exact isi_bool (by assumption) | with_reducible exact isi_int (by assumption) | with_reducible exact isi_list (by assumption) | with_reducible exact rc_len (by assumption) | with_reducible exact rc_sum (by assumption) | with_reducible exact rc_abs | with_reducible exact isi_listL (by assumption) | with_reducible exact isi_intI | with_reducible exact isi_boolI | with_reducible exact rc_lenT (by assumption) | with_reducible exact isi_tup (by assumption) | with_reducible exact rv_eqL (by assumption) (by assumption) | with_reducible exact rv_neL (by assumption) (by assumption) | with_reducible exact rv_neT (by assumption) (by assumption) | with_reducible exact rv_ixL (by assumption) (by assumption) | with_reducible exact rv_ixT (by assumption) (by assumption) | with_reducible refine' ev_din ?_ ?_ (by assumption) | with_reducible refine' ev_dnotin ?_ ?_ (by assumption) | with_reducible refine' ev_dget ?_ ?_ (by assumption) (by assumption) | ((with_reducible show SpV _ _ _ _); assumption) | ((with_reducible show RV _ _ _ _ _); assumption) | ((with_reducible show RC _ _ _ _); assumption) | ((with_reducible show CDiv _ _); exact ⟨by omega, by omega⟩) | ((with_reducible show CMul _ _); first | exact .inl ⟨by omega, by omega⟩ | exact .inr ⟨by omega, by omega⟩) | ((with_reducible show CPow _ _); exact ⟨by omega, by omega, by first | decide | assumption | omega⟩) | ((with_reducible show (0 : Int) < _); omega) | ((with_reducible show (0 : Int) ≤ _); omega) | ((with_reducible show scal _ _ = true); rfl)))) (sq_of (e6 _ _ hb5)) (fun j σ' H' => ∃ (far' : Fars) (more : List Nat) (y5 y6 : Option V), σ' = [some (V.int (a : Int)), some (V.int (k : Int)), some (V.ref fa), some (V.ref ba), some (V.ref mo), y5, y6, none] ∧ Ex H H' ∧ H' fa = some (.dK (kvF far')) ∧ H' ba = some (.lst (ntV border)) ∧ H' mo = some (.lst (ntV more)) ∧ Mid k a i border j 0 far' more ∧ far.length + more.length = far'.length) (fun H7 e7 => ⟨far, [], y5, y6, rfl, ((e4.trans e5).trans e6).trans e7, (e6.trans e7) _ _ hf5, (e6.trans e7) _ _ hb5, e7 _ _ h6, lev.begin, rfl⟩) (fun j σ' H' _ ⟨_, _, _, _, _, _, _, h, _⟩ => sq_of h) ?_ ?_
      · rintro j x σ' H7 hx ⟨far', more, y5, y6, rfl, e7, hf7, hb7, hm7, mid, hlen⟩
        unfold ntV at hx
        rw [List.getElem?_map] at hx
        obtain ⟨y, hy, rfl⟩ := Option.map_eq_some_iff.mp hx
        have hyf := (mid.bd y).mp (List.mem_of_getElem? hy)
        have yc := mid.b.cls _ hyf
        have sa : SpL (sp_states_ahead K) [.int (y : Int), .int (k : Int)] H7 (ntV (aheadN k y)) := spl_of fun H8 e8 Q E q => ⟨y, k, rfl, k1, k10, yc.1, q⟩
        refine s_forNLn (xs := ntV (aheadN k y)) (el_call (dvs := []) (by (repeat' (first | with_reducible exact ev_c | ((with_reducible show Ev (tVar _) _ _ _); exact ev_var rfl) | with_reducible exact ea_nil | with_reducible exact eo_none | with_reducible refine' ea_cons ?_ ?_ | with_reducible refine' eo_some ?_ | with_reducible refine' ev_and2 ?_ ?_ | with_reducible refine' ev_or2 ?_ ?_ | with_reducible refine' ev_notV ?_ | with_reducible exact ru_I | with_reducible refine' ev_un ?_ ?_ | with_reducible exact rv_I0 | with_reducible exact rv_isN | with_reducible exact rv_notN | with_reducible refine' rv_I ?_ | with_reducible refine' rv_eq ?_ | with_reducible refine' rv_ne ?_ | with_reducible refine' ev_op ?_ ?_ ?_ | with_reducible refine' ev_chain2 ?_ ?_ ?_ ?_ ?_ | with_reducible refine' et_B ?_ | with_reducible refine' et_test ?_ | with_reducible refine' et_and2 ?_ ?_ | with_reducible refine' et_or2 ?_ ?_ | with_reducible refine' et_not ?_ | with_reducible refine' ev_call ?_ ?_ | with_reducible refine' ev_callS ?_ ?_ | with_reducible refine' ev_cb ?_ ?_ | with_reducible exact isi_bool (by assumption) | with_reducible exact isi_int (by assumption) | with_reducible exact isi_list (by assumption) | with_reducible exact rc_len (by assumption) | with_reducible exact rc_sum (by assumption) | with_reducible exact rc_abs | with_reducible exact isi_listL (by assumption) | with_reducible exact isi_intI | with_reducible exact isi_boolI | with_reducible exact rc_lenT (by assumption) | with_reducible exact isi_tup (by assumption) | with_reducible exact rv_eqL (by assumption) (by assumption) | with_reducible exact rv_neL (by assumption) (by assumption) | with_reducible exact rv_neT (by assumption) (by assumption) | with_reducible exact rv_ixL (by assumption) (by assumption) | with_reducible exact rv_ixT (by assumption) (by assumption) | with_reducible refine' ev_din ?_ ?_ (by assumption) | with_reducible refine' ev_dnotin ?_ ?_ (by assumption) | with_reducible refine' ev_dget ?_ ?_ (by assumption) (by assumption) | ((with_reducible show SpV _ _ _ _); assumption) | ((with_reducible show RV _ _ _ _ _); assumption) | ((with_reducible show RC _ _ _ _); assumption) | ((with_reducible show CDiv _ _); exact ⟨by omega, by omega⟩) | ((with_reducible show CMul _ _); first | exact .inl ⟨by omega, by omega⟩ | exact .inr ⟨by omega, by omega⟩) | ((with_reducible show CPow _ _); exact ⟨by omega, by omega, by first | decide | assumption | omega⟩) | ((with_reducible show (0 : Int) < _); omega) | ((with_reducible show (0 : Int) ≤ _); omega) | ((with_reducible show scal _ _ = true); rfl)))) sa) (fun p l σ' H' => ∃ (far' : Fars) (more : List Nat) (y6 : Option V), σ' = [some (V.int (a : Int)), some (V.int (k : Int)), some (V.ref fa), some (V.ref ba), some (V.ref mo), some (V.int (y : Int)), y6, none] ∧ Ex H H' ∧ H' fa = some (.dK (kvF far')) ∧ H' ba = some (.lst (ntV border)) ∧ H' mo = some (.lst (ntV more)) ∧ H' p = some (.lst (ntV (aheadN k y))) ∧ p ≠ mo ∧ Mid k a i border j l far' more ∧ far.length + more.length = far'.length) (fun p H8 hp e8 h8 => ⟨far', more, y6, rfl, e7.trans e8, e8 _ _ hf7, e8 _ _ hb7, e8 _ _ hm7, h8, (fun z => by rw [z, hm7] at hp; cases hp), mid, hlen⟩) (fun p l σ' H' _ ⟨_, _, _, _, _, _, _, _, h, _⟩ => sq_of h) ?_ ?_
        · rintro p l x σ' H8 hx2 ⟨far', more, y6, rfl, e8, hf8, hb8, hm8, hp8, npm, mid, hlen⟩
          unfold ntV at hx2
          rw [List.getElem?_map] at hx2
          obtain ⟨z, hz, rfl⟩ := Option.map_eq_some_iff.mp hx2
          have npf : p ≠ fa := fun w => by rw [w, hf8] at hp8; cases hp8
          have fl := mid.b.len
          refine s_when (b := !(valV (kvF far') (Sum.inl (z : Int) : Key)).isSome) (by (repeat' (first | with_reducible exact ev_c | ((with_reducible show Ev (tVar _) _ _ _); exact ev_var rfl) | with_reducible exact ea_nil | with_reducible exact eo_none | with_reducible refine' ea_cons ?_ ?_ | with_reducible refine' eo_some ?_ | with_reducible refine' ev_and2 ?_ ?_ | with_reducible refine' ev_or2 ?_ ?_ | with_reducible refine' ev_notV ?_ | with_reducible exact ru_I | with_reducible refine' ev_un ?_ ?_ | with_reducible exact rv_I0 | with_reducible exact rv_isN | with_reducible exact rv_notN | with_reducible refine' rv_I ?_ | with_reducible refine' rv_eq ?_ | with_reducible refine' rv_ne ?_ | with_reducible refine' ev_op ?_ ?_ ?_ | with_reducible refine' ev_chain2 ?_ ?_ ?_ ?_ ?_ | with_reducible refine' et_B ?_ | with_reducible refine' et_test ?_ | with_reducible refine' et_and2 ?_ ?_ | with_reducible refine' et_or2 ?_ ?_ | with_reducible refine' et_not ?_ | with_reducible refine' ev_call ?_ ?_ | with_reducible refine' ev_callS ?_ ?_ | with_reducible refine' ev_cb ?_ ?_ | with_reducible exact isi_bool (by assumption) | with_reducible exact isi_int (by assumption) | with_reducible exact isi_list (by assumption) | with_reducible exact rc_len (by assumption) | with_reducible exact rc_sum (by assumption) | with_reducible exact rc_abs | with_reducible exact isi_listL (by assumption) | with_reducible exact isi_intI | with_reducible exact isi_boolI | with_reducible exact rc_lenT (by assumption) | with_reducible exact isi_tup (by assumption) | with_reducible exact rv_eqL (by assumption) (by assumption) | with_reducible exact rv_neL (by assumption) (by assumption) | with_reducible exact rv_neT (by assumption) (by assumption) | with_reducible exact rv_ixL (by assumption) (by assumption) | with_reducible exact rv_ixT (by assumption) (by assumption) | with_reducible refine' ev_din ?_ ?_ (by assumption) | with_reducible refine' ev_dnotin ?_ ?_ (by assumption) | with_reducible refine' ev_dget ?_ ?_ (by assumption) (by assumption) | ((with_reducible show SpV _ _ _ _); assumption) | ((with_reducible show RV _ _ _ _ _); assumption) | ((with_reducible show RC _ _ _ _); assumption) | ((with_reducible show CDiv _ _); exact ⟨by omega, by omega⟩) | ((with_reducible show CMul _ _); first | exact .inl ⟨by omega, by omega⟩ | exact .inr ⟨by omega, by omega⟩) | ((with_reducible show CPow _ _); exact ⟨by omega, by omega, by first | decide | assumption | omega⟩) | ((with_reducible show (0 : Int) < _); omega) | ((with_reducible show (0 : Int) ≤ _); omega) | ((with_reducible show scal _ _ = true); rfl)))) (fun hn H9 e9 => ?_) (fun hn H9 e9 => ?_)
          · rw [kvF_in, Bool.not_eq_true', decide_eq_false_iff_not] at hn
            have hf9 := e9 _ _ hf8
            have hyf' := (mid.bd y).mp (List.mem_of_getElem? hy)
            have hv := kvF_at mid.b.nd hyf'
            refine q_dput (kvs := kvF far') (i := (z : Int)) (v := .int ((i + 1 : Nat) : Int)) hf9 (ev_is (v := .int ((i : Int) + 1)) (by (repeat' (first | with_reducible exact ev_c | ((with_reducible show Ev (tVar _) _ _ _); exact ev_var rfl) | with_reducible exact ea_nil | with_reducible exact eo_none | with_reducible refine' ea_cons ?_ ?_ | with_reducible refine' eo_some ?_ | with_reducible refine' ev_and2 ?_ ?_ | with_reducible refine' ev_or2 ?_ ?_ | with_reducible refine' ev_notV ?_ | with_reducible exact ru_I | with_reducible refine' ev_un ?_ ?_ | with_reducible exact rv_I0 | with_reducible exact rv_isN | with_reducible exact rv_notN | with_reducible refine' rv_I ?_ | with_reducible refine' rv_eq ?_ | with_reducible refine' rv_ne ?_ | with_reducible refine' ev_op ?_ ?_ ?_ | with_reducible refine' ev_chain2 ?_ ?_ ?_ ?_ ?_ | with_reducible refine' et_B ?_ | with_reducible refine' et_test ?_ | with_reducible refine' et_and2 ?_ ?_ | with_reducible refine' et_or2 ?_ ?_ | with_reducible refine' et_not ?_ | with_reducible refine' ev_call ?_ ?_ | with_reducible refine' ev_callS ?_ ?_ | with_reducible refine' ev_cb ?_ ?_ | with_reducible exact isi_bool (by assumption) | with_reducible exact isi_int (by assumption) | with_reducible exact isi_list (by assumption) | with_reducible exact rc_len (by assumption) | with_reducible exact rc_sum (by assumption) | with_reducible exact rc_abs | with_reducible exact isi_listL (by assumption) | with_reducible exact isi_intI | with_reducible exact isi_boolI | with_reducible exact rc_lenT (by assumption) | with_reducible exact isi_tup (by assumption) | with_reducible exact rv_eqL (by assumption) (by assumption) | with_reducible exact rv_neL (by assumption) (by assumption) | with_reducible exact rv_neT (by assumption) (by assumption) | with_reducible exact rv_ixL (by assumption) (by assumption) | with_reducible exact rv_ixT (by assumption) (by assumption) | with_reducible refine' ev_din ?_ ?_ (by assumption) | with_reducible refine' ev_dnotin ?_ ?_ (by assumption) | with_reducible refine' ev_dget ?_ ?_ (by assumption) (by assumption) | ((with_reducible show SpV _ _ _ _); assumption) | ((with_reducible show RV _ _ _ _ _); assumption) | ((with_reducible show RC _ _ _ _); assumption) | ((with_reducible show CDiv _ _); exact ⟨by omega, by omega⟩) | ((with_reducible show CMul _ _); first | exact .inl ⟨by omega, by omega⟩ | exact .inr ⟨by omega, by omega⟩) | ((with_reducible show CPow _ _); exact ⟨by omega, by omega, by first | decide | assumption | omega⟩) | ((with_reducible show (0 : Int) < _); omega) | ((with_reducible show (0 : Int) ≤ _); omega) | ((with_reducible show scal _ _ = true); rfl)))) rfl) (by (repeat' (first | with_reducible exact ev_c | ((with_reducible show Ev (tVar _) _ _ _); exact ev_var rfl) | with_reducible exact ea_nil | with_reducible exact eo_none | with_reducible refine' ea_cons ?_ ?_ | with_reducible refine' eo_some ?_ | with_reducible refine' ev_and2 ?_ ?_ | with_reducible refine' ev_or2 ?_ ?_ | with_reducible refine' ev_notV ?_ | with_reducible exact ru_I | with_reducible refine' ev_un ?_ ?_ | with_reducible exact rv_I0 | with_reducible exact rv_isN | with_reducible exact rv_notN | with_reducible refine' rv_I ?_ | with_reducible refine' rv_eq ?_ | with_reducible refine' rv_ne ?_ | with_reducible refine' ev_op ?_ ?_ ?_ | with_reducible refine' ev_chain2 ?_ ?_ ?_ ?_ ?_ | with_reducible refine' et_B ?_ | with_reducible refine' et_test ?_ | with_reducible refine' et_and2 ?_ ?_ | with_reducible refine' et_or2 ?_ ?_ | with_reducible refine' et_not ?_ | with_reducible refine' ev_call ?_ ?_ | with_reducible refine' ev_callS ?_ ?_ | with_reducible refine' ev_cb ?_ ?_ | with_reducible exact isi_bool (by assumption) | with_reducible exact isi_int (by assumption) | with_reducible exact isi_list (by assumption) | with_reducible exact rc_len (by assumption) | with_reducible exact rc_sum (by assumption) | with_reducible exact rc_abs | with_reducible exact isi_listL (by assumption) | with_reducible exact isi_intI | with_reducible exact isi_boolI | with_reducible exact rc_lenT (by assumption) | with_reducible exact isi_tup (by assumption) | with_reducible exact rv_eqL (by assumption) (by assumption) | with_reducible exact rv_neL (by assumption) (by assumption) | with_reducible exact rv_neT (by assumption) (by assumption) | with_reducible exact rv_ixL (by assumption) (by assumption) | with_reducible exact rv_ixT (by assumption) (by assumption) | with_reducible refine' ev_din ?_ ?_ (by assumption) | with_reducible refine' ev_dnotin ?_ ?_ (by assumption) | with_reducible refine' ev_dget ?_ ?_ (by assumption) (by assumption) | ((with_reducible show SpV _ _ _ _); assumption) | ((with_reducible show RV _ _ _ _ _); assumption) | ((with_reducible show RC _ _ _ _); assumption) | ((with_reducible show CDiv _ _); exact ⟨by omega, by omega⟩) | ((with_reducible show CMul _ _); first | exact .inl ⟨by omega, by omega⟩ | exact .inr ⟨by omega, by omega⟩) | ((with_reducible show CPow _ _); exact ⟨by omega, by omega, by first | decide | assumption | omega⟩) | ((with_reducible show (0 : Int) < _); omega) | ((with_reducible show (0 : Int) ≤ _); omega) | ((with_reducible show scal _ _ = true); rfl)))) (by (repeat' (first | with_reducible exact ev_c | ((with_reducible show Ev (tVar _) _ _ _); exact ev_var rfl) | with_reducible exact ea_nil | with_reducible exact eo_none | with_reducible refine' ea_cons ?_ ?_ | with_reducible refine' eo_some ?_ | with_reducible refine' ev_and2 ?_ ?_ | with_reducible refine' ev_or2 ?_ ?_ | with_reducible refine' ev_notV ?_ | with_reducible exact ru_I | with_reducible refine' ev_un ?_ ?_ | with_reducible exact rv_I0 | with_reducible exact rv_isN | with_reducible exact rv_notN | with_reducible refine' rv_I ?_ | with_reducible refine' rv_eq ?_ | with_reducible refine' rv_ne ?_ | with_reducible refine' ev_op ?_ ?_ ?_ | with_reducible refine' ev_chain2 ?_ ?_ ?_ ?_ ?_ | with_reducible refine' et_B ?_ | with_reducible refine' et_test ?_ | with_reducible refine' et_and2 ?_ ?_ | with_reducible refine' et_or2 ?_ ?_ | with_reducible refine' et_not ?_ | with_reducible refine' ev_call ?_ ?_ | with_reducible refine' ev_callS ?_ ?_ | with_reducible refine' ev_cb ?_ ?_ | with_reducible exact isi_bool (by assumption) | with_reducible exact isi_int (by assumption) | with_reducible exact isi_list (by assumption) | with_reducible exact rc_len (by assumption) | with_reducible exact rc_sum (by assumption) | with_reducible exact rc_abs | with_reducible exact isi_listL (by assumption) | with_reducible exact isi_intI | with_reducible exact isi_boolI | with_reducible exact rc_lenT (by assumption) | with_reducible exact isi_tup (by assumption) | with_reducible exact rv_eqL (by assumption) (by assumption) | with_reducible exact rv_neL (by assumption) (by assumption) | with_reducible exact rv_neT (by assumption) (by assumption) | with_reducible exact rv_ixL (by assumption) (by assumption) | with_reducible exact rv_ixT (by assumption) (by assumption) | with_reducible refine' ev_din ?_ ?_ (by assumption) | with_reducible refine' ev_dnotin ?_ ?_ (by assumption) | with_reducible refine' ev_dget ?_ ?_ (by assumption) (by assumption) | ((with_reducible show SpV _ _ _ _); assumption) | ((with_reducible show RV _ _ _ _ _); assumption) | ((with_reducible show RC _ _ _ _); assumption) | ((with_reducible show CDiv _ _); exact ⟨by omega, by omega⟩) | ((with_reducible show CMul _ _); first | exact .inl ⟨by omega, by omega⟩ | exact .inr ⟨by omega, by omega⟩) | ((with_reducible show CPow _ _); exact ⟨by omega, by omega, by first | decide | assumption | omega⟩) | ((with_reducible show (0 : Int) < _); omega) | ((with_reducible show (0 : Int) ≤ _); omega) | ((with_reducible show scal _ _ = true); rfl)))) (by rw [kvF_len]; omega) fun H10 e10 => ?_
            rw [kvF_put hn]
            have e11 : Ex H (upd H10 fa (.dK (kvF (far' ++ [(z, i + 1)])))) := Ex.mut ((e8.trans e9).trans e10) faH
            have hf11 : (upd H10 fa (.dK (kvF (far' ++ [(z, i + 1)])))) fa = some (.dK (kvF (far' ++ [(z, i + 1)]))) := upd_same
            have nbf : ba ≠ fa := fun w => by rw [w, hf8] at hb8; cases hb8
            have hb11 : (upd H10 fa (.dK (kvF (far' ++ [(z, i + 1)])))) ba = some (.lst (ntV border)) := by
              rw [upd_ne nbf]
              exact (e9.trans e10) _ _ hb8
            have hm11 : (upd H10 fa (.dK (kvF (far' ++ [(z, i + 1)])))) mo = some (.lst (ntV more)) := by
              rw [upd_ne nfm.symm]
              exact (e9.trans e10) _ _ hm8
            have hp11 : (upd H10 fa (.dK (kvF (far' ++ [(z, i + 1)])))) p = some (.lst (ntV (aheadN k y))) := by
              rw [upd_ne npf]
              exact (e9.trans e10) _ _ hp8
            generalize upd H10 fa (.dK (kvF (far' ++ [(z, i + 1)]))) = H11 at *
            refine s_app (xs := ntV more) (v := .int (z : Int)) hm11 (by (repeat' (first | with_reducible exact ev_c | ((with_reducible show Ev (tVar _) _ _ _); exact ev_var rfl) | with_reducible exact ea_nil | with_reducible exact eo_none | with_reducible refine' ea_cons ?_ ?_ | with_reducible refine' eo_some ?_ | with_reducible refine' ev_and2 ?_ ?_ | with_reducible refine' ev_or2 ?_ ?_ | with_reducible refine' ev_notV ?_ | with_reducible exact ru_I | with_reducible refine' ev_un ?_ ?_ | with_reducible exact rv_I0 | with_reducible exact rv_isN | with_reducible exact rv_notN | with_reducible refine' rv_I ?_ | with_reducible refine' rv_eq ?_ | with_reducible refine' rv_ne ?_ | with_reducible refine' ev_op ?_ ?_ ?_ | with_reducible refine' ev_chain2 ?_ ?_ ?_ ?_ ?_ | with_reducible refine' et_B ?_ | with_reducible refine' et_test ?_ | with_reducible refine' et_and2 ?_ ?_ | with_reducible refine' et_or2 ?_ ?_ | with_reducible refine' et_not ?_ | with_reducible refine' ev_call ?_ ?_ | with_reducible refine' ev_callS ?_ ?_ | with_reducible refine' ev_cb ?_ ?_ | with_reducible exact isi_bool (by assumption) | with_reducible exact isi_int (by assumption) | with_reducible exact isi_list (by assumption) | with_reducible exact rc_len (by assumption) | with_reducible exact rc_sum (by assumption) | with_reducible exact rc_abs | with_reducible exact isi_listL (by assumption) | with_reducible exact isi_intI | with_reducible exact isi_boolI | with_reducible exact rc_lenT (by assumption) | with_reducible exact isi_tup (by assumption) | with_reducible exact rv_eqL (by assumption) (by assumption) | with_reducible exact rv_neL (by assumption) (by assumption) | with_reducible exact rv_neT (by assumption) (by assumption) | with_reducible exact rv_ixL (by assumption) (by assumption) | with_reducible exact rv_ixT (by assumption) (by assumption) | with_reducible refine' ev_din ?_ ?_ (by assumption) | with_reducible refine' ev_dnotin ?_ ?_ (by assumption) | with_reducible refine' ev_dget ?_ ?_ (by assumption) (by assumption) | ((with_reducible show SpV _ _ _ _); assumption) | ((with_reducible show RV _ _ _ _ _); assumption) | ((with_reducible show RC _ _ _ _); assumption) | ((with_reducible show CDiv _ _); exact ⟨by omega, by omega⟩) | ((with_reducible show CMul _ _); first | exact .inl ⟨by omega, by omega⟩ | exact .inr ⟨by omega, by omega⟩) | ((with_reducible show CPow _ _); exact ⟨by omega, by omega, by first | decide | assumption | omega⟩) | ((with_reducible show (0 : Int) < _); omega) | ((with_reducible show (0 : Int) ≤ _); omega) | ((with_reducible show scal _ _ = true); rfl)))) (by (repeat' (first | with_reducible exact ev_c | ((with_reducible show Ev (tVar _) _ _ _); exact ev_var rfl) | with_reducible exact ea_nil | with_reducible exact eo_none | with_reducible refine' ea_cons ?_ ?_ | with_reducible refine' eo_some ?_ | with_reducible refine' ev_and2 ?_ ?_ | with_reducible refine' ev_or2 ?_ ?_ | with_reducible refine' ev_notV ?_ | with_reducible exact ru_I | with_reducible refine' ev_un ?_ ?_ | with_reducible exact rv_I0 | with_reducible exact rv_isN | with_reducible exact rv_notN | with_reducible refine' rv_I ?_ | with_reducible refine' rv_eq ?_ | with_reducible refine' rv_ne ?_ | with_reducible refine' ev_op ?_ ?_ ?_ | with_reducible refine' ev_chain2 ?_ ?_ ?_ ?_ ?_ | with_reducible refine' et_B ?_ | with_reducible refine' et_test ?_ | with_reducible refine' et_and2 ?_ ?_ | with_reducible refine' et_or2 ?_ ?_ | with_reducible refine' et_not ?_ | with_reducible refine' ev_call ?_ ?_ | with_reducible refine' ev_callS ?_ ?_ | with_reducible refine' ev_cb ?_ ?_ | with_reducible exact isi_bool (by assumption) | with_reducible exact isi_int (by assumption) | with_reducible exact isi_list (by assumption) | with_reducible exact rc_len (by assumption) | with_reducible exact rc_sum (by assumption) | with_reducible exact rc_abs | with_reducible exact isi_listL (by assumption) | with_reducible exact isi_intI | with_reducible exact isi_boolI | with_reducible exact rc_lenT (by assumption) | with_reducible exact isi_tup (by assumption) | with_reducible exact rv_eqL (by assumption) (by assumption) | with_reducible exact rv_neL (by assumption) (by assumption) | with_reducible exact rv_neT (by assumption) (by assumption) | with_reducible exact rv_ixL (by assumption) (by assumption) | with_reducible exact rv_ixT (by assumption) (by assumption) | with_reducible refine' ev_din ?_ ?_ (by assumption) | with_reducible refine' ev_dnotin ?_ ?_ (by assumption) | with_reducible refine' ev_dget ?_ ?_ (by assumption) (by assumption) | ((with_reducible show SpV _ _ _ _); assumption) | ((with_reducible show RV _ _ _ _ _); assumption) | ((with_reducible show RC _ _ _ _); assumption) | ((with_reducible show CDiv _ _); exact ⟨by omega, by omega⟩) | ((with_reducible show CMul _ _); first | exact .inl ⟨by omega, by omega⟩ | exact .inr ⟨by omega, by omega⟩) | ((with_reducible show CPow _ _); exact ⟨by omega, by omega, by first | decide | assumption | omega⟩) | ((with_reducible show (0 : Int) < _); omega) | ((with_reducible show (0 : Int) ≤ _); omega) | ((with_reducible show scal _ _ = true); rfl)))) (by unfold ntV; rw [List.length_map]; omega) fun H12 e12 => ?_
            refine ⟨far' ++ [(z, i + 1)], more ++ [z], _, rfl, Ex.mut (e11.trans e12) moH, ?_, ?_, ?_, ?_, npm, mid.fresh k1 k10 hy hz hn, by rw [List.length_append, List.length_append]; simp; omega⟩
            · rw [upd_ne nfm]
              exact e12 _ _ hf11
            · rw [upd_ne nbm]
              exact e12 _ _ hb11
            · rw [upd_same]
              unfold ntV
              rw [List.map_append]
              rfl
            · rw [upd_ne npm]
              exact e12 _ _ hp11
          · rw [kvF_in, Bool.not_eq_false', decide_eq_true_iff] at hn
            exact ⟨far', more, _, rfl, e8.trans e9, e9 _ _ hf8, e9 _ _ hb8, e9 _ _ hm8, e9 _ _ hp8, npm, mid.known hy hz hn, hlen⟩
        · rintro p σ' H8 ⟨far', more, y6, rfl, e8, hf8, hb8, hm8, hp8, npm, mid, hlen⟩
          rw [show (ntV (aheadN k y)).length = (aheadN k y).length by simp [ntV]] at mid
          exact ⟨far', more, _, y6, rfl, e8, hf8, hb8, hm8, mid.next hy, hlen⟩
      · rintro σ' H7 ⟨far', more, y5, y6, rfl, e7, hf7, hb7, hm7, mid, hlen⟩
        rw [show (ntV border).length = border.length by simp [ntV]] at mid
        exact s_asg (v := .ref mo) (by (repeat' (first | with_reducible exact ev_c | ((with_reducible show Ev (tVar _) _ _ _); exact ev_var rfl) | with_reducible exact ea_nil | with_reducible exact eo_none | with_reducible refine' ea_cons ?_ ?_ | with_reducible refine' eo_some ?_ | with_reducible refine' ev_and2 ?_ ?_ | with_reducible refine' ev_or2 ?_ ?_ | with_reducible refine' ev_notV ?_ | with_reducible exact ru_I | with_reducible refine' ev_un ?_ ?_ | with_reducible exact rv_I0 | with_reducible exact rv_isN | with_reducible exact rv_notN | with_reducible refine' rv_I ?_ | with_reducible refine' rv_eq ?_ | with_reducible refine' rv_ne ?_ | with_reducible refine' ev_op ?_ ?_ ?_ | with_reducible refine' ev_chain2 ?_ ?_ ?_ ?_ ?_ | with_reducible refine' et_B ?_ | with_reducible refine' et_test ?_ | with_reducible refine' et_and2 ?_ ?_ | with_reducible refine' et_or2 ?_ ?_ | with_reducible refine' et_not ?_ | with_reducible refine' ev_call ?_ ?_ | with_reducible refine' ev_callS ?_ ?_ | with_reducible refine' ev_cb ?_ ?_ | with_reducible exact isi_bool (by assumption) | with_reducible exact isi_int (by assumption) | with_reducible exact isi_list (by assumption) | with_reducible exact rc_len (by assumption) | with_reducible exact rc_sum (by assumption) | with_reducible exact rc_abs | with_reducible exact isi_listL (by assumption) | with_reducible exact isi_intI | with_reducible exact isi_boolI | with_reducible exact rc_lenT (by assumption) | with_reducible exact isi_tup (by assumption) | with_reducible exact rv_eqL (by assumption) (by assumption) | with_reducible exact rv_neL (by assumption) (by assumption) | with_reducible exact rv_neT (by assumption) (by assumption) | with_reducible exact rv_ixL (by assumption) (by assumption) | with_reducible exact rv_ixT (by assumption) (by assumption) | with_reducible refine' ev_din ?_ ?_ (by assumption) | with_reducible refine' ev_dnotin ?_ ?_ (by assumption) | with_reducible refine' ev_dget ?_ ?_ (by assumption) (by assumption) | ((with_reducible show SpV _ _ _ _); assumption) | ((with_reducible show RV _ _ _ _ _); assumption) | ((with_reducible show RC _ _ _ _); assumption) | ((with_reducible show CDiv _ _); exact ⟨by omega, by omega⟩) | ((with_reducible show CMul _ _); first | exact .inl ⟨by omega, by omega⟩ | exact .inr ⟨by omega, by omega⟩) | ((with_reducible show CPow _ _); exact ⟨by omega, by omega, by first | decide | assumption | omega⟩) | ((with_reducible show (0 : Int) < _); omega) | ((with_reducible show (0 : Int) ≤ _); omega) | ((with_reducible show scal _ _ = true); rfl)))) fun H8 e8 => ⟨i + 1, far', more, mo, _, _, _, rfl, e7.trans e8, e8 _ _ hf7, e8 _ _ hm7, mid.finish, hlen⟩
    · have bn : border = [] := by
        cases border with
        | nil => rfl
        | cons x r => simp [ntV] at hb
      subst bn
      obtain ⟨keys, dist⟩ := lev.done k1 k10 hak
      have hf5 := e5 _ _ hf4
      refine q_dnew fun td htd => ?_
      have tdH : H td = none := fresh_back (e4.trans e5) htd
      have ntf : fa ≠ td := ne_of_none hf5 htd
      have ci : (classN k a).map (fun x : Nat => (x : Int)) = (classN k a).map fun x : Nat => (x : Int) := rfl
      have csort : ((classN k a).map fun x : Nat => (x : Int)).Pairwise (· ≤ ·) := by
        rw [List.pairwise_map]
        unfold classN
        exact (List.pairwise_lt_range.filter _).imp fun h => by omega
      have cperm : ((far.map Prod.fst).map fun x : Nat => (x : Int)).Perm ((classN k a).map fun x : Nat => (x : Int)) := by
        refine List.Perm.map _ ((List.perm_ext_iff_of_nodup lev.b.nd ?_).mpr keys)
        unfold classN
        exact (List.nodup_range).filter _
      have clen : (classN k a).length ≤ 1024 := by
        unfold classN
        have := List.length_filter_le (fun x => decide (popN x = popN a)) (List.range (2 ^ k))
        rw [List.length_range] at this
        omega
      have e56 := Ex.new (o := .dK []) htd
      have hf6 := e56 _ _ hf5
      have ht6 : (upd H5 td (.dK [])) td = some (.dK []) := upd_same
      generalize upd H5 td (.dK []) = H6 at *
      have e46 := (e4.trans e5).trans e56
      refine q_forNLn (xs := ntV (classN k a)) (by
        have z := el_sortedDA (σ := [some (V.int (a : Int)), some (V.int (k : Int)), some (V.ref fa), some (V.ref ba), y4, y5, y6, some (V.ref td)]) (te := tVar 2) (ys := (classN k a).map fun x : Nat => (x : Int)) (ev_var rfl) hf6 (kvF_keys far) (by rw [List.length_map, List.length_map]; omega) fun zs h1 h2 => sorted_eq (h1.trans cperm) h2 csort
        rw [List.map_map] at z
        exact z) (fun p j σ' H' => ∃ (y5 : Option V), σ' = [some (V.int (a : Int)), some (V.int (k : Int)), some (V.ref fa), some (V.ref ba), y4, y5, y6, some (V.ref td)] ∧ Ex H H' ∧ H' fa = some (.dK (kvF far)) ∧ H' p = some (.lst (ntV (classN k a))) ∧ H' td = some (.dK (kvF (((classN k a).take j).map fun x => (x, farD far x))))) (fun p H7 hp e7 h7 => ⟨_, rfl, e46.trans e7, e7 _ _ hf6, h7, e7 _ _ ht6⟩) (fun p j σ' H' _ ⟨_, _, _, _, h, _⟩ => sq_of h) ?_ ?_
      · rintro p j x σ' H7 hx ⟨y5, rfl, e7, hf7, hp7, ht7⟩
        unfold ntV at hx
        rw [List.getElem?_map] at hx
        obtain ⟨y, hy, rfl⟩ := Option.map_eq_some_iff.mp hx
        have hyc := List.mem_of_getElem? hy
        obtain ⟨v, hv⟩ := key_of ((keys y).mpr hyc)
        have hval := kvF_at lev.b.nd hv
        have hfd := farD_of lev.b.nd hv
        have npt : p ≠ td := fun z => by rw [z, ht7] at hp7; cases hp7
        have hno : y ∉ (((classN k a).take j).map fun x => (x, farD far x)).map Prod.fst := fun hm => by
          rw [List.map_map] at hm
          obtain ⟨u, hu, eu⟩ := List.mem_map.mp hm
          have eu : u = y := eu
          subst eu
          have nd : (classN k a).Nodup := by
            unfold classN
            exact (List.nodup_range).filter _
          obtain ⟨i1, hi1, ei1⟩ := List.mem_iff_getElem.mp hu
          rw [List.length_take] at hi1
          rw [List.getElem_take] at ei1
          obtain ⟨h3, h4⟩ := List.getElem?_eq_some_iff.mp hy
          have := (List.getElem_inj nd).mp (ei1.trans h4.symm)
          omega
        refine s_dput (kvs := kvF (((classN k a).take j).map fun x => (x, farD far x))) (i := (y : Int)) (v := .int (v : Int)) ht7 (ev_dget (ev_var rfl) (ev_var rfl) hf7 hval) (by (repeat' (first | with_reducible exact ev_c | ((with_reducible show Ev (tVar _) _ _ _); exact ev_var rfl) | with_reducible exact ea_nil | with_reducible exact eo_none | with_reducible refine' ea_cons ?_ ?_ | with_reducible refine' eo_some ?_ | with_reducible refine' ev_and2 ?_ ?_ | with_reducible refine' ev_or2 ?_ ?_ | with_reducible refine' ev_notV ?_ | with_reducible exact ru_I | with_reducible refine' ev_un ?_ ?_ | with_reducible exact rv_I0 | with_reducible exact rv_isN | with_reducible exact rv_notN | with_reducible refine' rv_I ?_ | with_reducible refine' rv_eq ?_ | with_reducible refine' rv_ne ?_ | with_reducible refine' ev_op ?_ ?_ ?_ | with_reducible refine' ev_chain2 ?_ ?_ ?_ ?_ ?_ | with_reducible refine' et_B ?_ | with_reducible refine' et_test ?_ | with_reducible refine' et_and2 ?_ ?_ | with_reducible refine' et_or2 ?_ ?_ | with_reducible refine' et_not ?_ | with_reducible refine' ev_call ?_ ?_ | with_reducible refine' ev_callS ?_ ?_ | with_reducible refine' ev_cb ?_ ?_ | with_reducible exact isi_bool (by assumption) | with_reducible exact isi_int (by assumption) | with_reducible exact isi_list (by assumption) | with_reducible exact rc_len (by assumption) | with_reducible exact rc_sum (by assumption) | with_reducible exact rc_abs | with_reducible exact isi_listL (by assumption) | with_reducible exact isi_intI | with_reducible exact isi_boolI | with_reducible exact rc_lenT (by assumption) | with_reducible exact isi_tup (by assumption) | with_reducible exact rv_eqL (by assumption) (by assumption) | with_reducible exact rv_neL (by assumption) (by assumption) | with_reducible exact rv_neT (by assumption) (by assumption) | with_reducible exact rv_ixL (by assumption) (by assumption) | with_reducible exact rv_ixT (by assumption) (by assumption) | with_reducible refine' ev_din ?_ ?_ (by assumption) | with_reducible refine' ev_dnotin ?_ ?_ (by assumption) | with_reducible refine' ev_dget ?_ ?_ (by assumption) (by assumption) | ((with_reducible show SpV _ _ _ _); assumption) | ((with_reducible show RV _ _ _ _ _); assumption) | ((with_reducible show RC _ _ _ _); assumption) | ((with_reducible show CDiv _ _); exact ⟨by omega, by omega⟩) | ((with_reducible show CMul _ _); first | exact .inl ⟨by omega, by omega⟩ | exact .inr ⟨by omega, by omega⟩) | ((with_reducible show CPow _ _); exact ⟨by omega, by omega, by first | decide | assumption | omega⟩) | ((with_reducible show (0 : Int) < _); omega) | ((with_reducible show (0 : Int) ≤ _); omega) | ((with_reducible show scal _ _ = true); rfl)))) (by (repeat' (first | with_reducible exact ev_c | ((with_reducible show Ev (tVar _) _ _ _); exact ev_var rfl) | with_reducible exact ea_nil | with_reducible exact eo_none | with_reducible refine' ea_cons ?_ ?_ | with_reducible refine' eo_some ?_ | with_reducible refine' ev_and2 ?_ ?_ | with_reducible refine' ev_or2 ?_ ?_ | with_reducible refine' ev_notV ?_ | with_reducible exact ru_I | with_reducible refine' ev_un ?_ ?_ | with_reducible exact rv_I0 | with_reducible exact rv_isN | with_reducible exact rv_notN | with_reducible refine' rv_I ?_ | with_reducible refine' rv_eq ?_ | with_reducible refine' rv_ne ?_ | with_reducible refine' ev_op ?_ ?_ ?_ | with_reducible refine' ev_chain2 ?_ ?_ ?_ ?_ ?_ | with_reducible refine' et_B ?_ | with_reducible refine' et_test ?_ | with_reducible refine' et_and2 ?_ ?_ | with_reducible refine' et_or2 ?_ ?_ | with_reducible refine' et_not ?_ | with_reducible refine' ev_call ?_ ?_ | with_reducible refine' ev_callS ?_ ?_ | with_reducible refine' ev_cb ?_ ?_ | with_reducible exact isi_bool (by assumption) | with_reducible exact isi_int (by assumption) | with_reducible exact isi_list (by assumption) | with_reducible exact rc_len (by assumption) | with_reducible exact rc_sum (by assumption) | with_reducible exact rc_abs | with_reducible exact isi_listL (by assumption) | with_reducible exact isi_intI | with_reducible exact isi_boolI | with_reducible exact rc_lenT (by assumption) | with_reducible exact isi_tup (by assumption) | with_reducible exact rv_eqL (by assumption) (by assumption) | with_reducible exact rv_neL (by assumption) (by assumption) | with_reducible exact rv_neT (by assumption) (by assumption) | with_reducible exact rv_ixL (by assumption) (by assumption) | with_reducible exact rv_ixT (by assumption) (by assumption) | with_reducible refine' ev_din ?_ ?_ (by assumption) | with_reducible refine' ev_dnotin ?_ ?_ (by assumption) | with_reducible refine' ev_dget ?_ ?_ (by assumption) (by assumption) | ((with_reducible show SpV _ _ _ _); assumption) | ((with_reducible show RV _ _ _ _ _); assumption) | ((with_reducible show RC _ _ _ _); assumption) | ((with_reducible show CDiv _ _); exact ⟨by omega, by omega⟩) | ((with_reducible show CMul _ _); first | exact .inl ⟨by omega, by omega⟩ | exact .inr ⟨by omega, by omega⟩) | ((with_reducible show CPow _ _); exact ⟨by omega, by omega, by first | decide | assumption | omega⟩) | ((with_reducible show (0 : Int) < _); omega) | ((with_reducible show (0 : Int) ≤ _); omega) | ((with_reducible show scal _ _ = true); rfl)))) (by rw [kvF_len, List.length_map, List.length_take]; omega) fun H8 e8 => ?_
        rw [kvF_put hno]
        refine ⟨some (V.int (y : Int)), rfl, Ex.mut (e7.trans e8) tdH, ?_, ?_, ?_⟩
        · rw [upd_ne ntf]
          exact e8 _ _ hf7
        · rw [upd_ne npt]
          exact e8 _ _ hp7
        · rw [upd_same, List.take_add_one, hy, List.map_append, ← hfd]
          rfl
      · rintro p σ' H7 ⟨y5, rfl, e7, hf7, hp7, ht7⟩
        rw [show (ntV (classN k a)).length = (classN k a).length by simp [ntV], List.take_length] at ht7
        exact s_ret (v := .ref td) (by (repeat' (first | with_reducible exact ev_c | ((with_reducible show Ev (tVar _) _ _ _); exact ev_var rfl) | with_reducible exact ea_nil | with_reducible exact eo_none | with_reducible refine' ea_cons ?_ ?_ | with_reducible refine' eo_some ?_ | with_reducible refine' ev_and2 ?_ ?_ | with_reducible refine' ev_or2 ?_ ?_ | with_reducible refine' ev_notV ?_ | with_reducible exact ru_I | with_reducible refine' ev_un ?_ ?_ | with_reducible exact rv_I0 | with_reducible exact rv_isN | with_reducible exact rv_notN | with_reducible refine' rv_I ?_ | with_reducible refine' rv_eq ?_ | with_reducible refine' rv_ne ?_ | with_reducible refine' ev_op ?_ ?_ ?_ | with_reducible refine' ev_chain2 ?_ ?_ ?_ ?_ ?_ | with_reducible refine' et_B ?_ | with_reducible refine' et_test ?_ | with_reducible refine' et_and2 ?_ ?_ | with_reducible refine' et_or2 ?_ ?_ | with_reducible refine' et_not ?_ | with_reducible refine' ev_call ?_ ?_ | with_reducible refine' ev_callS ?_ ?_ | with_reducible refine' ev_cb ?_ ?_ | with_reducible exact isi_bool (by assumption) | with_reducible exact isi_int (by assumption) | with_reducible exact isi_list (by assumption) | with_reducible exact rc_len (by assumption) | with_reducible exact rc_sum (by assumption) | with_reducible exact rc_abs | with_reducible exact isi_listL (by assumption) | with_reducible exact isi_intI | with_reducible exact isi_boolI | with_reducible exact rc_lenT (by assumption) | with_reducible exact isi_tup (by assumption) | with_reducible exact rv_eqL (by assumption) (by assumption) | with_reducible exact rv_neL (by assumption) (by assumption) | with_reducible exact rv_neT (by assumption) (by assumption) | with_reducible exact rv_ixL (by assumption) (by assumption) | with_reducible exact rv_ixT (by assumption) (by assumption) | with_reducible refine' ev_din ?_ ?_ (by assumption) | with_reducible refine' ev_dnotin ?_ ?_ (by assumption) | with_reducible refine' ev_dget ?_ ?_ (by assumption) (by assumption) | ((with_reducible show SpV _ _ _ _); assumption) | ((with_reducible show RV _ _ _ _ _); assumption) | ((with_reducible show RC _ _ _ _); assumption) | ((with_reducible show CDiv _ _); exact ⟨by omega, by omega⟩) | ((with_reducible show CMul _ _); first | exact .inl ⟨by omega, by omega⟩ | exact .inr ⟨by omega, by omega⟩) | ((with_reducible show CPow _ _); exact ⟨by omega, by omega, by first | decide | assumption | omega⟩) | ((with_reducible show (0 : Int) < _); omega) | ((with_reducible show (0 : Int) ≤ _); omega) | ((with_reducible show scal _ _ = true); rfl)))) fun H8 e8 => q td (farD far) H8 tdH (e7.trans e8) (e8 _ _ ht7) dist

end TB

/-! ### lists of pairs -/
namespace TB
open PySem PySem.Spec PyProof.Rows L2 Evl
abbrev Stp := Int × Int
def HeldP (H : Hp) (ps : List Addr) (path : List Stp) : Prop := ps.length = path.length ∧ ∀ (i : Nat) (p : Addr) (s : Stp), ps[i]? = some p → path[i]? = some s → H p = some (.tup [.int s.1, .int s.2])
theorem HeldP.mono {H H2 : Hp} {ps : List Addr} {path : List Stp} (h : HeldP H ps path) (k : ∀ x u, H x = some (.tup u) → H2 x = some (.tup u)) : HeldP H2 ps path := ⟨h.1, fun i p s hp hs => k _ _ (h.2 i p s hp hs)⟩
theorem HeldP.snoc {H : Hp} {ps : List Addr} {path : List Stp} {p : Addr} {s : Stp} (h : HeldP H ps path) (hp : H p = some (.tup [.int s.1, .int s.2])) : HeldP H (ps ++ [p]) (path ++ [s]) := by
  refine ⟨by rw [List.length_append, List.length_append, h.1]; rfl, fun i q t hq ht => ?_⟩
  rcases Nat.lt_or_ge i ps.length with c | c
  · rw [List.getElem?_append_left c] at hq
    rw [List.getElem?_append_left (by rw [← h.1]; exact c)] at ht
    exact h.2 i q t hq ht
  · rw [List.getElem?_append_right c] at hq
    rw [List.getElem?_append_right (by rw [← h.1]; exact c), ← h.1] at ht
    have e : i - ps.length = 0 := by
      have := (List.getElem?_eq_some_iff.mp hq).1
      simp at this
      omega
    rw [e] at hq ht
    injection hq with hq
    injection ht with ht
    rw [← hq, ← ht]
    exact hp
theorem HeldP.take {H : Hp} {ps : List Addr} {path : List Stp} (h : HeldP H ps path) (j : Nat) : HeldP H (ps.take j) (path.take j) := by
  refine ⟨by rw [List.length_take, List.length_take, h.1], fun i q t hq ht => ?_⟩
  rcases Nat.lt_or_ge i j with c | c
  · rw [List.getElem?_take_of_lt c] at hq ht
    exact h.2 i q t hq ht
  · rw [List.getElem?_eq_none (by rw [List.length_take]; omega)] at hq
    cases hq
theorem HeldP.drop {H : Hp} {ps : List Addr} {path : List Stp} (h : HeldP H ps path) (j : Nat) : HeldP H (ps.drop j) (path.drop j) := by
  refine ⟨by rw [List.length_drop, List.length_drop, h.1], fun i q t hq ht => ?_⟩
  rw [List.getElem?_drop] at hq ht
  exact h.2 _ q t hq ht
section
variable {K : PySem.W.Frag} {σ : L2.St} {H : Hp} {tl : TE}
theorem fld_list {path : List Stp} (f : Stp → Int) {n : Nat} (hn : n = path.length) : given n (fun _ => true) (fun i => V.int (f (path.getD i (0, 0)))) = (path.map f).map V.int := by
  rw [given_all, hn]
  apply List.ext_getElem
  · simp
  · intro i h1 h2
    have h3 : i < path.length := by simpa using h2
    simp only [List.getElem_map, List.getElem_range]
    rw [List.getD_eq_getElem?_getD, List.getElem?_eq_getElem h3]
    rfl
theorem fld_at {ps : List Addr} {path : List Stp} {j : Nat} {c : Int} {f : Stp → Int} (hp : HeldP H ps path) (hf : ∀ p : Stp, atI [V.int p.1, V.int p.2] c = some (.int (f p))) {σ' : L2.St} {i : Nat} {x : V} (hj : σ'[j]? = some (some x)) (hx : (ps.map V.ref)[i]? = some x) {H1 : Hp} (e : Ex H H1) : Ev (tOp (rIxT K) (tVar j) (tC (.int c))) σ' H1 (.int (f (path.getD i (0, 0)))) := by
  rw [List.getElem?_map] at hx
  obtain ⟨p, hpi, rfl⟩ := Option.map_eq_some_iff.mp hx
  have hl : i < path.length := by
    have := (List.getElem?_eq_some_iff.mp hpi).1
    rw [← hp.1]
    exact this
  have hs : path[i]? = some (path.getD i (0, 0)) := by
    rw [List.getD_eq_getElem?_getD, List.getElem?_eq_getElem hl]
    rfl
  have ht : SqT K H1 p [V.int (path.getD i (0, 0)).1, V.int (path.getD i (0, 0)).2] := st_of (e _ _ (hp.2 i p _ hpi hs))
  exact ev_op (ev_var hj) ev_c (rv_ixT ht (hf _))
/-- [step[c] for step in path] -/
theorem el_fld {pa : Addr} {ps : List Addr} {path : List Stp} {j : Nat} {vs : List Nat} {c : Int} (f : Stp → Int) (h : Ev tl σ H (.ref pa)) (hx : SqL K H pa (ps.map V.ref)) (hp : HeldP H ps path) (hz : ps.length ≤ 40000) (hw : ∀ x, wipe ((wipe σ vs).set j (some x)) vs = wipe σ vs) (hj : ∀ x, ((wipe σ vs).set j (some x))[j]? = some (some x)) (hf : ∀ p : Stp, atI [V.int p.1, V.int p.2] c = some (.int (f p))) :
    EvL (tLc (iList K tl) (gName j) tYes (tOp (rIxT K) (tVar j) (tC (.int c))) vs) σ H ((path.map f).map V.int) := by
  rw [← fld_list f (n := (ps.map V.ref).length) (by rw [List.length_map, hp.1])]
  exact el_lcL (fun _ => true) (fun i => V.int (f (path.getD i (0, 0)))) h hx (by rw [List.length_map]; exact hz) hw (fun _ _ _ _ _ => et_yes) (fun i x H1 e hi _ => fld_at hp hf (hj x) hi e)
theorem el_fldN {ps : List Addr} {path : List Stp} {j : Nat} {vs : List Nat} {c : Int} (f : Stp → Int) (h : EvL tl σ H (ps.map V.ref)) (hp : HeldP H ps path) (hz : ps.length ≤ 40000) (hw : ∀ x, wipe ((wipe σ vs).set j (some x)) vs = wipe σ vs) (hj : ∀ x, ((wipe σ vs).set j (some x))[j]? = some (some x)) (hf : ∀ p : Stp, atI [V.int p.1, V.int p.2] c = some (.int (f p))) :
    EvL (tLc (iList K tl) (gName j) tYes (tOp (rIxT K) (tVar j) (tC (.int c))) vs) σ H ((path.map f).map V.int) := by
  rw [← fld_list f (n := (ps.map V.ref).length) (by rw [List.length_map, hp.1])]
  exact el_lcNL (fun _ => true) (fun i => V.int (f (path.getD i (0, 0)))) h (by rw [List.length_map]; exact hz) hw (fun _ _ _ _ _ => et_yes) (fun i x H1 e hi _ => fld_at hp hf (hj x) hi e)
end
theorem inV_int {x : Int} {ns : List Int} : inV (.int x) (ns.map V.int) = decide (x ∈ ns) := by
  unfold inV
  rw [List.any_map, Bool.eq_iff_iff, List.any_eq_true, decide_eq_true_iff]
  constructor
  · rintro ⟨y, hy, e⟩
    have : y = x := by simpa [eqV] using e
    rw [← this]
    exact hy
  · intro h
    exact ⟨x, h, by simp [eqV]⟩
theorem flat_ints (ns : List Int) : (ns.map V.int).all flatV = true := by
  rw [List.all_map, List.all_eq_true]
  intro x _
  rfl
def RetS (l : List Stp) (H : Hp) (Q : VK) : Prop := ∀ p ps H2, H p = none → Ex H H2 → H2 p = some (.lst (ps.map V.ref)) → HeldP H2 ps l → Q (.ref p) H2
/-- a reading that gives a new list of pairs -/
def EvS (te : TE) (σ : L2.St) (H : Hp) (l : List Stp) : Prop := ∀ H1, Ex H H1 → ∀ Q : VK, (∀ p ps H2, H1 p = none → Ex H1 H2 → H2 p = some (.lst (ps.map V.ref)) → HeldP H2 ps l → Q (.ref p) H2) → te σ H1 Q
section
variable {K : PySem.W.Frag} {σ : L2.St} {H : Hp} {tl t1 t2 : TE} {tt : TT} {tz : TS} {D : Ends}
def itemsS (f : Nat → Bool) (g : Nat → Stp) (n : Nat) : List Stp := (List.range n).filterMap fun t => if f t then some (g t) else none
theorem itemsS_succ (f : Nat → Bool) (g : Nat → Stp) (n : Nat) : itemsS f g (n + 1) = itemsS f g n ++ if f n then [g n] else [] := by
  unfold itemsS
  rw [List.range_succ, List.filterMap_append, List.filterMap_cons, List.filterMap_nil]
  congr 1
  cases f n <;> rfl
/-- [(a, b) for k in range(lo, n) if t] -/
theorem es_lcR2 {ta : TA} {j : Nat} {vs : List Nat} {lo n : Int} (f : Nat → Bool) (g : Nat → Stp) (h : EvA ta σ H [.int lo, .int n]) (hn : 0 ≤ lo ∧ lo ≤ n ∧ n ≤ 40000) (hw : ∀ x, wipe ((wipe σ vs).set j (some x)) vs = wipe σ vs)
    (ht : ∀ (i : Nat) H1, Ex H H1 → lo + (i : Int) < n → EvT tt ((wipe σ vs).set j (some (.int (lo + (i : Int))))) H1 (f i))
    (h1 : ∀ (i : Nat) H1, Ex H H1 → lo + (i : Int) < n → f i = true → Ev t1 ((wipe σ vs).set j (some (.int (lo + (i : Int))))) H1 (.int (g i).1)) (h2 : ∀ (i : Nat) H1, Ex H H1 → lo + (i : Int) < n → f i = true → Ev t2 ((wipe σ vs).set j (some (.int (lo + (i : Int))))) H1 (.int (g i).2)) :
    EvS (tLc (iRng2 ta) (gName j) tt (tTup (tCons t1 (tCons t2 tNil))) vs) σ H (itemsS f g (n - lo).toNat) := fun H0 e Q q => h H0 e _ fun H1 e1 => ⟨lo, n, rfl, ⟨by omega, by omega, by omega, by omega⟩, fun Dl hD =>
  lc_range (lo := lo) (n := (n - lo).toNat) (fun i H' => ∃ ps : List Addr, Ex H1 H' ∧ H' Dl = some (.lst (ps.map V.ref)) ∧ HeldP H' ps (itemsS f g i) ∧ ps.length ≤ i) ⟨[], Ex.new hD, upd_same, ⟨rfl, fun i p s h => by simp at h⟩, Nat.le_refl _⟩ (fun i H2 hi p => ⟨hw _, by
    obtain ⟨ps, p1, p2, p3, p4⟩ := p
    have hlt : lo + (i : Int) < n := by omega
    refine ht i H2 ((e.trans e1).trans p1) hlt H2 (Ex.refl H2) _ fun H3 e3 => ?_
    cases hf : f i with
    | false =>
      rw [if_neg Bool.false_ne_true]
      refine ⟨ps, p1.trans e3, e3 _ _ p2, ?_, by omega⟩
      rw [itemsS_succ, hf]
      rw [if_neg Bool.false_ne_true, List.append_nil]
      exact p3.mono fun x u hu => e3 _ _ hu
    | true =>
      rw [if_pos rfl]
      have ea : EvA (tCons t1 (tCons t2 tNil)) ((wipe σ vs).set j (some (.int (lo + (i : Int))))) H3 [.int (g i).1, .int (g i).2] := ea_cons (h1 i H3 (((e.trans e1).trans p1).trans e3) hlt hf) (ea_cons (h2 i H3 (((e.trans e1).trans p1).trans e3) hlt hf) ea_nil)
      refine eu_tup ea (by simp) H3 (Ex.refl H3) _ fun T H4 hT e4 h4 => ⟨ps.map V.ref, (e3.trans e4) _ _ p2, sz_lt (by rw [List.length_map]; omega), ps ++ [T], Ex.mut ((p1.trans e3).trans e4) hD, ?_, ?_, by rw [List.length_append]; simp; omega⟩
      · rw [upd_same, List.map_append]
        rfl
      · rw [itemsS_succ, hf]
        rw [if_pos rfl]
        refine HeldP.mono (H := H4) (HeldP.snoc (p3.mono fun x u hu => (e3.trans e4) _ _ hu) h4) fun x u hu => ?_
        rw [upd_ne fun z => by rw [z, (e3.trans e4) _ _ p2] at hu; cases hu]
        exact hu⟩) (fun H' ⟨ps, p1, p2, p3, _⟩ => q Dl ps H' (fresh_back e1 hD) (e1.trans p1) p2 p3)⟩
/-- x = [s for s in a new list of pairs if t][0] -/
theorem q_first {i j : Nat} {vs : List Nat} {l : List Stp} (f : Stp → Bool) (h : EvS tl σ H l) (hz : l.length ≤ 40000) (hw : ∀ x, wipe ((wipe σ vs).set j (some x)) vs = wipe σ vs) (hj : ∀ x, ((wipe σ vs).set j (some x))[j]? = some (some x))
    (ht : ∀ p s H1, Ex H H1 → H1 p = some (.tup [.int s.1, .int s.2]) → s ∈ l → EvT tt ((wipe σ vs).set j (some (.ref p))) H1 (f s)) (hex : ∃ s ∈ l, f s = true)
    (k : ∀ p s H1, s ∈ l → f s = true → Ex H H1 → H1 p = some (.tup [.int s.1, .int s.2]) → tz D (σ.set i (some (.ref p))) H1) :
    tSeq (tAsg (tOp (rIxL K) (tLc (iList K tl) (gName j) tt (tVar j) vs) (tC (.int 0))) (gName i)) tz D σ H := by
  refine h H (Ex.refl H) _ fun p ps H2 hp e2 h2 hP => ⟨p, rfl, ⟨ps.map V.ref, sq_of h2⟩, fun Dl hD => ?_⟩
  have hl := hP.1
  have at_ : ∀ {n : Nat} {x : V}, (ps.map V.ref)[n]? = some x → ∃ a, x = .ref a ∧ ps[n]? = some a ∧ l[n]? = some (l.getD n (0, 0)) ∧ H2 a = some (.tup [.int (l.getD n (0, 0)).1, .int (l.getD n (0, 0)).2]) := fun {n x} hx => by
    rw [List.getElem?_map] at hx
    obtain ⟨a, ha, rfl⟩ := Option.map_eq_some_iff.mp hx
    have hn : n < l.length := by
      rw [← hl]
      exact (List.getElem?_eq_some_iff.mp ha).1
    have hs : l[n]? = some (l.getD n (0, 0)) := by
      rw [List.getD_eq_getElem?_getD, List.getElem?_eq_getElem hn]
      rfl
    exact ⟨a, rfl, ha, hs, hP.2 n a _ ha hs⟩
  refine lc_list (xs := ps.map V.ref) (Cw H2 (fun n => f (l.getD n (0, 0))) (fun n => V.ref (ps.getD n 0)) Dl) ⟨hD, Ex.new hD, upd_same⟩ (fun n H' _ c => sq_of (c.2.1 p _ h2)) (fun n x H' hx c => ⟨hw x, cw_turn c (by
    have := (List.getElem?_eq_some_iff.mp hx).1
    rw [List.length_map] at this
    omega) ?_ (fun _ => ?_)⟩) (fun H' c => ?_)
  · obtain ⟨a, rfl, ha, hs, hh⟩ := at_ hx
    exact ht a _ H2 e2 hh (List.mem_of_getElem? hs)
  · obtain ⟨a, rfl, ha, hs, hh⟩ := at_ hx
    refine ev_is (ev_var (hj _)) ?_
    rw [List.getD_eq_getElem?_getD, ha]
    rfl
  · obtain ⟨c1, c2, c3⟩ := c
    obtain ⟨s, hs, hfs⟩ := hex
    obtain ⟨n, hn, ens⟩ := List.mem_iff_getElem.mp hs
    have hne : (List.range (ps.map V.ref).length).filter (fun n => f (l.getD n (0, 0))) ≠ [] := fun z => by
      rw [List.filter_eq_nil_iff] at z
      refine z n (List.mem_range.mpr (by rw [List.length_map, hl]; exact hn)) ?_
      rw [List.getD_eq_getElem?_getD, List.getElem?_eq_getElem hn, ens]
      exact hfs
    obtain ⟨n0, r, er⟩ := List.exists_cons_of_ne_nil hne
    have hm0 : n0 ∈ (List.range (ps.map V.ref).length).filter (fun n => f (l.getD n (0, 0))) := by
      rw [er]
      exact List.mem_cons_self
    obtain ⟨m1, m2⟩ := List.mem_filter.mp hm0
    have m1 := List.mem_range.mp m1
    obtain ⟨a, ea, ha, hs0, hh⟩ := at_ (n := n0) (List.getElem?_eq_getElem m1)
    have eg : atI (given (ps.map V.ref).length (fun n => f (l.getD n (0, 0))) (fun n => V.ref (ps.getD n 0))) ((0 : Nat) : Int) = some (.ref a) := by
      refine atI_nat ?_
      unfold given
      rw [er, List.map_cons]
      show some (V.ref (ps.getD n0 0)) = some (.ref a)
      rw [List.getD_eq_getElem?_getD, ha]
      rfl
    refine ⟨Dl, _, 0, _, rfl, rfl, sq_of c3, eg, ?_⟩
    exact k a _ H' (List.mem_of_getElem? hs0) m2 (e2.trans c2) (c2 _ _ hh)
end
end TB

/-! ### bits_of, steps_from, way -/
namespace TB
open PySem PySem.Spec PyProof.Rows L2 Evl
def popB : Bool := (List.range 1024).all fun s => decide (s = 0) || (decide ((s &&& (s - 1)) < s) && decide (popN (s &&& (s - 1)) + 1 = popN s))
theorem popB_ok : popB = true := by decide +kernel
theorem pop_at {s : Nat} (hs : s < 1024) (h0 : 0 < s) : (s &&& (s - 1)) < s ∧ popN (s &&& (s - 1)) + 1 = popN s := by
  have h := popB_ok
  unfold popB at h
  rw [List.all_eq_true] at h
  have h2 := h s (List.mem_range.mpr hs)
  rw [Bool.or_eq_true, Bool.and_eq_true, decide_eq_true_iff, decide_eq_true_iff, decide_eq_true_iff] at h2
  rcases h2 with z | z
  · omega
  · exact z
def sp_bits_of (K : PySem.W.Frag) : Sp := fun vs H Q E => ∃ (s : Nat), vs = [.int (s : Int)] ∧ s < 1024 ∧ RetV (.int (popN s : Int)) H Q
theorem sc_bits_of : FnScope ["state", "count"] ["state"] (defScope s_bits_of) := ⟨rfl, rfl, rfl, by decide +kernel, rfl, by decide +kernel, by decide +kernel⟩
theorem ok_bits_of {P : Program} {w : World} {K : PySem.W.Frag} {mg : Str → Option Value} {base : Heap} (T : TXT K mg) : OK P w K mg base "bits_of" ["state"] 1 (sp_bits_of K) := by
  obtain ⟨fd, F⟩ := T.def_ 2
  refine ⟨_, fd, T.glo 2, F.kp, F.bindsN (fun _ _ _ _ _ _ us hl => match us, hl with | [_], _ => rfl), F.ok sc_bits_of (fun vs H Q E h => ?_) (fun cdv A outer s H vs Q E hr h => ?_), F.bindsA (fun _ _ _ _ _ _ us hl => match us, hl with | [_], _ => rfl)⟩
  · first | (obtain ⟨rfl, _⟩ := h; rfl) | (obtain ⟨_, rfl, _⟩ := h; rfl) | (obtain ⟨_, _, rfl, _⟩ := h; rfl) | (obtain ⟨_, _, _, rfl, _⟩ := h; rfl) | (obtain ⟨_, _, _, _, rfl, _⟩ := h; rfl) | (obtain ⟨_, _, _, _, _, rfl, _⟩ := h; rfl) | (obtain ⟨_, _, _, _, _, _, rfl, _⟩ := h; rfl) | (obtain ⟨_, _, _, _, _, _, _, rfl, _⟩ := h; rfl) | (obtain ⟨_, _, _, _, _, _, _, _, rfl, _⟩ := h; rfl)
  · replace F : FunD K "bits_of" "bits_of" (defArgs s_bits_of) (defBody s_bits_of) (defScope s_bits_of) [] [] (He.ga K "bits_of") fd := F
    refine ⟨_, (pss_cons (ps_set (i := 1) sc_bits_of.nd rfl (Or.inl rfl) pe_int)
      (pss_cons (ps_while (passes_of rfl) (pt_cmpR op_gt (pv 0) pe_int (nomark _))
        (pss_cons (ps_aug (i := 0) sc_bits_of.nd rfl (Or.inl rfl) (pe_op op_sub (pv 0) pe_int) iop_and)
      (pss_one (ps_aug (i := 1) sc_bits_of.nd rfl (Or.inl rfl) pe_int iop_add))))
      (pss_one (ps_ret (pv 1))))), ?_⟩
    obtain ⟨s, rfl, hs, q⟩ := h
    dsimp only [cxOf, L2.start, List.map_cons, List.map_nil, List.length_cons, List.length_nil, Nat.reduceAdd, Nat.reduceSub, List.replicate_succ, List.replicate_zero, List.cons_append, List.nil_append, Nat.zero_add, List.reduceReplicate, List.map]
    refine q_asg (v := .int 0) (by (repeat' (first | with_reducible exact ev_c | ((with_reducible show Ev (tVar _) _ _ _); exact ev_var rfl) | with_reducible exact ea_nil | with_reducible exact eo_none | with_reducible refine' ea_cons ?_ ?_ | with_reducible refine' eo_some ?_ | with_reducible refine' ev_and2 ?_ ?_ | with_reducible refine' ev_or2 ?_ ?_ | with_reducible refine' ev_notV ?_ | with_reducible exact ru_I | with_reducible refine' ev_un ?_ ?_ | with_reducible exact rv_I0 | with_reducible exact rv_isN | with_reducible exact rv_notN | with_reducible refine' rv_I ?_ | with_reducible refine' rv_eq ?_ | with_reducible refine' rv_ne ?_ | with_reducible refine' ev_op ?_ ?_ ?_ | with_reducible refine' ev_chain2 ?_ ?_ ?_ ?_ ?_ | with_reducible refine' et_B ?_ | with_reducible refine' et_test ?_ | with_reducible refine' et_and2 ?_ ?_ | with_reducible refine' et_or2 ?_ ?_ | with_reducible refine' et_not ?_ | with_reducible refine' ev_call ?_ ?_ | with_reducible refine' ev_callS ?_ ?_ | with_reducible refine' ev_cb ?_ ?_ | with_reducible exact isi_bool (by assumption) | with_reducible exact isi_int (by assumption) | with_reducible exact isi_list (by assumption) | with_reducible exact rc_len (by assumption) | with_reducible exact rc_sum (by assumption) | with_reducible exact rc_abs | with_reducible exact isi_listL (by assumption) | with_reducible exact isi_intI | with_reducible exact isi_boolI | with_reducible exact rc_lenT (by assumption) | with_reducible exact isi_tup (by assumption) | with_reducible exact rv_eqL (by assumption) (by assumption) | with_reducible exact rv_neL (by assumption) (by assumption) | with_reducible exact rv_neT (by assumption) (by assumption) | with_reducible exact rv_ixL (by assumption) (by assumption) | with_reducible exact rv_ixT (by assumption) (by assumption) | with_reducible refine' ev_din ?_ ?_ (by assumption) | with_reducible refine' ev_dnotin ?_ ?_ (by assumption) | with_reducible refine' ev_dget ?_ ?_ (by assumption) (by assumption) | ((with_reducible show SpV _ _ _ _); assumption) | ((with_reducible show RV _ _ _ _ _); assumption) | ((with_reducible show RC _ _ _ _); assumption) | ((with_reducible show CDiv _ _); exact ⟨by omega, by omega⟩) | ((with_reducible show CMul _ _); first | exact .inl ⟨by omega, by omega⟩ | exact .inr ⟨by omega, by omega⟩) | ((with_reducible show CPow _ _); exact ⟨by omega, by omega, by first | decide | assumption | omega⟩) | ((with_reducible show (0 : Int) < _); omega) | ((with_reducible show (0 : Int) ≤ _); omega) | ((with_reducible show scal _ _ = true); rfl)))) fun H1 e1 => ?_
    refine q_while (fun m σ' H' => ∃ (x c : Nat), σ' = [some (V.int (x : Int)), some (V.int (c : Int))] ∧ Ex H H' ∧ x < 1024 ∧ c + popN x = popN s ∧ m = x) s ⟨s, 0, rfl, e1, hs, by omega, rfl⟩ ?_
    rintro m σ' H' ⟨x, c, rfl, e2, hx, hc, rfl⟩
    refine ⟨decide ((0 : Int) < (m : Int)), by (repeat' (first | with_reducible exact ev_c | ((with_reducible show Ev (tVar _) _ _ _); exact ev_var rfl) | with_reducible exact ea_nil | with_reducible exact eo_none | with_reducible refine' ea_cons ?_ ?_ | with_reducible refine' eo_some ?_ | with_reducible refine' ev_and2 ?_ ?_ | with_reducible refine' ev_or2 ?_ ?_ | with_reducible refine' ev_notV ?_ | with_reducible exact ru_I | with_reducible refine' ev_un ?_ ?_ | with_reducible exact rv_I0 | with_reducible exact rv_isN | with_reducible exact rv_notN | with_reducible refine' rv_I ?_ | with_reducible refine' rv_eq ?_ | with_reducible refine' rv_ne ?_ | with_reducible refine' ev_op ?_ ?_ ?_ | with_reducible refine' ev_chain2 ?_ ?_ ?_ ?_ ?_ | with_reducible refine' et_B ?_ | with_reducible refine' et_test ?_ | with_reducible refine' et_and2 ?_ ?_ | with_reducible refine' et_or2 ?_ ?_ | with_reducible refine' et_not ?_ | with_reducible refine' ev_call ?_ ?_ | with_reducible refine' ev_callS ?_ ?_ | with_reducible refine' ev_cb ?_ ?_ | with_reducible exact isi_bool (by assumption) | with_reducible exact isi_int (by assumption) | with_reducible exact isi_list (by assumption) | with_reducible exact rc_len (by assumption) | with_reducible exact rc_sum (by assumption) | with_reducible exact rc_abs | with_reducible exact isi_listL (by assumption) | with_reducible exact isi_intI | with_reducible exact isi_boolI | with_reducible exact rc_lenT (by assumption) | with_reducible exact isi_tup (by assumption) | with_reducible exact rv_eqL (by assumption) (by assumption) | with_reducible exact rv_neL (by assumption) (by assumption) | with_reducible exact rv_neT (by assumption) (by assumption) | with_reducible exact rv_ixL (by assumption) (by assumption) | with_reducible exact rv_ixT (by assumption) (by assumption) | with_reducible refine' ev_din ?_ ?_ (by assumption) | with_reducible refine' ev_dnotin ?_ ?_ (by assumption) | with_reducible refine' ev_dget ?_ ?_ (by assumption) (by assumption) | ((with_reducible show SpV _ _ _ _); assumption) | ((with_reducible show RV _ _ _ _ _); assumption) | ((with_reducible show RC _ _ _ _); assumption) | ((with_reducible show CDiv _ _); exact ⟨by omega, by omega⟩) | ((with_reducible show CMul _ _); first | exact .inl ⟨by omega, by omega⟩ | exact .inr ⟨by omega, by omega⟩) | ((with_reducible show CPow _ _); exact ⟨by omega, by omega, by first | decide | assumption | omega⟩) | ((with_reducible show (0 : Int) < _); omega) | ((with_reducible show (0 : Int) ≤ _); omega) | ((with_reducible show scal _ _ = true); rfl))), fun hb H2 e3 => ?_, fun hb H2 e3 => ?_⟩
    · have hb := of_decide_eq_true hb
      obtain ⟨p1, p2⟩ := pop_at hx (by omega)
      refine ⟨fun σ' H' => ∃ (y c : Nat), σ' = [some (V.int (y : Int)), some (V.int (c : Int))] ∧ Ex H H' ∧ y < 1024 ∧ c + popN y = popN s ∧ y < m, fun σ2 H2 h => ?_, ?_⟩
      · obtain ⟨y, c2, g1, g2, g3, g4, g5⟩ := h
        exact ⟨y, g5, y, c2, g1, g2, g3, g4, rfl⟩
      refine q_aug (f := Builtin.bitAnd) (a := (m : Int)) (b := (m : Int) - 1) rfl (by (repeat' (first | with_reducible exact ev_c | ((with_reducible show Ev (tVar _) _ _ _); exact ev_var rfl) | with_reducible exact ea_nil | with_reducible exact eo_none | with_reducible refine' ea_cons ?_ ?_ | with_reducible refine' eo_some ?_ | with_reducible refine' ev_and2 ?_ ?_ | with_reducible refine' ev_or2 ?_ ?_ | with_reducible refine' ev_notV ?_ | with_reducible exact ru_I | with_reducible refine' ev_un ?_ ?_ | with_reducible exact rv_I0 | with_reducible exact rv_isN | with_reducible exact rv_notN | with_reducible refine' rv_I ?_ | with_reducible refine' rv_eq ?_ | with_reducible refine' rv_ne ?_ | with_reducible refine' ev_op ?_ ?_ ?_ | with_reducible refine' ev_chain2 ?_ ?_ ?_ ?_ ?_ | with_reducible refine' et_B ?_ | with_reducible refine' et_test ?_ | with_reducible refine' et_and2 ?_ ?_ | with_reducible refine' et_or2 ?_ ?_ | with_reducible refine' et_not ?_ | with_reducible refine' ev_call ?_ ?_ | with_reducible refine' ev_callS ?_ ?_ | with_reducible refine' ev_cb ?_ ?_ | with_reducible exact isi_bool (by assumption) | with_reducible exact isi_int (by assumption) | with_reducible exact isi_list (by assumption) | with_reducible exact rc_len (by assumption) | with_reducible exact rc_sum (by assumption) | with_reducible exact rc_abs | with_reducible exact isi_listL (by assumption) | with_reducible exact isi_intI | with_reducible exact isi_boolI | with_reducible exact rc_lenT (by assumption) | with_reducible exact isi_tup (by assumption) | with_reducible exact rv_eqL (by assumption) (by assumption) | with_reducible exact rv_neL (by assumption) (by assumption) | with_reducible exact rv_neT (by assumption) (by assumption) | with_reducible exact rv_ixL (by assumption) (by assumption) | with_reducible exact rv_ixT (by assumption) (by assumption) | with_reducible refine' ev_din ?_ ?_ (by assumption) | with_reducible refine' ev_dnotin ?_ ?_ (by assumption) | with_reducible refine' ev_dget ?_ ?_ (by assumption) (by assumption) | ((with_reducible show SpV _ _ _ _); assumption) | ((with_reducible show RV _ _ _ _ _); assumption) | ((with_reducible show RC _ _ _ _); assumption) | ((with_reducible show CDiv _ _); exact ⟨by omega, by omega⟩) | ((with_reducible show CMul _ _); first | exact .inl ⟨by omega, by omega⟩ | exact .inr ⟨by omega, by omega⟩) | ((with_reducible show CPow _ _); exact ⟨by omega, by omega, by first | decide | assumption | omega⟩) | ((with_reducible show (0 : Int) < _); omega) | ((with_reducible show (0 : Int) ≤ _); omega) | ((with_reducible show scal _ _ = true); rfl)))) fun H3 e4 => ?_
      have e : Builtin.bitAnd (m : Int) ((m : Int) - 1) = ((m &&& (m - 1) : Nat) : Int) := by
        rw [PyProof.Rows.bitAnd_pp (Int.natCast_nonneg _) (by omega), Int.toNat_natCast, show ((m : Int) - 1).toNat = m - 1 by omega]
      rw [e]
      exact s_aug (a := (c : Int)) (b := 1) rfl (by (repeat' (first | with_reducible exact ev_c | ((with_reducible show Ev (tVar _) _ _ _); exact ev_var rfl) | with_reducible exact ea_nil | with_reducible exact eo_none | with_reducible refine' ea_cons ?_ ?_ | with_reducible refine' eo_some ?_ | with_reducible refine' ev_and2 ?_ ?_ | with_reducible refine' ev_or2 ?_ ?_ | with_reducible refine' ev_notV ?_ | with_reducible exact ru_I | with_reducible refine' ev_un ?_ ?_ | with_reducible exact rv_I0 | with_reducible exact rv_isN | with_reducible exact rv_notN | with_reducible refine' rv_I ?_ | with_reducible refine' rv_eq ?_ | with_reducible refine' rv_ne ?_ | with_reducible refine' ev_op ?_ ?_ ?_ | with_reducible refine' ev_chain2 ?_ ?_ ?_ ?_ ?_ | with_reducible refine' et_B ?_ | with_reducible refine' et_test ?_ | with_reducible refine' et_and2 ?_ ?_ | with_reducible refine' et_or2 ?_ ?_ | with_reducible refine' et_not ?_ | with_reducible refine' ev_call ?_ ?_ | with_reducible refine' ev_callS ?_ ?_ | with_reducible refine' ev_cb ?_ ?_ | with_reducible exact isi_bool (by assumption) | with_reducible exact isi_int (by assumption) | with_reducible exact isi_list (by assumption) | with_reducible exact rc_len (by assumption) | with_reducible exact rc_sum (by assumption) | with_reducible exact rc_abs | with_reducible exact isi_listL (by assumption) | with_reducible exact isi_intI | with_reducible exact isi_boolI | with_reducible exact rc_lenT (by assumption) | with_reducible exact isi_tup (by assumption) | with_reducible exact rv_eqL (by assumption) (by assumption) | with_reducible exact rv_neL (by assumption) (by assumption) | with_reducible exact rv_neT (by assumption) (by assumption) | with_reducible exact rv_ixL (by assumption) (by assumption) | with_reducible exact rv_ixT (by assumption) (by assumption) | with_reducible refine' ev_din ?_ ?_ (by assumption) | with_reducible refine' ev_dnotin ?_ ?_ (by assumption) | with_reducible refine' ev_dget ?_ ?_ (by assumption) (by assumption) | ((with_reducible show SpV _ _ _ _); assumption) | ((with_reducible show RV _ _ _ _ _); assumption) | ((with_reducible show RC _ _ _ _); assumption) | ((with_reducible show CDiv _ _); exact ⟨by omega, by omega⟩) | ((with_reducible show CMul _ _); first | exact .inl ⟨by omega, by omega⟩ | exact .inr ⟨by omega, by omega⟩) | ((with_reducible show CPow _ _); exact ⟨by omega, by omega, by first | decide | assumption | omega⟩) | ((with_reducible show (0 : Int) < _); omega) | ((with_reducible show (0 : Int) ≤ _); omega) | ((with_reducible show scal _ _ = true); rfl)))) fun H4 e5 => ⟨m &&& (m - 1), c + 1, rfl, ((e2.trans e3).trans e4).trans e5, by omega, by omega, p1⟩
    · have hb := of_decide_eq_false hb
      have : m = 0 := by omega
      subst this
      have z : popN 0 = 0 := by decide
      rw [z] at hc
      exact s_ret (v := .int (popN s : Int)) (ev_is (v := .int (c : Int)) (ev_var rfl) (congrArg V.int (by omega))) fun H4 e5 => q H4 ((e2.trans e3).trans e5)

/-- the throws a state lets, each with the state behind it -/
def stepsN (m x : Nat) : List (Nat × Nat) := if x % 2 = 0 then [(0, x / 2)] else (List.range m).filterMap fun t => if x / 2 ^ (t + 1) % 2 = 0 then some (t + 1, x / 2 + 2 ^ t) else none
def natP (p : Nat × Nat) : Stp := ((p.1 : Int), (p.2 : Int))
theorem steps_succ (m x : Nat) : (stepsN m x).map Prod.snd = succN m x := by
  unfold stepsN succN
  by_cases h : x % 2 = 0
  · rw [if_pos h, if_pos h]
    rfl
  · rw [if_neg h, if_neg h, List.map_filterMap]
    congr 1
    funext t
    by_cases c : x / 2 ^ (t + 1) % 2 = 0
    · rw [if_pos c, if_pos c]
      rfl
    · rw [if_neg c, if_neg c]
      rfl
theorem orB_ok : ((List.range 1024).all fun x => (List.range 10).all fun t => decide (x / 2 ^ (t + 1) % 2 = 1) || decide ((x / 2 ||| 2 ^ t) = x / 2 + 2 ^ t)) = true := by decide +kernel
theorem or_at {x t : Nat} (hx : x < 1024) (ht : t < 10) (h : x / 2 ^ (t + 1) % 2 = 0) : (x / 2 ||| 2 ^ t) = x / 2 + 2 ^ t := by
  have z := orB_ok
  rw [List.all_eq_true] at z
  have z2 := z x (List.mem_range.mpr hx)
  rw [List.all_eq_true] at z2
  have z3 := z2 t (List.mem_range.mpr ht)
  rw [Bool.or_eq_true, decide_eq_true_iff, decide_eq_true_iff] at z3
  rcases z3 with w | w
  · omega
  · exact w
def sp_steps_from (K : PySem.W.Frag) : Sp := fun vs H Q E => ∃ (x m : Nat), vs = [.int (x : Int), .int (m : Int)] ∧ 1 ≤ m ∧ m ≤ 10 ∧ x < 2 ^ m ∧ RetS ((stepsN m x).map natP) H Q
theorem div_pow_nat (s k : Nat) : (s : Int) / 2 ^ k % 2 = ((s / 2 ^ k % 2 : Nat) : Int) := by
  rw [Int.natCast_emod, Int.natCast_ediv, Int.natCast_pow]
  rfl
theorem half_nat (x : Nat) : (x : Int) / 2 ^ (1 : Int).toNat = ((x / 2 : Nat) : Int) := by
  rw [show (2 : Int) ^ (1 : Int).toNat = 2 by decide]
  rfl
theorem es_one {σ : L2.St} {H : Hp} {t1 t2 : TE} {s : Stp} (h1 : Ev t1 σ H (.int s.1)) (h2 : Ev t2 σ H (.int s.2)) : EvS (tLst (tCons (tTup (tCons t1 (tCons t2 tNil))) tNil)) σ H [s] := fun H0 e Q q => by
  show tTup (tCons t1 (tCons t2 tNil)) σ H0 (fun x H1 => [x].length ≤ sizeLine ∧ ∀ p, H1 p = none → Q (.ref p) (upd H1 p (.lst [x])))
  exact eu_tup (ea_cons h1 (ea_cons h2 ea_nil)) (by simp) H0 e _ fun T H2 hT e2 h => ⟨sz_of (by simp), fun p hp => q p [T] _ (fresh_back e2 hp) (e2.trans (Ex.new hp)) upd_same ⟨rfl, fun i a s ha hs => by
    cases i with
    | zero =>
      injection ha with ha
      injection hs with hs
      rw [← ha, ← hs, upd_ne (ne_of_none h hp)]
      exact h
    | succ i => simp at ha⟩⟩
theorem s_retS {σ : L2.St} {H : Hp} {te : TE} {D : Ends} {l : List Stp} (h : EvS te σ H l) (k : RetS l H D.rt) : tRet te D σ H := h H (Ex.refl H) _ k
theorem sc_steps_from : FnScope ["state", "most", "throw"] ["state", "most"] (defScope s_steps_from) := ⟨rfl, rfl, rfl, by decide +kernel, rfl, by decide +kernel, by decide +kernel⟩
theorem ok_steps_from {P : Program} {w : World} {K : PySem.W.Frag} {mg : Str → Option Value} {base : Heap} (T : TXT K mg) : OK P w K mg base "steps_from" ["state", "most"] 1 (sp_steps_from K) := by
  obtain ⟨fd, F⟩ := T.def_ 6
  refine ⟨_, fd, T.glo 6, F.kp, F.bindsN (fun _ _ _ _ _ _ us hl => match us, hl with | [_, _], _ => rfl), F.ok sc_steps_from (fun vs H Q E h => ?_) (fun cdv A outer s H vs Q E hr h => ?_), F.bindsA (fun _ _ _ _ _ _ us hl => match us, hl with | [_, _], _ => rfl)⟩
  · first | (obtain ⟨rfl, _⟩ := h; rfl) | (obtain ⟨_, rfl, _⟩ := h; rfl) | (obtain ⟨_, _, rfl, _⟩ := h; rfl) | (obtain ⟨_, _, _, rfl, _⟩ := h; rfl) | (obtain ⟨_, _, _, _, rfl, _⟩ := h; rfl) | (obtain ⟨_, _, _, _, _, rfl, _⟩ := h; rfl) | (obtain ⟨_, _, _, _, _, _, rfl, _⟩ := h; rfl) | (obtain ⟨_, _, _, _, _, _, _, rfl, _⟩ := h; rfl) | (obtain ⟨_, _, _, _, _, _, _, _, rfl, _⟩ := h; rfl)
  · replace F : FunD K "steps_from" "steps_from" (defArgs s_steps_from) (defBody s_steps_from) (defScope s_steps_from) [] [] (He.ga K "steps_from") fd := F
    refine ⟨_, (pss_cons (ps_if (pt_cmpR op_eq (pe_op op_and (pv 0) pe_int) pe_int (nomark _))
        (pss_one (ps_ret (pe_lst (pa_cons (pe_tup (pa_cons pe_int (pa_cons (pe_op op_shr (pv 0) pe_int) pa_nil))) pa_nil))))
        pss_nil)
      (pss_one (ps_ret (pe_lc (own := [("throw", 2)]) (g := gName 2) rfl sc_steps_from.nd (pi_range2 (by rfl) (T.free 24) (pa_cons pe_int (pa_cons (pe_op op_add (pv 1) pe_int) pa_nil))) (blkOk_by (N := ["state", "most", "throw"]) (sc := defScope s_steps_from) (by decide +kernel)) (fun _ _ _ _ _ => pg_name (i := 2) sc_steps_from.nd rfl (Or.inl rfl)) (fun _ _ _ _ _ => pts_one (pt_cmpR op_eq (pe_op op_and (pe_op op_shr (pv 0) (pv 2)) pe_int) pe_int (nomark _))) (fun _ _ _ _ _ => (pe_tup (pa_cons (pv 2) (pa_cons (pe_op op_or (pe_op op_shr (pv 0) pe_int) (pe_op op_shl pe_int (pe_op op_sub (pv 2) pe_int))) pa_nil)))))))), ?_⟩
    obtain ⟨x, m, rfl, h1, h10, hx, q⟩ := h
    dsimp only [cxOf, L2.start, List.map_cons, List.map_nil, List.length_cons, List.length_nil, Nat.reduceAdd, Nat.reduceSub, List.replicate_succ, List.replicate_zero, List.cons_append, List.nil_append, Nat.zero_add, List.reduceReplicate, List.map]
    have p10 := pow_le10 h10
    have hb := half_nat x
    refine q_when (b := decide (x % 2 = 0)) ?_ (fun h H1 e1 => ?_) (fun h H1 e1 => ?_)
    · apply et_is
      · (repeat' (first | with_reducible exact ev_c | ((with_reducible show Ev (tVar _) _ _ _); exact ev_var rfl) | with_reducible exact ea_nil | with_reducible exact eo_none | with_reducible refine' ea_cons ?_ ?_ | with_reducible refine' eo_some ?_ | with_reducible refine' ev_and2 ?_ ?_ | with_reducible refine' ev_or2 ?_ ?_ | with_reducible refine' ev_notV ?_ | with_reducible exact ru_I | with_reducible refine' ev_un ?_ ?_ | with_reducible exact rv_I0 | with_reducible exact rv_isN | with_reducible exact rv_notN | with_reducible refine' rv_I ?_ | with_reducible refine' rv_eq ?_ | with_reducible refine' rv_ne ?_ | with_reducible refine' ev_op ?_ ?_ ?_ | with_reducible refine' ev_chain2 ?_ ?_ ?_ ?_ ?_ | with_reducible refine' et_B ?_ | with_reducible refine' et_test ?_ | with_reducible refine' et_and2 ?_ ?_ | with_reducible refine' et_or2 ?_ ?_ | with_reducible refine' et_not ?_ | with_reducible refine' ev_call ?_ ?_ | with_reducible refine' ev_callS ?_ ?_ | with_reducible refine' ev_cb ?_ ?_ | with_reducible exact isi_bool (by assumption) | with_reducible exact isi_int (by assumption) | with_reducible exact isi_list (by assumption) | with_reducible exact rc_len (by assumption) | with_reducible exact rc_sum (by assumption) | with_reducible exact rc_abs | with_reducible exact isi_listL (by assumption) | with_reducible exact isi_intI | with_reducible exact isi_boolI | with_reducible exact rc_lenT (by assumption) | with_reducible exact isi_tup (by assumption) | with_reducible exact rv_eqL (by assumption) (by assumption) | with_reducible exact rv_neL (by assumption) (by assumption) | with_reducible exact rv_neT (by assumption) (by assumption) | with_reducible exact rv_ixL (by assumption) (by assumption) | with_reducible exact rv_ixT (by assumption) (by assumption) | with_reducible refine' ev_din ?_ ?_ (by assumption) | with_reducible refine' ev_dnotin ?_ ?_ (by assumption) | with_reducible refine' ev_dget ?_ ?_ (by assumption) (by assumption) | ((with_reducible show SpV _ _ _ _); assumption) | ((with_reducible show RV _ _ _ _ _); assumption) | ((with_reducible show RC _ _ _ _); assumption) | ((with_reducible show CDiv _ _); exact ⟨by omega, by omega⟩) | ((with_reducible show CMul _ _); first | exact .inl ⟨by omega, by omega⟩ | exact .inr ⟨by omega, by omega⟩) | ((with_reducible show CPow _ _); exact ⟨by omega, by omega, by first | decide | assumption | omega⟩) | ((with_reducible show (0 : Int) < _); omega) | ((with_reducible show (0 : Int) ≤ _); omega) | ((with_reducible show scal _ _ = true); rfl)))
      · rw [dec_int, bitAnd_m1, Bool.eq_iff_iff, beq_iff_eq, decide_eq_true_iff]
        omega
    · have h := of_decide_eq_true h
      have e : (stepsN m x).map natP = [((0 : Int), ((x / 2 : Nat) : Int))] := by
        unfold stepsN
        rw [if_pos h]
        rfl
      rw [e] at q
      exact s_retS (es_one (s := ((0 : Int), ((x / 2 : Nat) : Int))) ev_c (ev_is (v := .int ((x : Int) / 2 ^ (1 : Int).toNat)) (by (repeat' (first | with_reducible exact ev_c | ((with_reducible show Ev (tVar _) _ _ _); exact ev_var rfl) | with_reducible exact ea_nil | with_reducible exact eo_none | with_reducible refine' ea_cons ?_ ?_ | with_reducible refine' eo_some ?_ | with_reducible refine' ev_and2 ?_ ?_ | with_reducible refine' ev_or2 ?_ ?_ | with_reducible refine' ev_notV ?_ | with_reducible exact ru_I | with_reducible refine' ev_un ?_ ?_ | with_reducible exact rv_I0 | with_reducible exact rv_isN | with_reducible exact rv_notN | with_reducible refine' rv_I ?_ | with_reducible refine' rv_eq ?_ | with_reducible refine' rv_ne ?_ | with_reducible refine' ev_op ?_ ?_ ?_ | with_reducible refine' ev_chain2 ?_ ?_ ?_ ?_ ?_ | with_reducible refine' et_B ?_ | with_reducible refine' et_test ?_ | with_reducible refine' et_and2 ?_ ?_ | with_reducible refine' et_or2 ?_ ?_ | with_reducible refine' et_not ?_ | with_reducible refine' ev_call ?_ ?_ | with_reducible refine' ev_callS ?_ ?_ | with_reducible refine' ev_cb ?_ ?_ | with_reducible exact isi_bool (by assumption) | with_reducible exact isi_int (by assumption) | with_reducible exact isi_list (by assumption) | with_reducible exact rc_len (by assumption) | with_reducible exact rc_sum (by assumption) | with_reducible exact rc_abs | with_reducible exact isi_listL (by assumption) | with_reducible exact isi_intI | with_reducible exact isi_boolI | with_reducible exact rc_lenT (by assumption) | with_reducible exact isi_tup (by assumption) | with_reducible exact rv_eqL (by assumption) (by assumption) | with_reducible exact rv_neL (by assumption) (by assumption) | with_reducible exact rv_neT (by assumption) (by assumption) | with_reducible exact rv_ixL (by assumption) (by assumption) | with_reducible exact rv_ixT (by assumption) (by assumption) | with_reducible refine' ev_din ?_ ?_ (by assumption) | with_reducible refine' ev_dnotin ?_ ?_ (by assumption) | with_reducible refine' ev_dget ?_ ?_ (by assumption) (by assumption) | ((with_reducible show SpV _ _ _ _); assumption) | ((with_reducible show RV _ _ _ _ _); assumption) | ((with_reducible show RC _ _ _ _); assumption) | ((with_reducible show CDiv _ _); exact ⟨by omega, by omega⟩) | ((with_reducible show CMul _ _); first | exact .inl ⟨by omega, by omega⟩ | exact .inr ⟨by omega, by omega⟩) | ((with_reducible show CPow _ _); exact ⟨by omega, by omega, by first | decide | assumption | omega⟩) | ((with_reducible show (0 : Int) < _); omega) | ((with_reducible show (0 : Int) ≤ _); omega) | ((with_reducible show scal _ _ = true); rfl)))) (congrArg V.int hb))) (fun p ps H2 hp e2 h2 hP => q p ps H2 (fresh_back e1 hp) (e1.trans e2) h2 hP)
    · have h := of_decide_eq_false h
      have e : (stepsN m x).map natP = itemsS (fun t => decide (x / 2 ^ (t + 1) % 2 = 0)) (fun t => (1 + (t : Int), ((x / 2 + 2 ^ t : Nat) : Int))) m := by
        unfold stepsN itemsS
        rw [if_neg h, List.map_filterMap]
        congr 1
        funext t
        by_cases c : x / 2 ^ (t + 1) % 2 = 0
        · rw [if_pos c, if_pos (decide_eq_true c), Option.map_some]
          unfold natP
          dsimp only
          congr 2
          omega
        · rw [if_neg c]
          show none = if decide (x / 2 ^ (t + 1) % 2 = 0) = true then _ else none
          rw [decide_eq_false c]
          rfl
      rw [e] at q
      rw [show m = ((m : Int) + 1 - 1).toNat by omega] at q
      refine s_retS (es_lcR2 (lo := 1) (n := (m : Int) + 1) (fun t => decide (x / 2 ^ (t + 1) % 2 = 0)) (fun t => (1 + (t : Int), ((x / 2 + 2 ^ t : Nat) : Int))) (by (repeat' (first | with_reducible exact ev_c | ((with_reducible show Ev (tVar _) _ _ _); exact ev_var rfl) | with_reducible exact ea_nil | with_reducible exact eo_none | with_reducible refine' ea_cons ?_ ?_ | with_reducible refine' eo_some ?_ | with_reducible refine' ev_and2 ?_ ?_ | with_reducible refine' ev_or2 ?_ ?_ | with_reducible refine' ev_notV ?_ | with_reducible exact ru_I | with_reducible refine' ev_un ?_ ?_ | with_reducible exact rv_I0 | with_reducible exact rv_isN | with_reducible exact rv_notN | with_reducible refine' rv_I ?_ | with_reducible refine' rv_eq ?_ | with_reducible refine' rv_ne ?_ | with_reducible refine' ev_op ?_ ?_ ?_ | with_reducible refine' ev_chain2 ?_ ?_ ?_ ?_ ?_ | with_reducible refine' et_B ?_ | with_reducible refine' et_test ?_ | with_reducible refine' et_and2 ?_ ?_ | with_reducible refine' et_or2 ?_ ?_ | with_reducible refine' et_not ?_ | with_reducible refine' ev_call ?_ ?_ | with_reducible refine' ev_callS ?_ ?_ | with_reducible refine' ev_cb ?_ ?_ | with_reducible exact isi_bool (by assumption) | with_reducible exact isi_int (by assumption) | with_reducible exact isi_list (by assumption) | with_reducible exact rc_len (by assumption) | with_reducible exact rc_sum (by assumption) | with_reducible exact rc_abs | with_reducible exact isi_listL (by assumption) | with_reducible exact isi_intI | with_reducible exact isi_boolI | with_reducible exact rc_lenT (by assumption) | with_reducible exact isi_tup (by assumption) | with_reducible exact rv_eqL (by assumption) (by assumption) | with_reducible exact rv_neL (by assumption) (by assumption) | with_reducible exact rv_neT (by assumption) (by assumption) | with_reducible exact rv_ixL (by assumption) (by assumption) | with_reducible exact rv_ixT (by assumption) (by assumption) | with_reducible refine' ev_din ?_ ?_ (by assumption) | with_reducible refine' ev_dnotin ?_ ?_ (by assumption) | with_reducible refine' ev_dget ?_ ?_ (by assumption) (by assumption) | ((with_reducible show SpV _ _ _ _); assumption) | ((with_reducible show RV _ _ _ _ _); assumption) | ((with_reducible show RC _ _ _ _); assumption) | ((with_reducible show CDiv _ _); exact ⟨by omega, by omega⟩) | ((with_reducible show CMul _ _); first | exact .inl ⟨by omega, by omega⟩ | exact .inr ⟨by omega, by omega⟩) | ((with_reducible show CPow _ _); exact ⟨by omega, by omega, by first | decide | assumption | omega⟩) | ((with_reducible show (0 : Int) < _); omega) | ((with_reducible show (0 : Int) ≤ _); omega) | ((with_reducible show scal _ _ = true); rfl)))) (by omega) (fun _ => rfl) (fun i H2 e2 hi => ?_) (fun i H2 e2 hi _ => by (repeat' (first | with_reducible exact ev_c | ((with_reducible show Ev (tVar _) _ _ _); exact ev_var rfl) | with_reducible exact ea_nil | with_reducible exact eo_none | with_reducible refine' ea_cons ?_ ?_ | with_reducible refine' eo_some ?_ | with_reducible refine' ev_and2 ?_ ?_ | with_reducible refine' ev_or2 ?_ ?_ | with_reducible refine' ev_notV ?_ | with_reducible exact ru_I | with_reducible refine' ev_un ?_ ?_ | with_reducible exact rv_I0 | with_reducible exact rv_isN | with_reducible exact rv_notN | with_reducible refine' rv_I ?_ | with_reducible refine' rv_eq ?_ | with_reducible refine' rv_ne ?_ | with_reducible refine' ev_op ?_ ?_ ?_ | with_reducible refine' ev_chain2 ?_ ?_ ?_ ?_ ?_ | with_reducible refine' et_B ?_ | with_reducible refine' et_test ?_ | with_reducible refine' et_and2 ?_ ?_ | with_reducible refine' et_or2 ?_ ?_ | with_reducible refine' et_not ?_ | with_reducible refine' ev_call ?_ ?_ | with_reducible refine' ev_callS ?_ ?_ | with_reducible refine' ev_cb ?_ ?_ | with_reducible exact isi_bool (by assumption) | with_reducible exact isi_int (by assumption) | with_reducible exact isi_list (by assumption) | with_reducible exact rc_len (by assumption) | with_reducible exact rc_sum (by assumption) | with_reducible exact rc_abs | with_reducible exact isi_listL (by assumption) | with_reducible exact isi_intI | with_reducible exact isi_boolI | with_reducible exact rc_lenT (by assumption) | with_reducible exact isi_tup (by assumption) | with_reducible exact rv_eqL (by assumption) (by assumption) | with_reducible exact rv_neL (by assumption) (by assumption) | with_reducible exact rv_neT (by assumption) (by assumption) | with_reducible exact rv_ixL (by assumption) (by assumption) | with_reducible exact rv_ixT (by assumption) (by assumption) | with_reducible refine' ev_din ?_ ?_ (by assumption) | with_reducible refine' ev_dnotin ?_ ?_ (by assumption) | with_reducible refine' ev_dget ?_ ?_ (by assumption) (by assumption) | ((with_reducible show SpV _ _ _ _); assumption) | ((with_reducible show RV _ _ _ _ _); assumption) | ((with_reducible show RC _ _ _ _); assumption) | ((with_reducible show CDiv _ _); exact ⟨by omega, by omega⟩) | ((with_reducible show CMul _ _); first | exact .inl ⟨by omega, by omega⟩ | exact .inr ⟨by omega, by omega⟩) | ((with_reducible show CPow _ _); exact ⟨by omega, by omega, by first | decide | assumption | omega⟩) | ((with_reducible show (0 : Int) < _); omega) | ((with_reducible show (0 : Int) ≤ _); omega) | ((with_reducible show scal _ _ = true); rfl)))) (fun i H2 e2 hi hf => ?_)) (fun p ps H2 hp e2 h2 hP => q p ps H2 (fresh_back e1 hp) (e1.trans e2) h2 hP)
      · apply et_is
        · (repeat' (first | with_reducible exact ev_c | ((with_reducible show Ev (tVar _) _ _ _); exact ev_var rfl) | with_reducible exact ea_nil | with_reducible exact eo_none | with_reducible refine' ea_cons ?_ ?_ | with_reducible refine' eo_some ?_ | with_reducible refine' ev_and2 ?_ ?_ | with_reducible refine' ev_or2 ?_ ?_ | with_reducible refine' ev_notV ?_ | with_reducible exact ru_I | with_reducible refine' ev_un ?_ ?_ | with_reducible exact rv_I0 | with_reducible exact rv_isN | with_reducible exact rv_notN | with_reducible refine' rv_I ?_ | with_reducible refine' rv_eq ?_ | with_reducible refine' rv_ne ?_ | with_reducible refine' ev_op ?_ ?_ ?_ | with_reducible refine' ev_chain2 ?_ ?_ ?_ ?_ ?_ | with_reducible refine' et_B ?_ | with_reducible refine' et_test ?_ | with_reducible refine' et_and2 ?_ ?_ | with_reducible refine' et_or2 ?_ ?_ | with_reducible refine' et_not ?_ | with_reducible refine' ev_call ?_ ?_ | with_reducible refine' ev_callS ?_ ?_ | with_reducible refine' ev_cb ?_ ?_ | with_reducible exact isi_bool (by assumption) | with_reducible exact isi_int (by assumption) | with_reducible exact isi_list (by assumption) | with_reducible exact rc_len (by assumption) | with_reducible exact rc_sum (by assumption) | with_reducible exact rc_abs | with_reducible exact isi_listL (by assumption) | with_reducible exact isi_intI | with_reducible exact isi_boolI | with_reducible exact rc_lenT (by assumption) | with_reducible exact isi_tup (by assumption) | with_reducible exact rv_eqL (by assumption) (by assumption) | with_reducible exact rv_neL (by assumption) (by assumption) | with_reducible exact rv_neT (by assumption) (by assumption) | with_reducible exact rv_ixL (by assumption) (by assumption) | with_reducible exact rv_ixT (by assumption) (by assumption) | with_reducible refine' ev_din ?_ ?_ (by assumption) | with_reducible refine' ev_dnotin ?_ ?_ (by assumption) | with_reducible refine' ev_dget ?_ ?_ (by assumption) (by assumption) | ((with_reducible show SpV _ _ _ _); assumption) | ((with_reducible show RV _ _ _ _ _); assumption) | ((with_reducible show RC _ _ _ _); assumption) | ((with_reducible show CDiv _ _); exact ⟨by omega, by omega⟩) | ((with_reducible show CMul _ _); first | exact .inl ⟨by omega, by omega⟩ | exact .inr ⟨by omega, by omega⟩) | ((with_reducible show CPow _ _); exact ⟨by omega, by omega, by first | decide | assumption | omega⟩) | ((with_reducible show (0 : Int) < _); omega) | ((with_reducible show (0 : Int) ≤ _); omega) | ((with_reducible show scal _ _ = true); rfl)))
        · rw [dec_int, bitAnd_m1, show (1 + (i : Int)).toNat = i + 1 by omega, div_pow_nat, Bool.eq_iff_iff, beq_iff_eq, decide_eq_true_iff]
          generalize x / 2 ^ (i + 1) % 2 = w
          omega
      · have hf := of_decide_eq_true hf
        refine ev_is (v := .int (Builtin.bitOr ((x : Int) / 2 ^ (1 : Int).toNat) (1 * 2 ^ (1 + (i : Int) - 1).toNat))) (by (repeat' (first | with_reducible exact ev_c | ((with_reducible show Ev (tVar _) _ _ _); exact ev_var rfl) | with_reducible exact ea_nil | with_reducible exact eo_none | with_reducible refine' ea_cons ?_ ?_ | with_reducible refine' eo_some ?_ | with_reducible refine' ev_and2 ?_ ?_ | with_reducible refine' ev_or2 ?_ ?_ | with_reducible refine' ev_notV ?_ | with_reducible exact ru_I | with_reducible refine' ev_un ?_ ?_ | with_reducible exact rv_I0 | with_reducible exact rv_isN | with_reducible exact rv_notN | with_reducible refine' rv_I ?_ | with_reducible refine' rv_eq ?_ | with_reducible refine' rv_ne ?_ | with_reducible refine' ev_op ?_ ?_ ?_ | with_reducible refine' ev_chain2 ?_ ?_ ?_ ?_ ?_ | with_reducible refine' et_B ?_ | with_reducible refine' et_test ?_ | with_reducible refine' et_and2 ?_ ?_ | with_reducible refine' et_or2 ?_ ?_ | with_reducible refine' et_not ?_ | with_reducible refine' ev_call ?_ ?_ | with_reducible refine' ev_callS ?_ ?_ | with_reducible refine' ev_cb ?_ ?_ | with_reducible exact isi_bool (by assumption) | with_reducible exact isi_int (by assumption) | with_reducible exact isi_list (by assumption) | with_reducible exact rc_len (by assumption) | with_reducible exact rc_sum (by assumption) | with_reducible exact rc_abs | with_reducible exact isi_listL (by assumption) | with_reducible exact isi_intI | with_reducible exact isi_boolI | with_reducible exact rc_lenT (by assumption) | with_reducible exact isi_tup (by assumption) | with_reducible exact rv_eqL (by assumption) (by assumption) | with_reducible exact rv_neL (by assumption) (by assumption) | with_reducible exact rv_neT (by assumption) (by assumption) | with_reducible exact rv_ixL (by assumption) (by assumption) | with_reducible exact rv_ixT (by assumption) (by assumption) | with_reducible refine' ev_din ?_ ?_ (by assumption) | with_reducible refine' ev_dnotin ?_ ?_ (by assumption) | with_reducible refine' ev_dget ?_ ?_ (by assumption) (by assumption) | ((with_reducible show SpV _ _ _ _); assumption) | ((with_reducible show RV _ _ _ _ _); assumption) | ((with_reducible show RC _ _ _ _); assumption) | ((with_reducible show CDiv _ _); exact ⟨by omega, by omega⟩) | ((with_reducible show CMul _ _); first | exact .inl ⟨by omega, by omega⟩ | exact .inr ⟨by omega, by omega⟩) | ((with_reducible show CPow _ _); exact ⟨by omega, by omega, by first | decide | assumption | omega⟩) | ((with_reducible show (0 : Int) < _); omega) | ((with_reducible show (0 : Int) ≤ _); omega) | ((with_reducible show scal _ _ = true); rfl)))) (congrArg V.int ?_)
        have ep : (1 : Int) * 2 ^ (1 + (i : Int) - 1).toNat = ((2 ^ i : Nat) : Int) := by
          rw [show (1 + (i : Int) - 1).toNat = i by omega, Int.one_mul, Int.natCast_pow]
          rfl
        rw [hb, ep, Bits.bitOr_pp (Int.natCast_nonneg _) (Int.natCast_nonneg _), Int.toNat_natCast, Int.toNat_natCast, or_at (by omega) (by omega) hf]

/-- throws that lead -/
def ledN (x t : Nat) : Nat := x / 2 + if t = 0 then 0 else 2 ^ (t - 1)
theorem steps_led {m x t y : Nat} (h : (t, y) ∈ stepsN m x) : y = ledN x t ∧ t ≤ m := by
  unfold stepsN at h
  by_cases c : x % 2 = 0
  · rw [if_pos c] at h
    have := List.mem_singleton.mp h
    injection this with a b
    subst a
    subst b
    exact ⟨rfl, Nat.zero_le _⟩
  · rw [if_neg c] at h
    obtain ⟨u, hu, e⟩ := List.mem_filterMap.mp h
    have hu := List.mem_range.mp hu
    by_cases d : x / 2 ^ (u + 1) % 2 = 0
    · rw [if_pos d] at e
      injection e with e
      injection e with a b
      subst a
      subst b
      refine ⟨?_, by omega⟩
      unfold ledN
      rw [if_neg (by omega)]
      rfl
    · rw [if_neg d] at e
      cases e
structure WayOk (m x0 : Nat) (ts : List Nat) (o : Nat) : Prop where
  goes : ∀ i t, ts[i]? = some t → (t, ledN ((ts.take i).foldl ledN x0) t) ∈ stepsN m ((ts.take i).foldl ledN x0) ∧ (ts.take i).foldl ledN x0 < 2 ^ m
  ends : ts.foldl ledN x0 = o
theorem WayOk.snoc {m x0 x t y : Nat} {ts : List Nat} (h : WayOk m x0 ts x) (hx : x < 2 ^ m) (ht : (t, y) ∈ stepsN m x) : WayOk m x0 (ts ++ [t]) y := by
  obtain ⟨e, _⟩ := steps_led ht
  refine ⟨fun i u hu => ?_, ?_⟩
  · rcases Nat.lt_or_ge i ts.length with c | c
    · rw [List.getElem?_append_left c] at hu
      rw [List.take_append_of_le_length (by omega)]
      exact h.goes i u hu
    · rw [List.getElem?_append_right c] at hu
      have hi : i - ts.length = 0 := by
        have := (List.getElem?_eq_some_iff.mp hu).1
        simp at this
        omega
      rw [hi] at hu
      injection hu with hu
      have : i = ts.length := by omega
      subst this
      rw [List.take_left, h.ends, ← hu, ← e]
      exact ⟨ht, hx⟩
  · rw [List.foldl_append, h.ends, e]
    rfl
/-- there is just one distance -/
theorem dist_le {m o : Nat} (h1 : 1 ≤ m) (h10 : m ≤ 10) {D D' : Nat → Nat} (d : DistF m o D) (d' : DistF m o D') : ∀ n x, x ∈ classN m o → D x = n → D' x ≤ n
  | 0, x, hx, e => by
    rw [d.only x hx e, d'.zero]
    exact Nat.le_refl _
  | n + 1, x, hx, e => by
    by_cases c : x = o
    · rw [c, d'.zero]
      exact Nat.zero_le _
    · obtain ⟨y, hy, hD⟩ := d.near x hx c
      have hyc : y ∈ classN m o := by
        obtain ⟨a, b⟩ := mem_class.mp hx
        have g := (gr_ok h1 h10 a).su y hy
        exact mem_class.mpr ⟨g.1, g.2.1.trans b⟩
      have := dist_le h1 h10 d d' n y hyc (by omega)
      have := d'.far x hx y hy
      omega
theorem dist_one {m o : Nat} (h1 : 1 ≤ m) (h10 : m ≤ 10) {D D' : Nat → Nat} (d : DistF m o D) (d' : DistF m o D') {x : Nat} (hx : x ∈ classN m o) : D x = D' x := by
  have := dist_le h1 h10 d d' _ x hx rfl
  have := dist_le h1 h10 d' d _ x hx rfl
  omega
def RetW (m o x0 : Nat) (H : Hp) (Q : VK) : Prop := ∀ p ts H2, H p = none → Ex H H2 → H2 p = some (.lst (ntV ts)) → WayOk m x0 ts o → (∀ D, DistF m o D → ts.length = D x0) → Q (.ref p) H2
def wayV (a b m : V) : Prop := ∃ x o k : Nat, a = .int (x : Int) ∧ b = .int (o : Int) ∧ m = .int (k : Int) ∧ 1 ≤ k ∧ k ≤ 10 ∧ x < 2 ^ k ∧ o < 2 ^ k ∧ popN x = popN o
def sp_way (K : PySem.W.Frag) : Sp := fun vs H Q E => ∃ a b m, vs = [a, b, m] ∧ Kd H a ∧ Kd H b ∧ Kd H m ∧ (¬ wayV a b m → Give K (.err "OutOfBounds") H Q E) ∧ ∀ x o k : Nat, a = .int (x : Int) → b = .int (o : Int) → m = .int (k : Int) → 1 ≤ k → k ≤ 10 → x < 2 ^ k → o < 2 ^ k → popN x = popN o → RetW k o x H Q
theorem stOk_of {x k : Nat} (k1 : 1 ≤ k) (k10 : k ≤ 10) (ha : x < 2 ^ k) : stOk (.int (x : Int)) (.int (k : Int)) = true := by
  show (if 1 ≤ (k : Int) ∧ (k : Int) ≤ 10 then inB (.int (x : Int)) 0 (1 * 2 ^ (k : Int).toNat - 1) else false) = true
  rw [if_pos ⟨by omega, by omega⟩, two_pow_nat]
  simp only [inB, Bool.and_eq_true, decide_eq_true_iff]
  omega
theorem dist_call {K : PySem.W.Frag} {H : Hp} {a k : Nat} {Q : VK} {E : XK} (k1 : 1 ≤ k) (k10 : k ≤ 10) (ha : a < 2 ^ k) (q : RetD k a H Q) : sp_distances K [.int (a : Int), .int (k : Int)] H Q E := ⟨_, _, rfl, .int _, .int _, (fun h => by
  rw [stOk_of k1 k10 ha] at h
  cases h), fun a2 k2 ea ek _ _ _ => by
  injection ea with ea
  injection ek with ek
  have ea : a = a2 := by omega
  have ek : k = k2 := by omega
  subst ea
  subst ek
  exact q⟩
section
variable {K : PySem.W.Frag} {σ : L2.St} {H : Hp} {tz : TS} {D : Ends}
theorem q_relX {sp : Sp} {dvs vs : List V} {E : XK} {t : TA} {i : Nat} (h : EvA t σ H vs) (k : ∀ H1, Ex H H1 → sp (vs ++ dvs) H1 (fun v H2 => tz D (σ.set i (some v)) H2) E) : tSeq (tAsg (tCall sp dvs E t) (gName i)) tz D σ H := h H (Ex.refl H) _ fun H1 e1 => k H1 e1
theorem es_call {sp : Sp} {vs dvs : List V} {E : XK} {t : TA} {l : List Stp} (h : EvA t σ H vs) (hs : ∀ H1, Ex H H1 → ∀ (Q : VK), RetS l H1 Q → sp (vs ++ dvs) H1 Q E) : EvS (tCall sp dvs E t) σ H l := fun H1 e Q q =>
  h H1 e _ fun H2 e2 => hs H2 (e.trans e2) Q fun p ps H3 hp e3 h3 hP => q p ps H3 (fresh_back e2 hp) (e2.trans e3) h3 hP
end
theorem farC_nd (m s0 : Nat) (D : Nat → Nat) : ((farC m s0 D).map Prod.fst).Nodup := by
  unfold farC
  rw [List.map_map]
  have e : (classN m s0).map (Prod.fst ∘ fun x => (x, D x)) = classN m s0 := by
    rw [show (Prod.fst ∘ fun x : Nat => (x, D x)) = id from rfl, List.map_id]
  rw [e]
  unfold classN
  exact (List.nodup_range).filter _
theorem farC_val {m s0 x : Nat} {D : Nat → Nat} (h : x ∈ classN m s0) : valV (kvF (farC m s0 D)) (Sum.inl (x : Int) : Key) = some (V.int (D x : Int)) := kvF_at (farC_nd m s0 D) (List.mem_map.mpr ⟨x, h, rfl⟩)
theorem class_succ {m s0 x y : Nat} (h1 : 1 ≤ m) (h10 : m ≤ 10) (h : x ∈ classN m s0) (hy : y ∈ succN m x) : y ∈ classN m s0 := by
  obtain ⟨a, b⟩ := mem_class.mp h
  have g := (gr_ok h1 h10 a).su y hy
  exact mem_class.mpr ⟨g.1, g.2.1.trans b⟩
theorem chain_dist {m o : Nat} (h1 : 1 ≤ m) (h10 : m ≤ 10) {D : Nat → Nat} (d : DistF m o D) : ∀ {r : List Nat} {x : Nat}, chainB m (x :: r) = true → x ∈ classN m o → D x ≤ D ((x :: r).getLastD 0) + r.length ∧ (x :: r).getLastD 0 ∈ classN m o
  | [], x, _, hx => ⟨Nat.le_refl _, hx⟩
  | y :: r, x, h, hx => by
    rw [chainB, Bool.and_eq_true] at h
    have hy : y ∈ succN m x := by simpa using h.1
    have hyc := class_succ h1 h10 hx hy
    obtain ⟨a, b⟩ := chain_dist h1 h10 d h.2 hyc
    have := d.far x hx y hy
    have e : (x :: y :: r).getLastD 0 = (y :: r).getLastD 0 := by simp
    rw [e, List.length_cons]
    exact ⟨by omega, b⟩
theorem downL_len : ∀ n x, (downL n x).length = n + 1
  | 0, _ => rfl
  | n + 1, x => by rw [downL, List.length_cons, downL_len n]
theorem upL_len (k : Nat) : ∀ (l : List Nat) (i x : Nat), (upL k i x l).length = l.length + 1
  | [], _, _ => rfl
  | b :: r, i, x => by rw [upL, List.length_cons, upL_len k r, List.length_cons]
theorem dist_b {m o : Nat} (h1 : 1 ≤ m) (h10 : m ≤ 10) {D : Nat → Nat} (d : DistF m o D) (ho : o < 2 ^ m) {x : Nat} (hx : x ∈ classN m o) : D x ≤ 100 := by
  obtain ⟨xm, xp⟩ := mem_class.mp hx
  obtain ⟨c1, c2⟩ := (gr_ok h1 h10 xm).dn
  obtain ⟨d1, d2⟩ := (gr_ok h1 h10 ho).up
  obtain ⟨r, er⟩ := downL_cons 9 x
  obtain ⟨r2, er2⟩ := upL_cons (popN o) 0 (2 ^ popN o - 1) (spotsN o)
  have l1 := downL_len 9 x
  have l2 := upL_len (popN o) (spotsN o) 0 (2 ^ popN o - 1)
  have sl : (spotsN o).length ≤ 10 := by
    unfold spotsN
    have := List.length_filter_le (fun k => decide (o / 2 ^ k % 2 = 1)) (List.range 10)
    rw [List.length_range] at this
    exact this
  rw [er] at c1 c2 l1
  rw [er2] at d1 d2 l2
  rw [List.length_cons] at l1 l2
  obtain ⟨a1, a2⟩ := chain_dist h1 h10 d c1 hx
  rw [c2, xp] at a1 a2
  obtain ⟨b1, b2⟩ := chain_dist h1 h10 d d1 a2
  rw [d2, d.zero] at b1
  omega
theorem sc_way : FnScope ["one", "other", "most", "far", "throws", "near", "step"] ["one", "other", "most"] (defScope s_way) := ⟨rfl, rfl, rfl, by decide +kernel, rfl, by decide +kernel, by decide +kernel⟩
theorem ok_way {P : Program} {w : World} {K : PySem.W.Frag} {mg : Str → Option Value} {base : Heap} (T : TXT K mg) : OK P w K mg base "way" ["one", "other", "most"] 5 (sp_way K) := by
  have O_check_state := ok_check_state (P := P) (w := w) (base := base) T
  have O_bits_of := ok_bits_of (P := P) (w := w) (base := base) T
  have O_distances := ok_distances (P := P) (w := w) (base := base) T
  have O_steps_from := ok_steps_from (P := P) (w := w) (base := base) T
  obtain ⟨fd, F⟩ := T.def_ 7
  refine ⟨_, fd, T.glo 7, F.kp, F.bindsN (fun _ _ _ _ _ _ us hl => match us, hl with | [_, _, _], _ => rfl), F.ok sc_way (fun vs H Q E h => ?_) (fun cdv A outer s H vs Q E hr h => ?_), F.bindsA (fun _ _ _ _ _ _ us hl => match us, hl with | [_, _, _], _ => rfl)⟩
  · first | (obtain ⟨rfl, _⟩ := h; rfl) | (obtain ⟨_, rfl, _⟩ := h; rfl) | (obtain ⟨_, _, rfl, _⟩ := h; rfl) | (obtain ⟨_, _, _, rfl, _⟩ := h; rfl) | (obtain ⟨_, _, _, _, rfl, _⟩ := h; rfl) | (obtain ⟨_, _, _, _, _, rfl, _⟩ := h; rfl) | (obtain ⟨_, _, _, _, _, _, rfl, _⟩ := h; rfl) | (obtain ⟨_, _, _, _, _, _, _, rfl, _⟩ := h; rfl) | (obtain ⟨_, _, _, _, _, _, _, _, rfl, _⟩ := h; rfl)
  · replace F : FunD K "way" "way" (defArgs s_way) (defBody s_way) (defScope s_way) [] [] (He.ga K "way") fd := F
    refine ⟨_, (pss_cons (ps_expr (pe_own O_check_state (hr.mono (by decide)) (by rfl) (passes_call (takes_of rfl rfl rfl rfl) (fun _ _ _ _ h => h)) (pa_cons (pv 0) (pa_cons (pv 2) pa_nil))))
      (pss_cons (ps_expr (pe_own O_check_state (hr.mono (by decide)) (by rfl) (passes_call (takes_of rfl rfl rfl rfl) (fun _ _ _ _ h => h)) (pa_cons (pv 1) (pa_cons (pv 2) pa_nil))))
      (pss_cons (ps_if (pt_cmpR op_ne (pe_own O_bits_of (hr.mono (by decide)) (by rfl) (passes_call (takes_of rfl rfl rfl rfl) (fun _ _ _ _ h => h)) (pa_cons (pv 0) pa_nil)) (pe_own O_bits_of (hr.mono (by decide)) (by rfl) (passes_call (takes_of rfl rfl rfl rfl) (fun _ _ _ _ h => h)) (pa_cons (pv 1) pa_nil)) (nomark _))
        (pss_one (ps_raise rfl (takes_of rfl rfl rfl rfl) (pmk_ex (T.fact 27) (T.glo 18))))
        pss_nil)
      (pss_cons (ps_set (i := 3) sc_way.nd rfl (Or.inr rfl) (pe_own O_distances (hr.mono (by decide)) (by rfl) (passes_call (takes_of rfl rfl rfl rfl) (fun _ _ _ _ h => h)) (pa_cons (pv 1) (pa_cons (pv 2) pa_nil))))
      (pss_cons (ps_set (i := 4) sc_way.nd rfl (Or.inl rfl) (pe_lst pa_nil))
      (pss_cons (ps_while (passes_of rfl) (pt_cmpR op_ne (pv 0) (pv 1) (nomark _))
        (pss_cons (ps_set (i := 5) sc_way.nd rfl (Or.inl rfl) (pe_ix (k_ixL K) (pe_lc (own := [("step", 6)]) (g := gName 6) rfl sc_way.nd (k_piL K (pe_own O_steps_from (hr.mono (by decide)) (by rfl) (passes_call (takes_of rfl rfl rfl rfl) (fun _ _ _ _ h => h)) (pa_cons (pv 0) (pa_cons (pv 2) pa_nil)))) (blkOk_by (N := ["one", "other", "most", "far", "throws", "near", "step"]) (sc := defScope s_way) (by decide +kernel)) (fun _ _ _ _ _ => pg_name (i := 6) sc_way.nd rfl (Or.inl rfl)) (fun _ _ _ _ _ => pts_one (pt_cmpR op_lt (pe_dget (hu_of hr) (pv 3) (pe_ix (k_ixT K) (pv 6) pe_int (fun _ _ => rfl)) (fun _ _ => rfl)) (pe_dget (hu_of hr) (pv 3) (pv 0) (fun _ _ => rfl)) (nomark _))) (fun _ _ _ _ _ => (pv 6))) pe_int (fun _ _ => rfl)))
      (pss_cons (ps_expr (pe_bm PySem.F.plainAttrs_list PySem.F.slot_list_append PySem.F.type_list_append mt_append (pv 4) (pa_cons (pe_ix (k_ixT K) (pv 5) pe_int (fun _ _ => rfl)) pa_nil)))
      (pss_one (ps_set (i := 0) sc_way.nd rfl (Or.inr rfl) (pe_ix (k_ixT K) (pv 5) pe_int (fun _ _ => rfl)))))))
      (pss_one (ps_ret (pv 4))))))))), ?_⟩
    obtain ⟨a, b, m, rfl, ha, hb, hm, q1, q2⟩ := h
    dsimp only [cxOf, L2.start, List.map_cons, List.map_nil, List.length_cons, List.length_nil, Nat.reduceAdd, Nat.reduceSub, List.replicate_succ, List.replicate_zero, List.cons_append, List.nil_append, Nat.zero_add, List.reduceReplicate, List.map]
    by_cases hok : stOk a m = true
    case neg =>
      have hok : stOk a m = false := by simpa using hok
      have q := q1 fun ⟨x, o, k, h1, h2, h3, h4, h5, h6, h7, h8⟩ => by
        rw [h1, h3, stOk_of h4 h5 h6] at hok
        cases hok
      exact xq_drop (rz_call (by (repeat' (first | with_reducible exact ev_c | ((with_reducible show Ev (tVar _) _ _ _); exact ev_var rfl) | with_reducible exact ea_nil | with_reducible exact eo_none | with_reducible refine' ea_cons ?_ ?_ | with_reducible refine' eo_some ?_ | with_reducible refine' ev_and2 ?_ ?_ | with_reducible refine' ev_or2 ?_ ?_ | with_reducible refine' ev_notV ?_ | with_reducible exact ru_I | with_reducible refine' ev_un ?_ ?_ | with_reducible exact rv_I0 | with_reducible exact rv_isN | with_reducible exact rv_notN | with_reducible refine' rv_I ?_ | with_reducible refine' rv_eq ?_ | with_reducible refine' rv_ne ?_ | with_reducible refine' ev_op ?_ ?_ ?_ | with_reducible refine' ev_chain2 ?_ ?_ ?_ ?_ ?_ | with_reducible refine' et_B ?_ | with_reducible refine' et_test ?_ | with_reducible refine' et_and2 ?_ ?_ | with_reducible refine' et_or2 ?_ ?_ | with_reducible refine' et_not ?_ | with_reducible refine' ev_call ?_ ?_ | with_reducible refine' ev_callS ?_ ?_ | with_reducible refine' ev_cb ?_ ?_ | with_reducible exact isi_bool (by assumption) | with_reducible exact isi_int (by assumption) | with_reducible exact isi_list (by assumption) | with_reducible exact rc_len (by assumption) | with_reducible exact rc_sum (by assumption) | with_reducible exact rc_abs | with_reducible exact isi_listL (by assumption) | with_reducible exact isi_intI | with_reducible exact isi_boolI | with_reducible exact rc_lenT (by assumption) | with_reducible exact isi_tup (by assumption) | with_reducible exact rv_eqL (by assumption) (by assumption) | with_reducible exact rv_neL (by assumption) (by assumption) | with_reducible exact rv_neT (by assumption) (by assumption) | with_reducible exact rv_ixL (by assumption) (by assumption) | with_reducible exact rv_ixT (by assumption) (by assumption) | with_reducible refine' ev_din ?_ ?_ (by assumption) | with_reducible refine' ev_dnotin ?_ ?_ (by assumption) | with_reducible refine' ev_dget ?_ ?_ (by assumption) (by assumption) | ((with_reducible show SpV _ _ _ _); assumption) | ((with_reducible show RV _ _ _ _ _); assumption) | ((with_reducible show RC _ _ _ _); assumption) | ((with_reducible show CDiv _ _); exact ⟨by omega, by omega⟩) | ((with_reducible show CMul _ _); first | exact .inl ⟨by omega, by omega⟩ | exact .inr ⟨by omega, by omega⟩) | ((with_reducible show CPow _ _); exact ⟨by omega, by omega, by first | decide | assumption | omega⟩) | ((with_reducible show (0 : Int) < _); omega) | ((with_reducible show (0 : Int) ≤ _); omega) | ((with_reducible show scal _ _ = true); rfl)))) (sx_check_state ha hm hok q))
    have cs := sv_check_state (K := K) ha hm hok
    refine q_drop (v := .non) (by (repeat' (first | with_reducible exact ev_c | ((with_reducible show Ev (tVar _) _ _ _); exact ev_var rfl) | with_reducible exact ea_nil | with_reducible exact eo_none | with_reducible refine' ea_cons ?_ ?_ | with_reducible refine' eo_some ?_ | with_reducible refine' ev_and2 ?_ ?_ | with_reducible refine' ev_or2 ?_ ?_ | with_reducible refine' ev_notV ?_ | with_reducible exact ru_I | with_reducible refine' ev_un ?_ ?_ | with_reducible exact rv_I0 | with_reducible exact rv_isN | with_reducible exact rv_notN | with_reducible refine' rv_I ?_ | with_reducible refine' rv_eq ?_ | with_reducible refine' rv_ne ?_ | with_reducible refine' ev_op ?_ ?_ ?_ | with_reducible refine' ev_chain2 ?_ ?_ ?_ ?_ ?_ | with_reducible refine' et_B ?_ | with_reducible refine' et_test ?_ | with_reducible refine' et_and2 ?_ ?_ | with_reducible refine' et_or2 ?_ ?_ | with_reducible refine' et_not ?_ | with_reducible refine' ev_call ?_ ?_ | with_reducible refine' ev_callS ?_ ?_ | with_reducible refine' ev_cb ?_ ?_ | with_reducible exact isi_bool (by assumption) | with_reducible exact isi_int (by assumption) | with_reducible exact isi_list (by assumption) | with_reducible exact rc_len (by assumption) | with_reducible exact rc_sum (by assumption) | with_reducible exact rc_abs | with_reducible exact isi_listL (by assumption) | with_reducible exact isi_intI | with_reducible exact isi_boolI | with_reducible exact rc_lenT (by assumption) | with_reducible exact isi_tup (by assumption) | with_reducible exact rv_eqL (by assumption) (by assumption) | with_reducible exact rv_neL (by assumption) (by assumption) | with_reducible exact rv_neT (by assumption) (by assumption) | with_reducible exact rv_ixL (by assumption) (by assumption) | with_reducible exact rv_ixT (by assumption) (by assumption) | with_reducible refine' ev_din ?_ ?_ (by assumption) | with_reducible refine' ev_dnotin ?_ ?_ (by assumption) | with_reducible refine' ev_dget ?_ ?_ (by assumption) (by assumption) | ((with_reducible show SpV _ _ _ _); assumption) | ((with_reducible show RV _ _ _ _ _); assumption) | ((with_reducible show RC _ _ _ _); assumption) | ((with_reducible show CDiv _ _); exact ⟨by omega, by omega⟩) | ((with_reducible show CMul _ _); first | exact .inl ⟨by omega, by omega⟩ | exact .inr ⟨by omega, by omega⟩) | ((with_reducible show CPow _ _); exact ⟨by omega, by omega, by first | decide | assumption | omega⟩) | ((with_reducible show (0 : Int) < _); omega) | ((with_reducible show (0 : Int) ≤ _); omega) | ((with_reducible show scal _ _ = true); rfl)))) fun H1 e1 => ?_
    by_cases hok2 : stOk b m = true
    case neg =>
      have hok2 : stOk b m = false := by simpa using hok2
      have q := (q1 fun ⟨x, o, k, h1, h2, h3, h4, h5, h6, h7, h8⟩ => by
        rw [h2, h3, stOk_of h4 h5 h7] at hok2
        cases hok2).mono e1
      exact xq_drop (rz_call (by (repeat' (first | with_reducible exact ev_c | ((with_reducible show Ev (tVar _) _ _ _); exact ev_var rfl) | with_reducible exact ea_nil | with_reducible exact eo_none | with_reducible refine' ea_cons ?_ ?_ | with_reducible refine' eo_some ?_ | with_reducible refine' ev_and2 ?_ ?_ | with_reducible refine' ev_or2 ?_ ?_ | with_reducible refine' ev_notV ?_ | with_reducible exact ru_I | with_reducible refine' ev_un ?_ ?_ | with_reducible exact rv_I0 | with_reducible exact rv_isN | with_reducible exact rv_notN | with_reducible refine' rv_I ?_ | with_reducible refine' rv_eq ?_ | with_reducible refine' rv_ne ?_ | with_reducible refine' ev_op ?_ ?_ ?_ | with_reducible refine' ev_chain2 ?_ ?_ ?_ ?_ ?_ | with_reducible refine' et_B ?_ | with_reducible refine' et_test ?_ | with_reducible refine' et_and2 ?_ ?_ | with_reducible refine' et_or2 ?_ ?_ | with_reducible refine' et_not ?_ | with_reducible refine' ev_call ?_ ?_ | with_reducible refine' ev_callS ?_ ?_ | with_reducible refine' ev_cb ?_ ?_ | with_reducible exact isi_bool (by assumption) | with_reducible exact isi_int (by assumption) | with_reducible exact isi_list (by assumption) | with_reducible exact rc_len (by assumption) | with_reducible exact rc_sum (by assumption) | with_reducible exact rc_abs | with_reducible exact isi_listL (by assumption) | with_reducible exact isi_intI | with_reducible exact isi_boolI | with_reducible exact rc_lenT (by assumption) | with_reducible exact isi_tup (by assumption) | with_reducible exact rv_eqL (by assumption) (by assumption) | with_reducible exact rv_neL (by assumption) (by assumption) | with_reducible exact rv_neT (by assumption) (by assumption) | with_reducible exact rv_ixL (by assumption) (by assumption) | with_reducible exact rv_ixT (by assumption) (by assumption) | with_reducible refine' ev_din ?_ ?_ (by assumption) | with_reducible refine' ev_dnotin ?_ ?_ (by assumption) | with_reducible refine' ev_dget ?_ ?_ (by assumption) (by assumption) | ((with_reducible show SpV _ _ _ _); assumption) | ((with_reducible show RV _ _ _ _ _); assumption) | ((with_reducible show RC _ _ _ _); assumption) | ((with_reducible show CDiv _ _); exact ⟨by omega, by omega⟩) | ((with_reducible show CMul _ _); first | exact .inl ⟨by omega, by omega⟩ | exact .inr ⟨by omega, by omega⟩) | ((with_reducible show CPow _ _); exact ⟨by omega, by omega, by first | decide | assumption | omega⟩) | ((with_reducible show (0 : Int) < _); omega) | ((with_reducible show (0 : Int) ≤ _); omega) | ((with_reducible show scal _ _ = true); rfl)))) (sx_check_state (hb.mono e1) (hm.mono e1) hok2 q))
    have cs2 := sv_check_state (K := K) (hb.mono e1) (hm.mono e1) hok2
    refine q_drop (v := .non) (by (repeat' (first | with_reducible exact ev_c | ((with_reducible show Ev (tVar _) _ _ _); exact ev_var rfl) | with_reducible exact ea_nil | with_reducible exact eo_none | with_reducible refine' ea_cons ?_ ?_ | with_reducible refine' eo_some ?_ | with_reducible refine' ev_and2 ?_ ?_ | with_reducible refine' ev_or2 ?_ ?_ | with_reducible refine' ev_notV ?_ | with_reducible exact ru_I | with_reducible refine' ev_un ?_ ?_ | with_reducible exact rv_I0 | with_reducible exact rv_isN | with_reducible exact rv_notN | with_reducible refine' rv_I ?_ | with_reducible refine' rv_eq ?_ | with_reducible refine' rv_ne ?_ | with_reducible refine' ev_op ?_ ?_ ?_ | with_reducible refine' ev_chain2 ?_ ?_ ?_ ?_ ?_ | with_reducible refine' et_B ?_ | with_reducible refine' et_test ?_ | with_reducible refine' et_and2 ?_ ?_ | with_reducible refine' et_or2 ?_ ?_ | with_reducible refine' et_not ?_ | with_reducible refine' ev_call ?_ ?_ | with_reducible refine' ev_callS ?_ ?_ | with_reducible refine' ev_cb ?_ ?_ | with_reducible exact isi_bool (by assumption) | with_reducible exact isi_int (by assumption) | with_reducible exact isi_list (by assumption) | with_reducible exact rc_len (by assumption) | with_reducible exact rc_sum (by assumption) | with_reducible exact rc_abs | with_reducible exact isi_listL (by assumption) | with_reducible exact isi_intI | with_reducible exact isi_boolI | with_reducible exact rc_lenT (by assumption) | with_reducible exact isi_tup (by assumption) | with_reducible exact rv_eqL (by assumption) (by assumption) | with_reducible exact rv_neL (by assumption) (by assumption) | with_reducible exact rv_neT (by assumption) (by assumption) | with_reducible exact rv_ixL (by assumption) (by assumption) | with_reducible exact rv_ixT (by assumption) (by assumption) | with_reducible refine' ev_din ?_ ?_ (by assumption) | with_reducible refine' ev_dnotin ?_ ?_ (by assumption) | with_reducible refine' ev_dget ?_ ?_ (by assumption) (by assumption) | ((with_reducible show SpV _ _ _ _); assumption) | ((with_reducible show RV _ _ _ _ _); assumption) | ((with_reducible show RC _ _ _ _); assumption) | ((with_reducible show CDiv _ _); exact ⟨by omega, by omega⟩) | ((with_reducible show CMul _ _); first | exact .inl ⟨by omega, by omega⟩ | exact .inr ⟨by omega, by omega⟩) | ((with_reducible show CPow _ _); exact ⟨by omega, by omega, by first | decide | assumption | omega⟩) | ((with_reducible show (0 : Int) < _); omega) | ((with_reducible show (0 : Int) ≤ _); omega) | ((with_reducible show scal _ _ = true); rfl)))) fun H2 e2 => ?_
    obtain ⟨x, k, rfl, rfl, k1, k10, hx⟩ := stOk_nat hok
    obtain ⟨o, k', rfl, ek, _, _, ho⟩ := stOk_nat hok2
    have ek : k = k' := by
      injection ek with ek
      omega
    subst ek
    have p10 := pow_le10 k10
    have bx : SpV (sp_bits_of K) [.int (x : Int)] H2 (.int (popN x : Int)) := spv_of fun H3 e3 Q E q => ⟨x, rfl, by omega, q⟩
    have bo : SpV (sp_bits_of K) [.int (o : Int)] H2 (.int (popN o : Int)) := spv_of fun H3 e3 Q E q => ⟨o, rfl, by omega, q⟩
    by_cases hp : popN x = popN o
    case neg =>
      have q := q1 fun ⟨x2, o2, k2, h1, h2, h3, h4, h5, h6, h7, h8⟩ => by
        injection h1 with h1
        injection h2 with h2
        exact hp (by rw [show x = x2 by omega, show o = o2 by omega]; exact h8)
      exact q_when (b := !decide (V.int (popN x : Int) = V.int (popN o : Int))) (by (repeat' (first | with_reducible exact ev_c | ((with_reducible show Ev (tVar _) _ _ _); exact ev_var rfl) | with_reducible exact ea_nil | with_reducible exact eo_none | with_reducible refine' ea_cons ?_ ?_ | with_reducible refine' eo_some ?_ | with_reducible refine' ev_and2 ?_ ?_ | with_reducible refine' ev_or2 ?_ ?_ | with_reducible refine' ev_notV ?_ | with_reducible exact ru_I | with_reducible refine' ev_un ?_ ?_ | with_reducible exact rv_I0 | with_reducible exact rv_isN | with_reducible exact rv_notN | with_reducible refine' rv_I ?_ | with_reducible refine' rv_eq ?_ | with_reducible refine' rv_ne ?_ | with_reducible refine' ev_op ?_ ?_ ?_ | with_reducible refine' ev_chain2 ?_ ?_ ?_ ?_ ?_ | with_reducible refine' et_B ?_ | with_reducible refine' et_test ?_ | with_reducible refine' et_and2 ?_ ?_ | with_reducible refine' et_or2 ?_ ?_ | with_reducible refine' et_not ?_ | with_reducible refine' ev_call ?_ ?_ | with_reducible refine' ev_callS ?_ ?_ | with_reducible refine' ev_cb ?_ ?_ | with_reducible exact isi_bool (by assumption) | with_reducible exact isi_int (by assumption) | with_reducible exact isi_list (by assumption) | with_reducible exact rc_len (by assumption) | with_reducible exact rc_sum (by assumption) | with_reducible exact rc_abs | with_reducible exact isi_listL (by assumption) | with_reducible exact isi_intI | with_reducible exact isi_boolI | with_reducible exact rc_lenT (by assumption) | with_reducible exact isi_tup (by assumption) | with_reducible exact rv_eqL (by assumption) (by assumption) | with_reducible exact rv_neL (by assumption) (by assumption) | with_reducible exact rv_neT (by assumption) (by assumption) | with_reducible exact rv_ixL (by assumption) (by assumption) | with_reducible exact rv_ixT (by assumption) (by assumption) | with_reducible refine' ev_din ?_ ?_ (by assumption) | with_reducible refine' ev_dnotin ?_ ?_ (by assumption) | with_reducible refine' ev_dget ?_ ?_ (by assumption) (by assumption) | ((with_reducible show SpV _ _ _ _); assumption) | ((with_reducible show RV _ _ _ _ _); assumption) | ((with_reducible show RC _ _ _ _); assumption) | ((with_reducible show CDiv _ _); exact ⟨by omega, by omega⟩) | ((with_reducible show CMul _ _); first | exact .inl ⟨by omega, by omega⟩ | exact .inr ⟨by omega, by omega⟩) | ((with_reducible show CPow _ _); exact ⟨by omega, by omega, by first | decide | assumption | omega⟩) | ((with_reducible show (0 : Int) < _); omega) | ((with_reducible show (0 : Int) ≤ _); omega) | ((with_reducible show scal _ _ = true); rfl)))) (fun _ H3 e3 => q H3 ((e1.trans e2).trans e3)) (fun h => by
        rw [Bool.not_eq_false', decide_eq_true_iff] at h
        injection h with h
        exact absurd (by omega) hp)
    have q := q2 x o k rfl rfl rfl k1 k10 hx ho hp
    clear q1 q2
    refine q_when (b := !decide (V.int (popN x : Int) = V.int (popN o : Int))) (by (repeat' (first | with_reducible exact ev_c | ((with_reducible show Ev (tVar _) _ _ _); exact ev_var rfl) | with_reducible exact ea_nil | with_reducible exact eo_none | with_reducible refine' ea_cons ?_ ?_ | with_reducible refine' eo_some ?_ | with_reducible refine' ev_and2 ?_ ?_ | with_reducible refine' ev_or2 ?_ ?_ | with_reducible refine' ev_notV ?_ | with_reducible exact ru_I | with_reducible refine' ev_un ?_ ?_ | with_reducible exact rv_I0 | with_reducible exact rv_isN | with_reducible exact rv_notN | with_reducible refine' rv_I ?_ | with_reducible refine' rv_eq ?_ | with_reducible refine' rv_ne ?_ | with_reducible refine' ev_op ?_ ?_ ?_ | with_reducible refine' ev_chain2 ?_ ?_ ?_ ?_ ?_ | with_reducible refine' et_B ?_ | with_reducible refine' et_test ?_ | with_reducible refine' et_and2 ?_ ?_ | with_reducible refine' et_or2 ?_ ?_ | with_reducible refine' et_not ?_ | with_reducible refine' ev_call ?_ ?_ | with_reducible refine' ev_callS ?_ ?_ | with_reducible refine' ev_cb ?_ ?_ | with_reducible exact isi_bool (by assumption) | with_reducible exact isi_int (by assumption) | with_reducible exact isi_list (by assumption) | with_reducible exact rc_len (by assumption) | with_reducible exact rc_sum (by assumption) | with_reducible exact rc_abs | with_reducible exact isi_listL (by assumption) | with_reducible exact isi_intI | with_reducible exact isi_boolI | with_reducible exact rc_lenT (by assumption) | with_reducible exact isi_tup (by assumption) | with_reducible exact rv_eqL (by assumption) (by assumption) | with_reducible exact rv_neL (by assumption) (by assumption) | with_reducible exact rv_neT (by assumption) (by assumption) | with_reducible exact rv_ixL (by assumption) (by assumption) | with_reducible exact rv_ixT (by assumption) (by assumption) | with_reducible refine' ev_din ?_ ?_ (by assumption) | with_reducible refine' ev_dnotin ?_ ?_ (by assumption) | with_reducible refine' ev_dget ?_ ?_ (by assumption) (by assumption) | ((with_reducible show SpV _ _ _ _); assumption) | ((with_reducible show RV _ _ _ _ _); assumption) | ((with_reducible show RC _ _ _ _); assumption) | ((with_reducible show CDiv _ _); exact ⟨by omega, by omega⟩) | ((with_reducible show CMul _ _); first | exact .inl ⟨by omega, by omega⟩ | exact .inr ⟨by omega, by omega⟩) | ((with_reducible show CPow _ _); exact ⟨by omega, by omega, by first | decide | assumption | omega⟩) | ((with_reducible show (0 : Int) < _); omega) | ((with_reducible show (0 : Int) ≤ _); omega) | ((with_reducible show scal _ _ = true); rfl)))) (fun h => by rw [hp] at h; simp at h) (fun _ H3 e3 => ?_)
    refine q_relX (vs := [.int (o : Int), .int (k : Int)]) (by (repeat' (first | with_reducible exact ev_c | ((with_reducible show Ev (tVar _) _ _ _); exact ev_var rfl) | with_reducible exact ea_nil | with_reducible exact eo_none | with_reducible refine' ea_cons ?_ ?_ | with_reducible refine' eo_some ?_ | with_reducible refine' ev_and2 ?_ ?_ | with_reducible refine' ev_or2 ?_ ?_ | with_reducible refine' ev_notV ?_ | with_reducible exact ru_I | with_reducible refine' ev_un ?_ ?_ | with_reducible exact rv_I0 | with_reducible exact rv_isN | with_reducible exact rv_notN | with_reducible refine' rv_I ?_ | with_reducible refine' rv_eq ?_ | with_reducible refine' rv_ne ?_ | with_reducible refine' ev_op ?_ ?_ ?_ | with_reducible refine' ev_chain2 ?_ ?_ ?_ ?_ ?_ | with_reducible refine' et_B ?_ | with_reducible refine' et_test ?_ | with_reducible refine' et_and2 ?_ ?_ | with_reducible refine' et_or2 ?_ ?_ | with_reducible refine' et_not ?_ | with_reducible refine' ev_call ?_ ?_ | with_reducible refine' ev_callS ?_ ?_ | with_reducible refine' ev_cb ?_ ?_ | with_reducible exact isi_bool (by assumption) | with_reducible exact isi_int (by assumption) | with_reducible exact isi_list (by assumption) | with_reducible exact rc_len (by assumption) | with_reducible exact rc_sum (by assumption) | with_reducible exact rc_abs | with_reducible exact isi_listL (by assumption) | with_reducible exact isi_intI | with_reducible exact isi_boolI | with_reducible exact rc_lenT (by assumption) | with_reducible exact isi_tup (by assumption) | with_reducible exact rv_eqL (by assumption) (by assumption) | with_reducible exact rv_neL (by assumption) (by assumption) | with_reducible exact rv_neT (by assumption) (by assumption) | with_reducible exact rv_ixL (by assumption) (by assumption) | with_reducible exact rv_ixT (by assumption) (by assumption) | with_reducible refine' ev_din ?_ ?_ (by assumption) | with_reducible refine' ev_dnotin ?_ ?_ (by assumption) | with_reducible refine' ev_dget ?_ ?_ (by assumption) (by assumption) | ((with_reducible show SpV _ _ _ _); assumption) | ((with_reducible show RV _ _ _ _ _); assumption) | ((with_reducible show RC _ _ _ _); assumption) | ((with_reducible show CDiv _ _); exact ⟨by omega, by omega⟩) | ((with_reducible show CMul _ _); first | exact .inl ⟨by omega, by omega⟩ | exact .inr ⟨by omega, by omega⟩) | ((with_reducible show CPow _ _); exact ⟨by omega, by omega, by first | decide | assumption | omega⟩) | ((with_reducible show (0 : Int) < _); omega) | ((with_reducible show (0 : Int) ≤ _); omega) | ((with_reducible show scal _ _ = true); rfl)))) fun H4 e4 => dist_call k1 k10 ho fun fa D H5 hfa e5 h5 df => ?_
    refine q_asgL (xs := []) (el_lst ea_nil (by decide)) fun tl H6 htl e6 h6 => ?_
    have e15 := (((e1.trans e2).trans e3).trans e4).trans e5
    have tlH : H tl = none := fresh_back e15 htl
    have nft : fa ≠ tl := ne_of_none h5 htl
    have x0c : x ∈ classN k o := mem_class.mpr ⟨hx, hp⟩
    refine q_while (fun mm σ' H' => ∃ (y : Nat) (ts : List Nat) (y5 : Option V), σ' = [some (V.int (y : Int)), some (V.int (o : Int)), some (V.int (k : Int)), some (V.ref fa), some (V.ref tl), y5, none] ∧ Ex H H' ∧ H' fa = some (.dK (kvF (farC k o D))) ∧ H' tl = some (.lst (ntV ts)) ∧ y ∈ classN k o ∧ WayOk k x ts y ∧ ts.length + D y = D x ∧ mm = D y) (D x) ⟨x, [], none, rfl, e15.trans e6, e6 _ _ h5, h6, x0c, ⟨fun i t h => by simp at h, rfl⟩, by simp, rfl⟩ ?_
    rintro mm σ' H' ⟨y, ts, y5, rfl, e7, hf7, ht7, hy, way, hlen, rfl⟩
    obtain ⟨ym, yp⟩ := mem_class.mp hy
    have dlt : D y ≤ D x := by omega
    have db := dist_b k1 k10 df ho x0c
    refine ⟨!decide (V.int (y : Int) = V.int (o : Int)), by (repeat' (first | with_reducible exact ev_c | ((with_reducible show Ev (tVar _) _ _ _); exact ev_var rfl) | with_reducible exact ea_nil | with_reducible exact eo_none | with_reducible refine' ea_cons ?_ ?_ | with_reducible refine' eo_some ?_ | with_reducible refine' ev_and2 ?_ ?_ | with_reducible refine' ev_or2 ?_ ?_ | with_reducible refine' ev_notV ?_ | with_reducible exact ru_I | with_reducible refine' ev_un ?_ ?_ | with_reducible exact rv_I0 | with_reducible exact rv_isN | with_reducible exact rv_notN | with_reducible refine' rv_I ?_ | with_reducible refine' rv_eq ?_ | with_reducible refine' rv_ne ?_ | with_reducible refine' ev_op ?_ ?_ ?_ | with_reducible refine' ev_chain2 ?_ ?_ ?_ ?_ ?_ | with_reducible refine' et_B ?_ | with_reducible refine' et_test ?_ | with_reducible refine' et_and2 ?_ ?_ | with_reducible refine' et_or2 ?_ ?_ | with_reducible refine' et_not ?_ | with_reducible refine' ev_call ?_ ?_ | with_reducible refine' ev_callS ?_ ?_ | with_reducible refine' ev_cb ?_ ?_ | with_reducible exact isi_bool (by assumption) | with_reducible exact isi_int (by assumption) | with_reducible exact isi_list (by assumption) | with_reducible exact rc_len (by assumption) | with_reducible exact rc_sum (by assumption) | with_reducible exact rc_abs | with_reducible exact isi_listL (by assumption) | with_reducible exact isi_intI | with_reducible exact isi_boolI | with_reducible exact rc_lenT (by assumption) | with_reducible exact isi_tup (by assumption) | with_reducible exact rv_eqL (by assumption) (by assumption) | with_reducible exact rv_neL (by assumption) (by assumption) | with_reducible exact rv_neT (by assumption) (by assumption) | with_reducible exact rv_ixL (by assumption) (by assumption) | with_reducible exact rv_ixT (by assumption) (by assumption) | with_reducible refine' ev_din ?_ ?_ (by assumption) | with_reducible refine' ev_dnotin ?_ ?_ (by assumption) | with_reducible refine' ev_dget ?_ ?_ (by assumption) (by assumption) | ((with_reducible show SpV _ _ _ _); assumption) | ((with_reducible show RV _ _ _ _ _); assumption) | ((with_reducible show RC _ _ _ _); assumption) | ((with_reducible show CDiv _ _); exact ⟨by omega, by omega⟩) | ((with_reducible show CMul _ _); first | exact .inl ⟨by omega, by omega⟩ | exact .inr ⟨by omega, by omega⟩) | ((with_reducible show CPow _ _); exact ⟨by omega, by omega, by first | decide | assumption | omega⟩) | ((with_reducible show (0 : Int) < _); omega) | ((with_reducible show (0 : Int) ≤ _); omega) | ((with_reducible show scal _ _ = true); rfl))), fun hb H8 e8 => ?_, fun hb H8 e8 => ?_⟩
    · have hne : y ≠ o := fun z => by rw [z] at hb; simp at hb
      refine ⟨fun σ' H' => ∃ (y2 : Nat) (ts : List Nat) (y5 : Option V), σ' = [some (V.int (y2 : Int)), some (V.int (o : Int)), some (V.int (k : Int)), some (V.ref fa), some (V.ref tl), y5, none] ∧ Ex H H' ∧ H' fa = some (.dK (kvF (farC k o D))) ∧ H' tl = some (.lst (ntV ts)) ∧ y2 ∈ classN k o ∧ WayOk k x ts y2 ∧ ts.length + D y2 = D x ∧ D y2 < D y, fun σ2 H2 h => ?_, ?_⟩
      · obtain ⟨y2, ts2, z5, g1, g2, g3, g4, g5, g6, g7, g8⟩ := h
        exact ⟨D y2, g8, y2, ts2, z5, g1, g2, g3, g4, g5, g6, g7, rfl⟩
      have hf8 := e8 _ _ hf7
      have ht8 := e8 _ _ ht7
      have sv := farC_val (D := D) hy
      have mem : ∀ s ∈ (stepsN k y).map natP, ∃ t z : Nat, (t, z) ∈ stepsN k y ∧ s = ((t : Int), (z : Int)) ∧ z ∈ classN k o ∧ z ∈ succN k y := fun s hs => by
        obtain ⟨p, hp, e⟩ := List.mem_map.mp hs
        have hz : p.2 ∈ succN k y := by
          rw [← steps_succ]
          exact List.mem_map.mpr ⟨p, hp, rfl⟩
        exact ⟨p.1, p.2, hp, e.symm, class_succ k1 k10 hy hz, hz⟩
      have slen : ((stepsN k y).map natP).length ≤ 40000 := by
        rw [List.length_map]
        unfold stepsN
        split
        · simp
        · refine Nat.le_trans (List.length_filterMap_le _ _) ?_
          rw [List.length_range]
          omega
      refine q_first (l := (stepsN k y).map natP) (fun s => decide (D s.2.toNat < D y)) (es_call (dvs := []) (vs := [.int (y : Int), .int (k : Int)]) (by (repeat' (first | with_reducible exact ev_c | ((with_reducible show Ev (tVar _) _ _ _); exact ev_var rfl) | with_reducible exact ea_nil | with_reducible exact eo_none | with_reducible refine' ea_cons ?_ ?_ | with_reducible refine' eo_some ?_ | with_reducible refine' ev_and2 ?_ ?_ | with_reducible refine' ev_or2 ?_ ?_ | with_reducible refine' ev_notV ?_ | with_reducible exact ru_I | with_reducible refine' ev_un ?_ ?_ | with_reducible exact rv_I0 | with_reducible exact rv_isN | with_reducible exact rv_notN | with_reducible refine' rv_I ?_ | with_reducible refine' rv_eq ?_ | with_reducible refine' rv_ne ?_ | with_reducible refine' ev_op ?_ ?_ ?_ | with_reducible refine' ev_chain2 ?_ ?_ ?_ ?_ ?_ | with_reducible refine' et_B ?_ | with_reducible refine' et_test ?_ | with_reducible refine' et_and2 ?_ ?_ | with_reducible refine' et_or2 ?_ ?_ | with_reducible refine' et_not ?_ | with_reducible refine' ev_call ?_ ?_ | with_reducible refine' ev_callS ?_ ?_ | with_reducible refine' ev_cb ?_ ?_ | with_reducible exact isi_bool (by assumption) | with_reducible exact isi_int (by assumption) | with_reducible exact isi_list (by assumption) | with_reducible exact rc_len (by assumption) | with_reducible exact rc_sum (by assumption) | with_reducible exact rc_abs | with_reducible exact isi_listL (by assumption) | with_reducible exact isi_intI | with_reducible exact isi_boolI | with_reducible exact rc_lenT (by assumption) | with_reducible exact isi_tup (by assumption) | with_reducible exact rv_eqL (by assumption) (by assumption) | with_reducible exact rv_neL (by assumption) (by assumption) | with_reducible exact rv_neT (by assumption) (by assumption) | with_reducible exact rv_ixL (by assumption) (by assumption) | with_reducible exact rv_ixT (by assumption) (by assumption) | with_reducible refine' ev_din ?_ ?_ (by assumption) | with_reducible refine' ev_dnotin ?_ ?_ (by assumption) | with_reducible refine' ev_dget ?_ ?_ (by assumption) (by assumption) | ((with_reducible show SpV _ _ _ _); assumption) | ((with_reducible show RV _ _ _ _ _); assumption) | ((with_reducible show RC _ _ _ _); assumption) | ((with_reducible show CDiv _ _); exact ⟨by omega, by omega⟩) | ((with_reducible show CMul _ _); first | exact .inl ⟨by omega, by omega⟩ | exact .inr ⟨by omega, by omega⟩) | ((with_reducible show CPow _ _); exact ⟨by omega, by omega, by first | decide | assumption | omega⟩) | ((with_reducible show (0 : Int) < _); omega) | ((with_reducible show (0 : Int) ≤ _); omega) | ((with_reducible show scal _ _ = true); rfl)))) fun H9 e9 Q r => ⟨y, k, rfl, k1, k10, ym, r⟩) slen (fun _ => rfl) (fun _ => rfl) (fun p s H9 e9 hps hs => ?_) ?_ fun p s H9 hs hfs e9 h9 => ?_
      · obtain ⟨t, z, h1, rfl, h3, h4⟩ := mem s hs
        have stp : SqT K H9 p [.int (t : Int), .int (z : Int)] := st_of hps
        have at1 : atI [V.int (t : Int), V.int (z : Int)] 1 = some (V.int (z : Int)) := rfl
        have vz := farC_val (D := D) h3
        have hf9 := e9 _ _ hf8
        refine et_is (et_test (ev_op (ev_dget (ev_var rfl) (ev_op (ev_var rfl) ev_c (rv_ixT stp at1)) hf9 vz) (ev_dget (ev_var rfl) (ev_var rfl) hf9 sv) rv_I0)) ?_
        rw [Int.toNat_natCast, Bool.eq_iff_iff, decide_eq_true_iff, decide_eq_true_iff]
        omega
      · obtain ⟨z, hz, hD⟩ := df.near y hy hne
        rw [← steps_succ] at hz
        obtain ⟨p, hp, e⟩ := List.mem_map.mp hz
        refine ⟨natP p, List.mem_map.mpr ⟨p, hp, rfl⟩, ?_⟩
        unfold natP
        dsimp only
        rw [Int.toNat_natCast, e, decide_eq_true_iff]
        omega
      · obtain ⟨t, z, h1, rfl, h3, h4⟩ := mem s hs
        rw [Int.toNat_natCast, decide_eq_true_iff] at hfs
        have := df.far y hy z h4
        have stp : SqT K H9 p [.int (t : Int), .int (z : Int)] := st_of h9
        have at0 : atI [V.int (t : Int), V.int (z : Int)] 0 = some (V.int (t : Int)) := rfl
        have at1 : atI [V.int (t : Int), V.int (z : Int)] 1 = some (V.int (z : Int)) := rfl
        have ht9 := e9 _ _ ht8
        refine q_app (xs := ntV ts) (v := .int (t : Int)) ht9 (ev_var rfl) (ev_op (ev_var rfl) ev_c (rv_ixT stp at0)) (by unfold ntV; rw [List.length_map]; omega) fun H10 e10 => ?_
        have npt : p ≠ tl := fun w => by rw [w, ht9] at h9; cases h9
        have e11 : Ex H (upd H10 tl (.lst (ntV ts ++ [.int (t : Int)]))) := Ex.mut (((e7.trans e8).trans e9).trans e10) tlH
        have p11 : (upd H10 tl (.lst (ntV ts ++ [.int (t : Int)]))) p = some (.tup [.int (t : Int), .int (z : Int)]) := by
          rw [upd_ne npt]
          exact e10 _ _ h9
        have f11 : (upd H10 tl (.lst (ntV ts ++ [.int (t : Int)]))) fa = some (.dK (kvF (farC k o D))) := by
          rw [upd_ne nft]
          exact (e9.trans e10) _ _ hf8
        have t11 : (upd H10 tl (.lst (ntV ts ++ [.int (t : Int)]))) tl = some (.lst (ntV (ts ++ [t]))) := by
          rw [upd_same]
          unfold ntV
          rw [List.map_append]
          rfl
        generalize upd H10 tl (.lst (ntV ts ++ [.int (t : Int)])) = H11 at *
        exact s_asg (v := .int (z : Int)) (ev_op (ev_var rfl) ev_c (rv_ixT (st_of p11) at1)) fun H12 e12 => ⟨z, ts ++ [t], _, rfl, e11.trans e12, e12 _ _ f11, e12 _ _ t11, h3, way.snoc ym h1, by rw [List.length_append]; simp; omega, hfs⟩
    · have he : y = o := by
        rw [Bool.not_eq_false', decide_eq_true_iff] at hb
        injection hb with hb
        omega
      subst he
      refine s_ret (v := .ref tl) (by (repeat' (first | with_reducible exact ev_c | ((with_reducible show Ev (tVar _) _ _ _); exact ev_var rfl) | with_reducible exact ea_nil | with_reducible exact eo_none | with_reducible refine' ea_cons ?_ ?_ | with_reducible refine' eo_some ?_ | with_reducible refine' ev_and2 ?_ ?_ | with_reducible refine' ev_or2 ?_ ?_ | with_reducible refine' ev_notV ?_ | with_reducible exact ru_I | with_reducible refine' ev_un ?_ ?_ | with_reducible exact rv_I0 | with_reducible exact rv_isN | with_reducible exact rv_notN | with_reducible refine' rv_I ?_ | with_reducible refine' rv_eq ?_ | with_reducible refine' rv_ne ?_ | with_reducible refine' ev_op ?_ ?_ ?_ | with_reducible refine' ev_chain2 ?_ ?_ ?_ ?_ ?_ | with_reducible refine' et_B ?_ | with_reducible refine' et_test ?_ | with_reducible refine' et_and2 ?_ ?_ | with_reducible refine' et_or2 ?_ ?_ | with_reducible refine' et_not ?_ | with_reducible refine' ev_call ?_ ?_ | with_reducible refine' ev_callS ?_ ?_ | with_reducible refine' ev_cb ?_ ?_ | with_reducible exact isi_bool (by assumption) | with_reducible exact isi_int (by assumption) | with_reducible exact isi_list (by assumption) | with_reducible exact rc_len (by assumption) | with_reducible exact rc_sum (by assumption) | with_reducible exact rc_abs | with_reducible exact isi_listL (by assumption) | with_reducible exact isi_intI | with_reducible exact isi_boolI | with_reducible exact rc_lenT (by assumption) | with_reducible exact isi_tup (by assumption) | with_reducible exact rv_eqL (by assumption) (by assumption) | with_reducible exact rv_neL (by assumption) (by assumption) | with_reducible exact rv_neT (by assumption) (by assumption) | with_reducible exact rv_ixL (by assumption) (by assumption) | with_reducible exact rv_ixT (by assumption) (by assumption) | with_reducible refine' ev_din ?_ ?_ (by assumption) | with_reducible refine' ev_dnotin ?_ ?_ (by assumption) | with_reducible refine' ev_dget ?_ ?_ (by assumption) (by assumption) | ((with_reducible show SpV _ _ _ _); assumption) | ((with_reducible show RV _ _ _ _ _); assumption) | ((with_reducible show RC _ _ _ _); assumption) | ((with_reducible show CDiv _ _); exact ⟨by omega, by omega⟩) | ((with_reducible show CMul _ _); first | exact .inl ⟨by omega, by omega⟩ | exact .inr ⟨by omega, by omega⟩) | ((with_reducible show CPow _ _); exact ⟨by omega, by omega, by first | decide | assumption | omega⟩) | ((with_reducible show (0 : Int) < _); omega) | ((with_reducible show (0 : Int) ≤ _); omega) | ((with_reducible show scal _ _ = true); rfl)))) fun H9 e9 => q tl ts H9 tlH ((e7.trans e8).trans e9) ((e8.trans e9) _ _ ht7) way fun D' df' => ?_
      have z := df.zero
      rw [z] at hlen
      rw [← dist_one k1 k10 df df' x0c]
      omega

end TB

/-! ### the law k13 -/
namespace TB
open PySem PySem.Spec PyProof.Rows L2 Evl
theorem ev_ifE {σ : L2.St} {H : Hp} {t : TT} {ta tb : TE} {v : V} {b : Bool} (h : EvT t σ H b) (h1 : b = true → Ev ta σ H v) (h2 : b = false → Ev tb σ H v) : Ev (tIf t ta tb) σ H v := fun H1 e Q q => h H1 e _ fun H2 e2 => by
  cases b with
  | true =>
    rw [if_pos rfl]
    exact h1 rfl H2 (e.trans e2) Q fun H3 e3 => q H3 (e2.trans e3)
  | false =>
    rw [if_neg (by decide)]
    exact h2 rfl H2 (e.trans e2) Q fun H3 e3 => q H3 (e2.trans e3)
theorem steps_bits {m x t y : Nat} (h : (t, y) ∈ stepsN m x) : (t = 0 ∧ x % 2 = 0 ∧ y = x / 2) ∨ (t ≠ 0 ∧ x % 2 = 1 ∧ x / 2 ^ t % 2 = 0 ∧ y = x / 2 + 2 ^ (t - 1)) := by
  unfold stepsN at h
  by_cases c : x % 2 = 0
  · rw [if_pos c] at h
    have := List.mem_singleton.mp h
    injection this with a b
    exact .inl ⟨a, c, b⟩
  · rw [if_neg c] at h
    obtain ⟨u, hu, e⟩ := List.mem_filterMap.mp h
    by_cases d : x / 2 ^ (u + 1) % 2 = 0
    · rw [if_pos d] at e
      injection e with e
      injection e with a b
      subst a
      exact .inr ⟨by omega, by omega, d, b.symm⟩
    · rw [if_neg d] at e
      cases e
def sp_led13 : Sp := fun vs H Q E => ∃ (x t m y : Nat), vs = [.int (x : Int), .int (t : Int), .int (m : Int)] ∧ m ≤ 10 ∧ (t, y) ∈ stepsN m x ∧ RetV (.int (y : Int)) H Q
theorem sc__law_led : FnScope ["_law_state", "_law_throw", "_law_most"] ["_law_state", "_law_throw", "_law_most"] (defScope s__law_led) := ⟨rfl, rfl, rfl, by decide +kernel, rfl, by decide +kernel, by decide +kernel⟩
theorem ok__law_led {P : Program} {w : World} {K : PySem.W.Frag} {mg : Str → Option Value} {base : Heap} (T : TXT K mg) : OK P w K mg base "_law_led" ["_law_state", "_law_throw", "_law_most"] 1 (sp_led13) := by
  obtain ⟨fd, F⟩ := T.def_ 12
  refine ⟨_, fd, T.glo 12, F.kp, F.bindsN (fun _ _ _ _ _ _ us hl => match us, hl with | [_, _, _], _ => rfl), F.ok sc__law_led (fun vs H Q E h => ?_) (fun cdv A outer s H vs Q E hr h => ?_), F.bindsA (fun _ _ _ _ _ _ us hl => match us, hl with | [_, _, _], _ => rfl)⟩
  · first | (obtain ⟨rfl, _⟩ := h; rfl) | (obtain ⟨_, rfl, _⟩ := h; rfl) | (obtain ⟨_, _, rfl, _⟩ := h; rfl) | (obtain ⟨_, _, _, rfl, _⟩ := h; rfl) | (obtain ⟨_, _, _, _, rfl, _⟩ := h; rfl) | (obtain ⟨_, _, _, _, _, rfl, _⟩ := h; rfl) | (obtain ⟨_, _, _, _, _, _, rfl, _⟩ := h; rfl) | (obtain ⟨_, _, _, _, _, _, _, rfl, _⟩ := h; rfl) | (obtain ⟨_, _, _, _, _, _, _, _, rfl, _⟩ := h; rfl)
  · replace F : FunD K "_law_led" "_law_led" (defArgs s__law_led) (defBody s__law_led) (defScope s__law_led) [] [] (He.ga K "_law_led") fd := F
    refine ⟨_, (pss_cons (ps_if (PW.pt (pw_or (pt_not (pt_val (pe_callB (id := "isinstance") (k_isi K) (by rfl) (T.free 21) (by decide +kernel) (pa_cons (pv 1) (pa_cons (pe_ty (T := "int") (T.free 20) (by decide +kernel)) pa_nil))))) (pw_or (pt_val (pe_callB (id := "isinstance") (k_isi K) (by rfl) (T.free 21) (by decide +kernel) (pa_cons (pv 1) (pa_cons (pe_ty (T := "bool") (T.free 19) (by decide +kernel)) pa_nil)))) (pw_or (pt_not (pt_chain op_le op_le pe_int (pv 1) (pv 2))) (pw_or1 (pt_cmpR op_lt (pv 0) pe_int (nomark _)))))))
        (pss_one (ps_ret (pe_un un_neg pe_int)))
        pss_nil)
      (pss_cons (ps_if (pt_cmpR op_eq (pv 1) pe_int (nomark _))
        (pss_one (ps_ret (pe_ifExp (pt_cmpR op_eq (pe_op op_and (pv 0) pe_int) pe_int (nomark _)) (pe_op op_shr (pv 0) pe_int) (pe_un un_neg pe_int))))
        pss_nil)
      (pss_cons (ps_if (PW.pt (pw_or (pt_cmpR op_eq (pe_op op_and (pv 0) pe_int) pe_int (nomark _)) (pw_or1 (pt_cmpR op_eq (pe_op op_and (pe_op op_shr (pv 0) (pv 1)) pe_int) pe_int (nomark _)))))
        (pss_one (ps_ret (pe_un un_neg pe_int)))
        pss_nil)
      (pss_one (ps_ret (pe_op op_add (pe_op op_shr (pv 0) pe_int) (pe_op op_shl pe_int (pe_op op_sub (pv 1) pe_int)))))))), ?_⟩
    obtain ⟨x, t, m, y, rfl, hm, hs, q⟩ := h
    dsimp only [cxOf, L2.start, List.map_cons, List.map_nil, List.length_cons, List.length_nil, Nat.reduceAdd, Nat.reduceSub, List.replicate_succ, List.replicate_zero, List.cons_append, List.nil_append, Nat.zero_add, List.reduceReplicate, List.map]
    obtain ⟨_, htm⟩ := steps_led hs
    have hb := half_nat x
    have bi : ∀ {H9 : Hp}, RC (rIsi K) [.int (t : Int), .ty "int"] H9 (.bl true) := fun {_} => isi_intI
    refine q_when (b := !true || (false || (!(decide ((0 : Int) ≤ (t : Int)) && decide ((t : Int) ≤ (m : Int))) || decide ((x : Int) < 0)))) (by (repeat' (first | with_reducible exact ev_c | ((with_reducible show Ev (tVar _) _ _ _); exact ev_var rfl) | with_reducible exact ea_nil | with_reducible exact eo_none | with_reducible refine' ea_cons ?_ ?_ | with_reducible refine' eo_some ?_ | with_reducible refine' ev_and2 ?_ ?_ | with_reducible refine' ev_or2 ?_ ?_ | with_reducible refine' ev_notV ?_ | with_reducible exact ru_I | with_reducible refine' ev_un ?_ ?_ | with_reducible exact rv_I0 | with_reducible exact rv_isN | with_reducible exact rv_notN | with_reducible refine' rv_I ?_ | with_reducible refine' rv_eq ?_ | with_reducible refine' rv_ne ?_ | with_reducible refine' ev_op ?_ ?_ ?_ | with_reducible refine' ev_chain2 ?_ ?_ ?_ ?_ ?_ | with_reducible refine' et_B ?_ | with_reducible refine' et_test ?_ | with_reducible refine' et_and2 ?_ ?_ | with_reducible refine' et_or2 ?_ ?_ | with_reducible refine' et_not ?_ | with_reducible refine' ev_call ?_ ?_ | with_reducible refine' ev_callS ?_ ?_ | with_reducible refine' ev_cb ?_ ?_ | with_reducible exact isi_bool (by assumption) | with_reducible exact isi_int (by assumption) | with_reducible exact isi_list (by assumption) | with_reducible exact rc_len (by assumption) | with_reducible exact rc_sum (by assumption) | with_reducible exact rc_abs | with_reducible exact isi_listL (by assumption) | with_reducible exact isi_intI | with_reducible exact isi_boolI | with_reducible exact rc_lenT (by assumption) | with_reducible exact isi_tup (by assumption) | with_reducible exact rv_eqL (by assumption) (by assumption) | with_reducible exact rv_neL (by assumption) (by assumption) | with_reducible exact rv_neT (by assumption) (by assumption) | with_reducible exact rv_ixL (by assumption) (by assumption) | with_reducible exact rv_ixT (by assumption) (by assumption) | with_reducible refine' ev_din ?_ ?_ (by assumption) | with_reducible refine' ev_dnotin ?_ ?_ (by assumption) | with_reducible refine' ev_dget ?_ ?_ (by assumption) (by assumption) | ((with_reducible show SpV _ _ _ _); assumption) | ((with_reducible show RV _ _ _ _ _); assumption) | ((with_reducible show RC _ _ _ _); assumption) | ((with_reducible show CDiv _ _); exact ⟨by omega, by omega⟩) | ((with_reducible show CMul _ _); first | exact .inl ⟨by omega, by omega⟩ | exact .inr ⟨by omega, by omega⟩) | ((with_reducible show CPow _ _); exact ⟨by omega, by omega, by first | decide | assumption | omega⟩) | ((with_reducible show (0 : Int) < _); omega) | ((with_reducible show (0 : Int) ≤ _); omega) | ((with_reducible show scal _ _ = true); rfl)))) (fun h => by
      rw [decide_eq_true (show (0 : Int) ≤ (t : Int) by omega), decide_eq_true (show (t : Int) ≤ (m : Int) by omega), decide_eq_false (show ¬ (x : Int) < 0 by omega)] at h
      simp at h) (fun _ H0 e0 => ?_)
    have q := RetV.mono e0 q
    rcases steps_bits hs with ⟨h1, h2, rfl⟩ | ⟨h1, h2, h3, rfl⟩
    · subst h1
      refine q_when (b := decide (V.int ((0 : Nat) : Int) = V.int 0)) (by (repeat' (first | with_reducible exact ev_c | ((with_reducible show Ev (tVar _) _ _ _); exact ev_var rfl) | with_reducible exact ea_nil | with_reducible exact eo_none | with_reducible refine' ea_cons ?_ ?_ | with_reducible refine' eo_some ?_ | with_reducible refine' ev_and2 ?_ ?_ | with_reducible refine' ev_or2 ?_ ?_ | with_reducible refine' ev_notV ?_ | with_reducible exact ru_I | with_reducible refine' ev_un ?_ ?_ | with_reducible exact rv_I0 | with_reducible exact rv_isN | with_reducible exact rv_notN | with_reducible refine' rv_I ?_ | with_reducible refine' rv_eq ?_ | with_reducible refine' rv_ne ?_ | with_reducible refine' ev_op ?_ ?_ ?_ | with_reducible refine' ev_chain2 ?_ ?_ ?_ ?_ ?_ | with_reducible refine' et_B ?_ | with_reducible refine' et_test ?_ | with_reducible refine' et_and2 ?_ ?_ | with_reducible refine' et_or2 ?_ ?_ | with_reducible refine' et_not ?_ | with_reducible refine' ev_call ?_ ?_ | with_reducible refine' ev_callS ?_ ?_ | with_reducible refine' ev_cb ?_ ?_ | with_reducible exact isi_bool (by assumption) | with_reducible exact isi_int (by assumption) | with_reducible exact isi_list (by assumption) | with_reducible exact rc_len (by assumption) | with_reducible exact rc_sum (by assumption) | with_reducible exact rc_abs | with_reducible exact isi_listL (by assumption) | with_reducible exact isi_intI | with_reducible exact isi_boolI | with_reducible exact rc_lenT (by assumption) | with_reducible exact isi_tup (by assumption) | with_reducible exact rv_eqL (by assumption) (by assumption) | with_reducible exact rv_neL (by assumption) (by assumption) | with_reducible exact rv_neT (by assumption) (by assumption) | with_reducible exact rv_ixL (by assumption) (by assumption) | with_reducible exact rv_ixT (by assumption) (by assumption) | with_reducible refine' ev_din ?_ ?_ (by assumption) | with_reducible refine' ev_dnotin ?_ ?_ (by assumption) | with_reducible refine' ev_dget ?_ ?_ (by assumption) (by assumption) | ((with_reducible show SpV _ _ _ _); assumption) | ((with_reducible show RV _ _ _ _ _); assumption) | ((with_reducible show RC _ _ _ _); assumption) | ((with_reducible show CDiv _ _); exact ⟨by omega, by omega⟩) | ((with_reducible show CMul _ _); first | exact .inl ⟨by omega, by omega⟩ | exact .inr ⟨by omega, by omega⟩) | ((with_reducible show CPow _ _); exact ⟨by omega, by omega, by first | decide | assumption | omega⟩) | ((with_reducible show (0 : Int) < _); omega) | ((with_reducible show (0 : Int) ≤ _); omega) | ((with_reducible show scal _ _ = true); rfl)))) (fun _ H1 e1 => ?_) (fun h => absurd rfl (of_decide_eq_false h))
      refine s_ret (v := .int ((x / 2 : Nat) : Int)) (ev_ifE (b := decide (x % 2 = 0)) ?_ (fun _ => ev_is (v := .int ((x : Int) / 2 ^ (1 : Int).toNat)) (by (repeat' (first | with_reducible exact ev_c | ((with_reducible show Ev (tVar _) _ _ _); exact ev_var rfl) | with_reducible exact ea_nil | with_reducible exact eo_none | with_reducible refine' ea_cons ?_ ?_ | with_reducible refine' eo_some ?_ | with_reducible refine' ev_and2 ?_ ?_ | with_reducible refine' ev_or2 ?_ ?_ | with_reducible refine' ev_notV ?_ | with_reducible exact ru_I | with_reducible refine' ev_un ?_ ?_ | with_reducible exact rv_I0 | with_reducible exact rv_isN | with_reducible exact rv_notN | with_reducible refine' rv_I ?_ | with_reducible refine' rv_eq ?_ | with_reducible refine' rv_ne ?_ | with_reducible refine' ev_op ?_ ?_ ?_ | with_reducible refine' ev_chain2 ?_ ?_ ?_ ?_ ?_ | with_reducible refine' et_B ?_ | with_reducible refine' et_test ?_ | with_reducible refine' et_and2 ?_ ?_ | with_reducible refine' et_or2 ?_ ?_ | with_reducible refine' et_not ?_ | with_reducible refine' ev_call ?_ ?_ | with_reducible refine' ev_callS ?_ ?_ | with_reducible refine' ev_cb ?_ ?_ | with_reducible exact isi_bool (by assumption) | with_reducible exact isi_int (by assumption) | with_reducible exact isi_list (by assumption) | with_reducible exact rc_len (by assumption) | with_reducible exact rc_sum (by assumption) | with_reducible exact rc_abs | with_reducible exact isi_listL (by assumption) | with_reducible exact isi_intI | with_reducible exact isi_boolI | with_reducible exact rc_lenT (by assumption) | with_reducible exact isi_tup (by assumption) | with_reducible exact rv_eqL (by assumption) (by assumption) | with_reducible exact rv_neL (by assumption) (by assumption) | with_reducible exact rv_neT (by assumption) (by assumption) | with_reducible exact rv_ixL (by assumption) (by assumption) | with_reducible exact rv_ixT (by assumption) (by assumption) | with_reducible refine' ev_din ?_ ?_ (by assumption) | with_reducible refine' ev_dnotin ?_ ?_ (by assumption) | with_reducible refine' ev_dget ?_ ?_ (by assumption) (by assumption) | ((with_reducible show SpV _ _ _ _); assumption) | ((with_reducible show RV _ _ _ _ _); assumption) | ((with_reducible show RC _ _ _ _); assumption) | ((with_reducible show CDiv _ _); exact ⟨by omega, by omega⟩) | ((with_reducible show CMul _ _); first | exact .inl ⟨by omega, by omega⟩ | exact .inr ⟨by omega, by omega⟩) | ((with_reducible show CPow _ _); exact ⟨by omega, by omega, by first | decide | assumption | omega⟩) | ((with_reducible show (0 : Int) < _); omega) | ((with_reducible show (0 : Int) ≤ _); omega) | ((with_reducible show scal _ _ = true); rfl)))) (congrArg V.int hb)) (fun h => absurd h2 (of_decide_eq_false h))) fun H2 e2 => q H2 (e1.trans e2)
      apply et_is
      · (repeat' (first | with_reducible exact ev_c | ((with_reducible show Ev (tVar _) _ _ _); exact ev_var rfl) | with_reducible exact ea_nil | with_reducible exact eo_none | with_reducible refine' ea_cons ?_ ?_ | with_reducible refine' eo_some ?_ | with_reducible refine' ev_and2 ?_ ?_ | with_reducible refine' ev_or2 ?_ ?_ | with_reducible refine' ev_notV ?_ | with_reducible exact ru_I | with_reducible refine' ev_un ?_ ?_ | with_reducible exact rv_I0 | with_reducible exact rv_isN | with_reducible exact rv_notN | with_reducible refine' rv_I ?_ | with_reducible refine' rv_eq ?_ | with_reducible refine' rv_ne ?_ | with_reducible refine' ev_op ?_ ?_ ?_ | with_reducible refine' ev_chain2 ?_ ?_ ?_ ?_ ?_ | with_reducible refine' et_B ?_ | with_reducible refine' et_test ?_ | with_reducible refine' et_and2 ?_ ?_ | with_reducible refine' et_or2 ?_ ?_ | with_reducible refine' et_not ?_ | with_reducible refine' ev_call ?_ ?_ | with_reducible refine' ev_callS ?_ ?_ | with_reducible refine' ev_cb ?_ ?_ | with_reducible exact isi_bool (by assumption) | with_reducible exact isi_int (by assumption) | with_reducible exact isi_list (by assumption) | with_reducible exact rc_len (by assumption) | with_reducible exact rc_sum (by assumption) | with_reducible exact rc_abs | with_reducible exact isi_listL (by assumption) | with_reducible exact isi_intI | with_reducible exact isi_boolI | with_reducible exact rc_lenT (by assumption) | with_reducible exact isi_tup (by assumption) | with_reducible exact rv_eqL (by assumption) (by assumption) | with_reducible exact rv_neL (by assumption) (by assumption) | with_reducible exact rv_neT (by assumption) (by assumption) | with_reducible exact rv_ixL (by assumption) (by assumption) | with_reducible exact rv_ixT (by assumption) (by assumption) | with_reducible refine' ev_din ?_ ?_ (by assumption) | with_reducible refine' ev_dnotin ?_ ?_ (by assumption) | with_reducible refine' ev_dget ?_ ?_ (by assumption) (by assumption) | ((with_reducible show SpV _ _ _ _); assumption) | ((with_reducible show RV _ _ _ _ _); assumption) | ((with_reducible show RC _ _ _ _); assumption) | ((with_reducible show CDiv _ _); exact ⟨by omega, by omega⟩) | ((with_reducible show CMul _ _); first | exact .inl ⟨by omega, by omega⟩ | exact .inr ⟨by omega, by omega⟩) | ((with_reducible show CPow _ _); exact ⟨by omega, by omega, by first | decide | assumption | omega⟩) | ((with_reducible show (0 : Int) < _); omega) | ((with_reducible show (0 : Int) ≤ _); omega) | ((with_reducible show scal _ _ = true); rfl)))
      · rw [dec_int, bitAnd_m1, Bool.eq_iff_iff, beq_iff_eq, decide_eq_true_iff]
        omega
    · refine q_when (b := decide (V.int (t : Int) = V.int 0)) (by (repeat' (first | with_reducible exact ev_c | ((with_reducible show Ev (tVar _) _ _ _); exact ev_var rfl) | with_reducible exact ea_nil | with_reducible exact eo_none | with_reducible refine' ea_cons ?_ ?_ | with_reducible refine' eo_some ?_ | with_reducible refine' ev_and2 ?_ ?_ | with_reducible refine' ev_or2 ?_ ?_ | with_reducible refine' ev_notV ?_ | with_reducible exact ru_I | with_reducible refine' ev_un ?_ ?_ | with_reducible exact rv_I0 | with_reducible exact rv_isN | with_reducible exact rv_notN | with_reducible refine' rv_I ?_ | with_reducible refine' rv_eq ?_ | with_reducible refine' rv_ne ?_ | with_reducible refine' ev_op ?_ ?_ ?_ | with_reducible refine' ev_chain2 ?_ ?_ ?_ ?_ ?_ | with_reducible refine' et_B ?_ | with_reducible refine' et_test ?_ | with_reducible refine' et_and2 ?_ ?_ | with_reducible refine' et_or2 ?_ ?_ | with_reducible refine' et_not ?_ | with_reducible refine' ev_call ?_ ?_ | with_reducible refine' ev_callS ?_ ?_ | with_reducible refine' ev_cb ?_ ?_ | with_reducible exact isi_bool (by assumption) | with_reducible exact isi_int (by assumption) | with_reducible exact isi_list (by assumption) | with_reducible exact rc_len (by assumption) | with_reducible exact rc_sum (by assumption) | with_reducible exact rc_abs | with_reducible exact isi_listL (by assumption) | with_reducible exact isi_intI | with_reducible exact isi_boolI | with_reducible exact rc_lenT (by assumption) | with_reducible exact isi_tup (by assumption) | with_reducible exact rv_eqL (by assumption) (by assumption) | with_reducible exact rv_neL (by assumption) (by assumption) | with_reducible exact rv_neT (by assumption) (by assumption) | with_reducible exact rv_ixL (by assumption) (by assumption) | with_reducible exact rv_ixT (by assumption) (by assumption) | with_reducible refine' ev_din ?_ ?_ (by assumption) | with_reducible refine' ev_dnotin ?_ ?_ (by assumption) | with_reducible refine' ev_dget ?_ ?_ (by assumption) (by assumption) | ((with_reducible show SpV _ _ _ _); assumption) | ((with_reducible show RV _ _ _ _ _); assumption) | ((with_reducible show RC _ _ _ _); assumption) | ((with_reducible show CDiv _ _); exact ⟨by omega, by omega⟩) | ((with_reducible show CMul _ _); first | exact .inl ⟨by omega, by omega⟩ | exact .inr ⟨by omega, by omega⟩) | ((with_reducible show CPow _ _); exact ⟨by omega, by omega, by first | decide | assumption | omega⟩) | ((with_reducible show (0 : Int) < _); omega) | ((with_reducible show (0 : Int) ≤ _); omega) | ((with_reducible show scal _ _ = true); rfl)))) (fun h => ?_) (fun _ H1 e1 => ?_)
      · have := of_decide_eq_true h
        injection this with this
        omega
      refine q_when (b := false) ?_ (fun h => by cases h) (fun _ H2 e2 => ?_)
      · apply et_is
        · (repeat' (first | with_reducible exact ev_c | ((with_reducible show Ev (tVar _) _ _ _); exact ev_var rfl) | with_reducible exact ea_nil | with_reducible exact eo_none | with_reducible refine' ea_cons ?_ ?_ | with_reducible refine' eo_some ?_ | with_reducible refine' ev_and2 ?_ ?_ | with_reducible refine' ev_or2 ?_ ?_ | with_reducible refine' ev_notV ?_ | with_reducible exact ru_I | with_reducible refine' ev_un ?_ ?_ | with_reducible exact rv_I0 | with_reducible exact rv_isN | with_reducible exact rv_notN | with_reducible refine' rv_I ?_ | with_reducible refine' rv_eq ?_ | with_reducible refine' rv_ne ?_ | with_reducible refine' ev_op ?_ ?_ ?_ | with_reducible refine' ev_chain2 ?_ ?_ ?_ ?_ ?_ | with_reducible refine' et_B ?_ | with_reducible refine' et_test ?_ | with_reducible refine' et_and2 ?_ ?_ | with_reducible refine' et_or2 ?_ ?_ | with_reducible refine' et_not ?_ | with_reducible refine' ev_call ?_ ?_ | with_reducible refine' ev_callS ?_ ?_ | with_reducible refine' ev_cb ?_ ?_ | with_reducible exact isi_bool (by assumption) | with_reducible exact isi_int (by assumption) | with_reducible exact isi_list (by assumption) | with_reducible exact rc_len (by assumption) | with_reducible exact rc_sum (by assumption) | with_reducible exact rc_abs | with_reducible exact isi_listL (by assumption) | with_reducible exact isi_intI | with_reducible exact isi_boolI | with_reducible exact rc_lenT (by assumption) | with_reducible exact isi_tup (by assumption) | with_reducible exact rv_eqL (by assumption) (by assumption) | with_reducible exact rv_neL (by assumption) (by assumption) | with_reducible exact rv_neT (by assumption) (by assumption) | with_reducible exact rv_ixL (by assumption) (by assumption) | with_reducible exact rv_ixT (by assumption) (by assumption) | with_reducible refine' ev_din ?_ ?_ (by assumption) | with_reducible refine' ev_dnotin ?_ ?_ (by assumption) | with_reducible refine' ev_dget ?_ ?_ (by assumption) (by assumption) | ((with_reducible show SpV _ _ _ _); assumption) | ((with_reducible show RV _ _ _ _ _); assumption) | ((with_reducible show RC _ _ _ _); assumption) | ((with_reducible show CDiv _ _); exact ⟨by omega, by omega⟩) | ((with_reducible show CMul _ _); first | exact .inl ⟨by omega, by omega⟩ | exact .inr ⟨by omega, by omega⟩) | ((with_reducible show CPow _ _); exact ⟨by omega, by omega, by first | decide | assumption | omega⟩) | ((with_reducible show (0 : Int) < _); omega) | ((with_reducible show (0 : Int) ≤ _); omega) | ((with_reducible show scal _ _ = true); rfl)))
        · rw [dec_int, dec_int, bitAnd_m1, bitAnd_m1, Int.toNat_natCast, div_pow_nat, h3, show (x : Int) % 2 = 1 by omega]
          rfl
      · refine s_ret (v := .int ((x / 2 + 2 ^ (t - 1) : Nat) : Int)) (ev_is (v := .int ((x : Int) / 2 ^ (1 : Int).toNat + 1 * 2 ^ ((t : Int) - 1).toNat)) (by (repeat' (first | with_reducible exact ev_c | ((with_reducible show Ev (tVar _) _ _ _); exact ev_var rfl) | with_reducible exact ea_nil | with_reducible exact eo_none | with_reducible refine' ea_cons ?_ ?_ | with_reducible refine' eo_some ?_ | with_reducible refine' ev_and2 ?_ ?_ | with_reducible refine' ev_or2 ?_ ?_ | with_reducible refine' ev_notV ?_ | with_reducible exact ru_I | with_reducible refine' ev_un ?_ ?_ | with_reducible exact rv_I0 | with_reducible exact rv_isN | with_reducible exact rv_notN | with_reducible refine' rv_I ?_ | with_reducible refine' rv_eq ?_ | with_reducible refine' rv_ne ?_ | with_reducible refine' ev_op ?_ ?_ ?_ | with_reducible refine' ev_chain2 ?_ ?_ ?_ ?_ ?_ | with_reducible refine' et_B ?_ | with_reducible refine' et_test ?_ | with_reducible refine' et_and2 ?_ ?_ | with_reducible refine' et_or2 ?_ ?_ | with_reducible refine' et_not ?_ | with_reducible refine' ev_call ?_ ?_ | with_reducible refine' ev_callS ?_ ?_ | with_reducible refine' ev_cb ?_ ?_ | with_reducible exact isi_bool (by assumption) | with_reducible exact isi_int (by assumption) | with_reducible exact isi_list (by assumption) | with_reducible exact rc_len (by assumption) | with_reducible exact rc_sum (by assumption) | with_reducible exact rc_abs | with_reducible exact isi_listL (by assumption) | with_reducible exact isi_intI | with_reducible exact isi_boolI | with_reducible exact rc_lenT (by assumption) | with_reducible exact isi_tup (by assumption) | with_reducible exact rv_eqL (by assumption) (by assumption) | with_reducible exact rv_neL (by assumption) (by assumption) | with_reducible exact rv_neT (by assumption) (by assumption) | with_reducible exact rv_ixL (by assumption) (by assumption) | with_reducible exact rv_ixT (by assumption) (by assumption) | with_reducible refine' ev_din ?_ ?_ (by assumption) | with_reducible refine' ev_dnotin ?_ ?_ (by assumption) | with_reducible refine' ev_dget ?_ ?_ (by assumption) (by assumption) | ((with_reducible show SpV _ _ _ _); assumption) | ((with_reducible show RV _ _ _ _ _); assumption) | ((with_reducible show RC _ _ _ _); assumption) | ((with_reducible show CDiv _ _); exact ⟨by omega, by omega⟩) | ((with_reducible show CMul _ _); first | exact .inl ⟨by omega, by omega⟩ | exact .inr ⟨by omega, by omega⟩) | ((with_reducible show CPow _ _); exact ⟨by omega, by omega, by first | decide | assumption | omega⟩) | ((with_reducible show (0 : Int) < _); omega) | ((with_reducible show (0 : Int) ≤ _); omega) | ((with_reducible show scal _ _ = true); rfl)))) ?_) fun H3 e3 => q H3 ((e1.trans e2).trans e3)
        rw [hb, Int.one_mul, show ((t : Int) - 1).toNat = t - 1 by omega]
        refine congrArg V.int ?_
        rw [Int.natCast_add, Int.natCast_pow]
        rfl

def sp_bits60 : Sp := fun vs H Q E => ∃ (s : Nat), vs = [.int (s : Int)] ∧ s < 1024 ∧ RetV (.int (popN s : Int)) H Q
theorem pop60 {s : Nat} (hs : s < 1024) : ((List.range 60).filter fun k => decide (s / 2 ^ k % 2 = 1)).length = popN s := by
  unfold popN spotsN
  rw [show (60 : Nat) = 10 + 50 from rfl, List.range_add, List.filter_append, List.length_append]
  have e : ((List.range 50).map fun x => 10 + x).filter (fun k => decide (s / 2 ^ k % 2 = 1)) = [] := by
    rw [List.filter_eq_nil_iff]
    intro k hk
    obtain ⟨j, _, rfl⟩ := List.mem_map.mp hk
    have : s / 2 ^ (10 + j) = 0 := Nat.div_eq_of_lt (Nat.lt_of_lt_of_le hs (by
      have := Nat.pow_le_pow_right (show 0 < 2 by decide) (show 10 ≤ 10 + j by omega)
      exact this))
    rw [this]
    simp
  rw [e]
  rfl
theorem sc__law_bits : FnScope ["_law_state", "_law_k"] ["_law_state"] (defScope s__law_bits) := ⟨rfl, rfl, rfl, by decide +kernel, rfl, by decide +kernel, by decide +kernel⟩
theorem ok__law_bits {P : Program} {w : World} {K : PySem.W.Frag} {mg : Str → Option Value} {base : Heap} (T : TXT K mg) : OK P w K mg base "_law_bits" ["_law_state"] 1 (sp_bits60) := by
  obtain ⟨fd, F⟩ := T.def_ 13
  refine ⟨_, fd, T.glo 13, F.kp, F.bindsN (fun _ _ _ _ _ _ us hl => match us, hl with | [_], _ => rfl), F.ok sc__law_bits (fun vs H Q E h => ?_) (fun cdv A outer s H vs Q E hr h => ?_), F.bindsA (fun _ _ _ _ _ _ us hl => match us, hl with | [_], _ => rfl)⟩
  · first | (obtain ⟨rfl, _⟩ := h; rfl) | (obtain ⟨_, rfl, _⟩ := h; rfl) | (obtain ⟨_, _, rfl, _⟩ := h; rfl) | (obtain ⟨_, _, _, rfl, _⟩ := h; rfl) | (obtain ⟨_, _, _, _, rfl, _⟩ := h; rfl) | (obtain ⟨_, _, _, _, _, rfl, _⟩ := h; rfl) | (obtain ⟨_, _, _, _, _, _, rfl, _⟩ := h; rfl) | (obtain ⟨_, _, _, _, _, _, _, rfl, _⟩ := h; rfl) | (obtain ⟨_, _, _, _, _, _, _, _, rfl, _⟩ := h; rfl)
  · replace F : FunD K "_law_bits" "_law_bits" (defArgs s__law_bits) (defBody s__law_bits) (defScope s__law_bits) [] [] (He.ga K "_law_bits") fd := F
    refine ⟨_, (pss_one (ps_ret (pe_callB (id := "len") (k_len K) (by rfl) (T.free 22) (by decide +kernel) (pa_cons (pe_lc (own := [("_law_k", 1)]) (g := gName 1) rfl sc__law_bits.nd (pi_range1 (by rfl) (T.free 24) (pa_cons pe_int pa_nil)) (blkOk_by (N := ["_law_state", "_law_k"]) (sc := defScope s__law_bits) (by decide +kernel)) (fun _ _ _ _ _ => pg_name (i := 1) sc__law_bits.nd rfl (Or.inl rfl)) (fun _ _ _ _ _ => pts_one (pt_cmpR op_eq (pe_op op_and (pe_op op_shr (pv 0) (pv 1)) pe_int) pe_int (nomark _))) (fun _ _ _ _ _ => (pv 1))) pa_nil)))), ?_⟩
    obtain ⟨s, rfl, hs, q⟩ := h
    dsimp only [cxOf, L2.start, List.map_cons, List.map_nil, List.length_cons, List.length_nil, Nat.reduceAdd, Nat.reduceSub, List.replicate_succ, List.replicate_zero, List.cons_append, List.nil_append, Nat.zero_add, List.reduceReplicate, List.map]
    have z := el_filtR (te := tVar 1) (t := tTest (tOp rEq (tOp (rI0 fun i j => .int (Builtin.bitAnd i j)) (tOp (rI (fun _ j => 0 ≤ j) fun i j => .int (i / 2 ^ j.toNat)) (tVar 0) (tVar 1)) (tC (.int 1))) (tC (.int 1)))) (ta := tCons (tC (.int 60)) tNil) (j := 1) (vs := [1]) (σ := [some (V.int (s : Int)), none]) (H := H) (n := 60) (fun k => decide (s / 2 ^ k % 2 = 1)) (fun k => .int (k : Int)) (by (repeat' (first | with_reducible exact ev_c | ((with_reducible show Ev (tVar _) _ _ _); exact ev_var rfl) | with_reducible exact ea_nil | with_reducible exact eo_none | with_reducible refine' ea_cons ?_ ?_ | with_reducible refine' eo_some ?_ | with_reducible refine' ev_and2 ?_ ?_ | with_reducible refine' ev_or2 ?_ ?_ | with_reducible refine' ev_notV ?_ | with_reducible exact ru_I | with_reducible refine' ev_un ?_ ?_ | with_reducible exact rv_I0 | with_reducible exact rv_isN | with_reducible exact rv_notN | with_reducible refine' rv_I ?_ | with_reducible refine' rv_eq ?_ | with_reducible refine' rv_ne ?_ | with_reducible refine' ev_op ?_ ?_ ?_ | with_reducible refine' ev_chain2 ?_ ?_ ?_ ?_ ?_ | with_reducible refine' et_B ?_ | with_reducible refine' et_test ?_ | with_reducible refine' et_and2 ?_ ?_ | with_reducible refine' et_or2 ?_ ?_ | with_reducible refine' et_not ?_ | with_reducible refine' ev_call ?_ ?_ | with_reducible refine' ev_callS ?_ ?_ | with_reducible refine' ev_cb ?_ ?_ | with_reducible exact isi_bool (by assumption) | with_reducible exact isi_int (by assumption) | with_reducible exact isi_list (by assumption) | with_reducible exact rc_len (by assumption) | with_reducible exact rc_sum (by assumption) | with_reducible exact rc_abs | with_reducible exact isi_listL (by assumption) | with_reducible exact isi_intI | with_reducible exact isi_boolI | with_reducible exact rc_lenT (by assumption) | with_reducible exact isi_tup (by assumption) | with_reducible exact rv_eqL (by assumption) (by assumption) | with_reducible exact rv_neL (by assumption) (by assumption) | with_reducible exact rv_neT (by assumption) (by assumption) | with_reducible exact rv_ixL (by assumption) (by assumption) | with_reducible exact rv_ixT (by assumption) (by assumption) | with_reducible refine' ev_din ?_ ?_ (by assumption) | with_reducible refine' ev_dnotin ?_ ?_ (by assumption) | with_reducible refine' ev_dget ?_ ?_ (by assumption) (by assumption) | ((with_reducible show SpV _ _ _ _); assumption) | ((with_reducible show RV _ _ _ _ _); assumption) | ((with_reducible show RC _ _ _ _); assumption) | ((with_reducible show CDiv _ _); exact ⟨by omega, by omega⟩) | ((with_reducible show CMul _ _); first | exact .inl ⟨by omega, by omega⟩ | exact .inr ⟨by omega, by omega⟩) | ((with_reducible show CPow _ _); exact ⟨by omega, by omega, by first | decide | assumption | omega⟩) | ((with_reducible show (0 : Int) < _); omega) | ((with_reducible show (0 : Int) ≤ _); omega) | ((with_reducible show scal _ _ = true); rfl)))) (by omega) (fun _ => rfl) (fun i H1 e hi => by
      apply et_is
      · (repeat' (first | with_reducible exact ev_c | ((with_reducible show Ev (tVar _) _ _ _); exact ev_var rfl) | with_reducible exact ea_nil | with_reducible exact eo_none | with_reducible refine' ea_cons ?_ ?_ | with_reducible refine' eo_some ?_ | with_reducible refine' ev_and2 ?_ ?_ | with_reducible refine' ev_or2 ?_ ?_ | with_reducible refine' ev_notV ?_ | with_reducible exact ru_I | with_reducible refine' ev_un ?_ ?_ | with_reducible exact rv_I0 | with_reducible exact rv_isN | with_reducible exact rv_notN | with_reducible refine' rv_I ?_ | with_reducible refine' rv_eq ?_ | with_reducible refine' rv_ne ?_ | with_reducible refine' ev_op ?_ ?_ ?_ | with_reducible refine' ev_chain2 ?_ ?_ ?_ ?_ ?_ | with_reducible refine' et_B ?_ | with_reducible refine' et_test ?_ | with_reducible refine' et_and2 ?_ ?_ | with_reducible refine' et_or2 ?_ ?_ | with_reducible refine' et_not ?_ | with_reducible refine' ev_call ?_ ?_ | with_reducible refine' ev_callS ?_ ?_ | with_reducible refine' ev_cb ?_ ?_ | with_reducible exact isi_bool (by assumption) | with_reducible exact isi_int (by assumption) | with_reducible exact isi_list (by assumption) | with_reducible exact rc_len (by assumption) | with_reducible exact rc_sum (by assumption) | with_reducible exact rc_abs | with_reducible exact isi_listL (by assumption) | with_reducible exact isi_intI | with_reducible exact isi_boolI | with_reducible exact rc_lenT (by assumption) | with_reducible exact isi_tup (by assumption) | with_reducible exact rv_eqL (by assumption) (by assumption) | with_reducible exact rv_neL (by assumption) (by assumption) | with_reducible exact rv_neT (by assumption) (by assumption) | with_reducible exact rv_ixL (by assumption) (by assumption) | with_reducible exact rv_ixT (by assumption) (by assumption) | with_reducible refine' ev_din ?_ ?_ (by assumption) | with_reducible refine' ev_dnotin ?_ ?_ (by assumption) | with_reducible refine' ev_dget ?_ ?_ (by assumption) (by assumption) | ((with_reducible show SpV _ _ _ _); assumption) | ((with_reducible show RV _ _ _ _ _); assumption) | ((with_reducible show RC _ _ _ _); assumption) | ((with_reducible show CDiv _ _); exact ⟨by omega, by omega⟩) | ((with_reducible show CMul _ _); first | exact .inl ⟨by omega, by omega⟩ | exact .inr ⟨by omega, by omega⟩) | ((with_reducible show CPow _ _); exact ⟨by omega, by omega, by first | decide | assumption | omega⟩) | ((with_reducible show (0 : Int) < _); omega) | ((with_reducible show (0 : Int) ≤ _); omega) | ((with_reducible show scal _ _ = true); rfl)))
      · rw [dec_int, bitAnd_m1, Int.toNat_natCast, div_pow_nat, Bool.eq_iff_iff, beq_iff_eq, decide_eq_true_iff]
        generalize s / 2 ^ i % 2 = w
        omega) (fun i H1 e hi _ => by (repeat' (first | with_reducible exact ev_c | ((with_reducible show Ev (tVar _) _ _ _); exact ev_var rfl) | with_reducible exact ea_nil | with_reducible exact eo_none | with_reducible refine' ea_cons ?_ ?_ | with_reducible refine' eo_some ?_ | with_reducible refine' ev_and2 ?_ ?_ | with_reducible refine' ev_or2 ?_ ?_ | with_reducible refine' ev_notV ?_ | with_reducible exact ru_I | with_reducible refine' ev_un ?_ ?_ | with_reducible exact rv_I0 | with_reducible exact rv_isN | with_reducible exact rv_notN | with_reducible refine' rv_I ?_ | with_reducible refine' rv_eq ?_ | with_reducible refine' rv_ne ?_ | with_reducible refine' ev_op ?_ ?_ ?_ | with_reducible refine' ev_chain2 ?_ ?_ ?_ ?_ ?_ | with_reducible refine' et_B ?_ | with_reducible refine' et_test ?_ | with_reducible refine' et_and2 ?_ ?_ | with_reducible refine' et_or2 ?_ ?_ | with_reducible refine' et_not ?_ | with_reducible refine' ev_call ?_ ?_ | with_reducible refine' ev_callS ?_ ?_ | with_reducible refine' ev_cb ?_ ?_ | with_reducible exact isi_bool (by assumption) | with_reducible exact isi_int (by assumption) | with_reducible exact isi_list (by assumption) | with_reducible exact rc_len (by assumption) | with_reducible exact rc_sum (by assumption) | with_reducible exact rc_abs | with_reducible exact isi_listL (by assumption) | with_reducible exact isi_intI | with_reducible exact isi_boolI | with_reducible exact rc_lenT (by assumption) | with_reducible exact isi_tup (by assumption) | with_reducible exact rv_eqL (by assumption) (by assumption) | with_reducible exact rv_neL (by assumption) (by assumption) | with_reducible exact rv_neT (by assumption) (by assumption) | with_reducible exact rv_ixL (by assumption) (by assumption) | with_reducible exact rv_ixT (by assumption) (by assumption) | with_reducible refine' ev_din ?_ ?_ (by assumption) | with_reducible refine' ev_dnotin ?_ ?_ (by assumption) | with_reducible refine' ev_dget ?_ ?_ (by assumption) (by assumption) | ((with_reducible show SpV _ _ _ _); assumption) | ((with_reducible show RV _ _ _ _ _); assumption) | ((with_reducible show RC _ _ _ _); assumption) | ((with_reducible show CDiv _ _); exact ⟨by omega, by omega⟩) | ((with_reducible show CMul _ _); first | exact .inl ⟨by omega, by omega⟩ | exact .inr ⟨by omega, by omega⟩) | ((with_reducible show CPow _ _); exact ⟨by omega, by omega, by first | decide | assumption | omega⟩) | ((with_reducible show (0 : Int) < _); omega) | ((with_reducible show (0 : Int) ≤ _); omega) | ((with_reducible show scal _ _ = true); rfl))))
    refine s_ret (v := .int (popN s : Int)) (ev_is (ev_lenN z) ?_) q
    rw [List.length_map]
    exact congrArg V.int (congrArg Int.ofNat (pop60 hs))

theorem mod_nat (c : Int) {n : Nat} (hn : 1 ≤ n) : ∃ m : Nat, c % (n : Int) = (m : Int) ∧ m < n := by
  have h1 := Int.emod_nonneg c (show (n : Int) ≠ 0 by omega)
  have h2 := Int.emod_lt_of_pos c (show (0 : Int) < (n : Int) by omega)
  exact ⟨(c % (n : Int)).toNat, by omega, by omega⟩
def sp_moved : Sp := fun vs H Q E => ∃ (s m : Nat) (c : Int), vs = [.int (s : Int), .int (m : Int), .int c] ∧ 1 ≤ m ∧ m ≤ 10 ∧ s < 2 ^ m ∧ ∀ r : Nat, r < 2 ^ m → RetV (.int (r : Int)) H Q
theorem sc__law_moved : FnScope ["_law_state", "_law_most", "_law_cell", "_law_k", "_law_i", "_law_j"] ["_law_state", "_law_most", "_law_cell"] (defScope s__law_moved) := ⟨rfl, rfl, rfl, by decide +kernel, rfl, by decide +kernel, by decide +kernel⟩
theorem ok__law_moved {P : Program} {w : World} {K : PySem.W.Frag} {mg : Str → Option Value} {base : Heap} (T : TXT K mg) : OK P w K mg base "_law_moved" ["_law_state", "_law_most", "_law_cell"] 2 (sp_moved) := by
  have O__law_mixed := ok__law_mixed (P := P) (w := w) (base := base) T
  obtain ⟨fd, F⟩ := T.def_ 14
  refine ⟨_, fd, T.glo 14, F.kp, F.bindsN (fun _ _ _ _ _ _ us hl => match us, hl with | [_, _, _], _ => rfl), F.ok sc__law_moved (fun vs H Q E h => ?_) (fun cdv A outer s H vs Q E hr h => ?_), F.bindsA (fun _ _ _ _ _ _ us hl => match us, hl with | [_, _, _], _ => rfl)⟩
  · first | (obtain ⟨rfl, _⟩ := h; rfl) | (obtain ⟨_, rfl, _⟩ := h; rfl) | (obtain ⟨_, _, rfl, _⟩ := h; rfl) | (obtain ⟨_, _, _, rfl, _⟩ := h; rfl) | (obtain ⟨_, _, _, _, rfl, _⟩ := h; rfl) | (obtain ⟨_, _, _, _, _, rfl, _⟩ := h; rfl) | (obtain ⟨_, _, _, _, _, _, rfl, _⟩ := h; rfl) | (obtain ⟨_, _, _, _, _, _, _, rfl, _⟩ := h; rfl) | (obtain ⟨_, _, _, _, _, _, _, _, rfl, _⟩ := h; rfl)
  · replace F : FunD K "_law_moved" "_law_moved" (defArgs s__law_moved) (defBody s__law_moved) (defScope s__law_moved) [] [] (He.ga K "_law_moved") fd := F
    refine ⟨_, (pss_cons (ps_for (passes_of rfl) rfl (pi_range1 (by rfl) (T.free 24) (pa_cons (pv 1) pa_nil)) (pg_name (i := 3) sc__law_moved.nd rfl (Or.inl rfl))
        (pss_cons (ps_set (i := 4) sc__law_moved.nd rfl (Or.inl rfl) (pe_op op_mod (pe_own O__law_mixed (hr.mono (by decide)) (by rfl) (passes_call (takes_of rfl rfl rfl rfl) (fun _ _ _ _ h => h)) (pa_cons (pv 2) (pa_cons (pe_op op_mul pe_int (pv 3)) pa_nil))) (pv 1)))
      (pss_cons (ps_set (i := 5) sc__law_moved.nd rfl (Or.inl rfl) (pe_op op_mod (pe_own O__law_mixed (hr.mono (by decide)) (by rfl) (passes_call (takes_of rfl rfl rfl rfl) (fun _ _ _ _ h => h)) (pa_cons (pv 2) (pa_cons (pe_op op_add (pe_op op_mul pe_int (pv 3)) pe_int) pa_nil))) (pv 1)))
      (pss_one (ps_if (pt_cmpR op_ne (pe_op op_and (pe_op op_shr (pv 0) (pv 4)) pe_int) (pe_op op_and (pe_op op_shr (pv 0) (pv 5)) pe_int) (nomark _))
        (pss_one (ps_set (i := 0) sc__law_moved.nd rfl (Or.inl rfl) (pe_op op_xor (pe_op op_xor (pv 0) (pe_op op_shl pe_int (pv 4))) (pe_op op_shl pe_int (pv 5)))))
        pss_nil)))))
      (pss_one (ps_ret (pv 0)))), ?_⟩
    obtain ⟨s, m, c, rfl, h1, h10, hs, q⟩ := h
    dsimp only [cxOf, L2.start, List.map_cons, List.map_nil, List.length_cons, List.length_nil, Nat.reduceAdd, Nat.reduceSub, List.replicate_succ, List.replicate_zero, List.cons_append, List.nil_append, Nat.zero_add, List.reduceReplicate, List.map]
    have p10 := pow_le10 h10
    refine q_forR1 (n := (m : Int)) (by (repeat' (first | with_reducible exact ev_c | ((with_reducible show Ev (tVar _) _ _ _); exact ev_var rfl) | with_reducible exact ea_nil | with_reducible exact eo_none | with_reducible refine' ea_cons ?_ ?_ | with_reducible refine' eo_some ?_ | with_reducible refine' ev_and2 ?_ ?_ | with_reducible refine' ev_or2 ?_ ?_ | with_reducible refine' ev_notV ?_ | with_reducible exact ru_I | with_reducible refine' ev_un ?_ ?_ | with_reducible exact rv_I0 | with_reducible exact rv_isN | with_reducible exact rv_notN | with_reducible refine' rv_I ?_ | with_reducible refine' rv_eq ?_ | with_reducible refine' rv_ne ?_ | with_reducible refine' ev_op ?_ ?_ ?_ | with_reducible refine' ev_chain2 ?_ ?_ ?_ ?_ ?_ | with_reducible refine' et_B ?_ | with_reducible refine' et_test ?_ | with_reducible refine' et_and2 ?_ ?_ | with_reducible refine' et_or2 ?_ ?_ | with_reducible refine' et_not ?_ | with_reducible refine' ev_call ?_ ?_ | with_reducible refine' ev_callS ?_ ?_ | with_reducible refine' ev_cb ?_ ?_ | with_reducible exact isi_bool (by assumption) | with_reducible exact isi_int (by assumption) | with_reducible exact isi_list (by assumption) | with_reducible exact rc_len (by assumption) | with_reducible exact rc_sum (by assumption) | with_reducible exact rc_abs | with_reducible exact isi_listL (by assumption) | with_reducible exact isi_intI | with_reducible exact isi_boolI | with_reducible exact rc_lenT (by assumption) | with_reducible exact isi_tup (by assumption) | with_reducible exact rv_eqL (by assumption) (by assumption) | with_reducible exact rv_neL (by assumption) (by assumption) | with_reducible exact rv_neT (by assumption) (by assumption) | with_reducible exact rv_ixL (by assumption) (by assumption) | with_reducible exact rv_ixT (by assumption) (by assumption) | with_reducible refine' ev_din ?_ ?_ (by assumption) | with_reducible refine' ev_dnotin ?_ ?_ (by assumption) | with_reducible refine' ev_dget ?_ ?_ (by assumption) (by assumption) | ((with_reducible show SpV _ _ _ _); assumption) | ((with_reducible show RV _ _ _ _ _); assumption) | ((with_reducible show RC _ _ _ _); assumption) | ((with_reducible show CDiv _ _); exact ⟨by omega, by omega⟩) | ((with_reducible show CMul _ _); first | exact .inl ⟨by omega, by omega⟩ | exact .inr ⟨by omega, by omega⟩) | ((with_reducible show CPow _ _); exact ⟨by omega, by omega, by first | decide | assumption | omega⟩) | ((with_reducible show (0 : Int) < _); omega) | ((with_reducible show (0 : Int) ≤ _); omega) | ((with_reducible show scal _ _ = true); rfl)))) (by omega) (fun k σ' H' => ∃ (x : Nat) (y3 y4 y5 : Option V), σ' = [some (V.int (x : Int)), some (V.int (m : Int)), some (V.int c), y3, y4, y5] ∧ Ex H H' ∧ x < 2 ^ m) (fun H1 e1 => ⟨s, _, _, _, rfl, e1, hs⟩) ?_ ?_
    · rintro k σ' H' hk ⟨x, y3, y4, y5, rfl, e1, hx⟩
      have s1 := sv_mixed (H := H') (c := c) (k := 2 * (k : Int))
      obtain ⟨i, hi, him⟩ := mod_nat (mixed c (2 * (k : Int))) h1
      refine q_asg (v := .int (i : Int)) (ev_is (v := .int (mixed c (2 * (k : Int)) % (m : Int))) (by (repeat' (first | with_reducible exact ev_c | ((with_reducible show Ev (tVar _) _ _ _); exact ev_var rfl) | with_reducible exact ea_nil | with_reducible exact eo_none | with_reducible refine' ea_cons ?_ ?_ | with_reducible refine' eo_some ?_ | with_reducible refine' ev_and2 ?_ ?_ | with_reducible refine' ev_or2 ?_ ?_ | with_reducible refine' ev_notV ?_ | with_reducible exact ru_I | with_reducible refine' ev_un ?_ ?_ | with_reducible exact rv_I0 | with_reducible exact rv_isN | with_reducible exact rv_notN | with_reducible refine' rv_I ?_ | with_reducible refine' rv_eq ?_ | with_reducible refine' rv_ne ?_ | with_reducible refine' ev_op ?_ ?_ ?_ | with_reducible refine' ev_chain2 ?_ ?_ ?_ ?_ ?_ | with_reducible refine' et_B ?_ | with_reducible refine' et_test ?_ | with_reducible refine' et_and2 ?_ ?_ | with_reducible refine' et_or2 ?_ ?_ | with_reducible refine' et_not ?_ | with_reducible refine' ev_call ?_ ?_ | with_reducible refine' ev_callS ?_ ?_ | with_reducible refine' ev_cb ?_ ?_ | with_reducible exact isi_bool (by assumption) | with_reducible exact isi_int (by assumption) | with_reducible exact isi_list (by assumption) | with_reducible exact rc_len (by assumption) | with_reducible exact rc_sum (by assumption) | with_reducible exact rc_abs | with_reducible exact isi_listL (by assumption) | with_reducible exact isi_intI | with_reducible exact isi_boolI | with_reducible exact rc_lenT (by assumption) | with_reducible exact isi_tup (by assumption) | with_reducible exact rv_eqL (by assumption) (by assumption) | with_reducible exact rv_neL (by assumption) (by assumption) | with_reducible exact rv_neT (by assumption) (by assumption) | with_reducible exact rv_ixL (by assumption) (by assumption) | with_reducible exact rv_ixT (by assumption) (by assumption) | with_reducible refine' ev_din ?_ ?_ (by assumption) | with_reducible refine' ev_dnotin ?_ ?_ (by assumption) | with_reducible refine' ev_dget ?_ ?_ (by assumption) (by assumption) | ((with_reducible show SpV _ _ _ _); assumption) | ((with_reducible show RV _ _ _ _ _); assumption) | ((with_reducible show RC _ _ _ _); assumption) | ((with_reducible show CDiv _ _); exact ⟨by omega, by omega⟩) | ((with_reducible show CMul _ _); first | exact .inl ⟨by omega, by omega⟩ | exact .inr ⟨by omega, by omega⟩) | ((with_reducible show CPow _ _); exact ⟨by omega, by omega, by first | decide | assumption | omega⟩) | ((with_reducible show (0 : Int) < _); omega) | ((with_reducible show (0 : Int) ≤ _); omega) | ((with_reducible show scal _ _ = true); rfl)))) (congrArg V.int hi)) fun H2 e2 => ?_
      have s2 := sv_mixed (H := H2) (c := c) (k := 2 * (k : Int) + 1)
      obtain ⟨j, hj, hjm⟩ := mod_nat (mixed c (2 * (k : Int) + 1)) h1
      refine q_asg (v := .int (j : Int)) (ev_is (v := .int (mixed c (2 * (k : Int) + 1) % (m : Int))) (by (repeat' (first | with_reducible exact ev_c | ((with_reducible show Ev (tVar _) _ _ _); exact ev_var rfl) | with_reducible exact ea_nil | with_reducible exact eo_none | with_reducible refine' ea_cons ?_ ?_ | with_reducible refine' eo_some ?_ | with_reducible refine' ev_and2 ?_ ?_ | with_reducible refine' ev_or2 ?_ ?_ | with_reducible refine' ev_notV ?_ | with_reducible exact ru_I | with_reducible refine' ev_un ?_ ?_ | with_reducible exact rv_I0 | with_reducible exact rv_isN | with_reducible exact rv_notN | with_reducible refine' rv_I ?_ | with_reducible refine' rv_eq ?_ | with_reducible refine' rv_ne ?_ | with_reducible refine' ev_op ?_ ?_ ?_ | with_reducible refine' ev_chain2 ?_ ?_ ?_ ?_ ?_ | with_reducible refine' et_B ?_ | with_reducible refine' et_test ?_ | with_reducible refine' et_and2 ?_ ?_ | with_reducible refine' et_or2 ?_ ?_ | with_reducible refine' et_not ?_ | with_reducible refine' ev_call ?_ ?_ | with_reducible refine' ev_callS ?_ ?_ | with_reducible refine' ev_cb ?_ ?_ | with_reducible exact isi_bool (by assumption) | with_reducible exact isi_int (by assumption) | with_reducible exact isi_list (by assumption) | with_reducible exact rc_len (by assumption) | with_reducible exact rc_sum (by assumption) | with_reducible exact rc_abs | with_reducible exact isi_listL (by assumption) | with_reducible exact isi_intI | with_reducible exact isi_boolI | with_reducible exact rc_lenT (by assumption) | with_reducible exact isi_tup (by assumption) | with_reducible exact rv_eqL (by assumption) (by assumption) | with_reducible exact rv_neL (by assumption) (by assumption) | with_reducible exact rv_neT (by assumption) (by assumption) | with_reducible exact rv_ixL (by assumption) (by assumption) | with_reducible exact rv_ixT (by assumption) (by assumption) | with_reducible refine' ev_din ?_ ?_ (by assumption) | with_reducible refine' ev_dnotin ?_ ?_ (by assumption) | with_reducible refine' ev_dget ?_ ?_ (by assumption) (by assumption) | ((with_reducible show SpV _ _ _ _); assumption) | ((with_reducible show RV _ _ _ _ _); assumption) | ((with_reducible show RC _ _ _ _); assumption) | ((with_reducible show CDiv _ _); exact ⟨by omega, by omega⟩) | ((with_reducible show CMul _ _); first | exact .inl ⟨by omega, by omega⟩ | exact .inr ⟨by omega, by omega⟩) | ((with_reducible show CPow _ _); exact ⟨by omega, by omega, by first | decide | assumption | omega⟩) | ((with_reducible show (0 : Int) < _); omega) | ((with_reducible show (0 : Int) ≤ _); omega) | ((with_reducible show scal _ _ = true); rfl)))) (congrArg V.int hj)) fun H3 e3 => ?_
      refine s_when (b := !decide (V.int (Builtin.bitAnd ((x : Int) / 2 ^ (i : Int).toNat) 1) = V.int (Builtin.bitAnd ((x : Int) / 2 ^ (j : Int).toNat) 1))) (by (repeat' (first | with_reducible exact ev_c | ((with_reducible show Ev (tVar _) _ _ _); exact ev_var rfl) | with_reducible exact ea_nil | with_reducible exact eo_none | with_reducible refine' ea_cons ?_ ?_ | with_reducible refine' eo_some ?_ | with_reducible refine' ev_and2 ?_ ?_ | with_reducible refine' ev_or2 ?_ ?_ | with_reducible refine' ev_notV ?_ | with_reducible exact ru_I | with_reducible refine' ev_un ?_ ?_ | with_reducible exact rv_I0 | with_reducible exact rv_isN | with_reducible exact rv_notN | with_reducible refine' rv_I ?_ | with_reducible refine' rv_eq ?_ | with_reducible refine' rv_ne ?_ | with_reducible refine' ev_op ?_ ?_ ?_ | with_reducible refine' ev_chain2 ?_ ?_ ?_ ?_ ?_ | with_reducible refine' et_B ?_ | with_reducible refine' et_test ?_ | with_reducible refine' et_and2 ?_ ?_ | with_reducible refine' et_or2 ?_ ?_ | with_reducible refine' et_not ?_ | with_reducible refine' ev_call ?_ ?_ | with_reducible refine' ev_callS ?_ ?_ | with_reducible refine' ev_cb ?_ ?_ | with_reducible exact isi_bool (by assumption) | with_reducible exact isi_int (by assumption) | with_reducible exact isi_list (by assumption) | with_reducible exact rc_len (by assumption) | with_reducible exact rc_sum (by assumption) | with_reducible exact rc_abs | with_reducible exact isi_listL (by assumption) | with_reducible exact isi_intI | with_reducible exact isi_boolI | with_reducible exact rc_lenT (by assumption) | with_reducible exact isi_tup (by assumption) | with_reducible exact rv_eqL (by assumption) (by assumption) | with_reducible exact rv_neL (by assumption) (by assumption) | with_reducible exact rv_neT (by assumption) (by assumption) | with_reducible exact rv_ixL (by assumption) (by assumption) | with_reducible exact rv_ixT (by assumption) (by assumption) | with_reducible refine' ev_din ?_ ?_ (by assumption) | with_reducible refine' ev_dnotin ?_ ?_ (by assumption) | with_reducible refine' ev_dget ?_ ?_ (by assumption) (by assumption) | ((with_reducible show SpV _ _ _ _); assumption) | ((with_reducible show RV _ _ _ _ _); assumption) | ((with_reducible show RC _ _ _ _); assumption) | ((with_reducible show CDiv _ _); exact ⟨by omega, by omega⟩) | ((with_reducible show CMul _ _); first | exact .inl ⟨by omega, by omega⟩ | exact .inr ⟨by omega, by omega⟩) | ((with_reducible show CPow _ _); exact ⟨by omega, by omega, by first | decide | assumption | omega⟩) | ((with_reducible show (0 : Int) < _); omega) | ((with_reducible show (0 : Int) ≤ _); omega) | ((with_reducible show scal _ _ = true); rfl)))) (fun _ H4 e4 => ?_) (fun _ H4 e4 => ⟨x, _, _, _, rfl, ((e1.trans e2).trans e3).trans e4, hx⟩)
      have lt : ∀ u, u < m → 2 ^ u < 2 ^ m := fun u hu => Nat.pow_lt_pow_right (by decide) hu
      have x1 : Builtin.bitXor (Builtin.bitXor (x : Int) (1 * 2 ^ (i : Int).toNat)) (1 * 2 ^ (j : Int).toNat) = ((x ^^^ 2 ^ i ^^^ 2 ^ j : Nat) : Int) := by
        rw [two_pow_nat, two_pow_nat, Bits.bitXor_pp (Int.natCast_nonneg _) (Int.natCast_nonneg _), Int.toNat_natCast, Int.toNat_natCast, Bits.bitXor_pp (Int.natCast_nonneg _) (Int.natCast_nonneg _), Int.toNat_natCast, Int.toNat_natCast]
      exact s_asg (v := .int ((x ^^^ 2 ^ i ^^^ 2 ^ j : Nat) : Int)) (ev_is (by (repeat' (first | with_reducible exact ev_c | ((with_reducible show Ev (tVar _) _ _ _); exact ev_var rfl) | with_reducible exact ea_nil | with_reducible exact eo_none | with_reducible refine' ea_cons ?_ ?_ | with_reducible refine' eo_some ?_ | with_reducible refine' ev_and2 ?_ ?_ | with_reducible refine' ev_or2 ?_ ?_ | with_reducible refine' ev_notV ?_ | with_reducible exact ru_I | with_reducible refine' ev_un ?_ ?_ | with_reducible exact rv_I0 | with_reducible exact rv_isN | with_reducible exact rv_notN | with_reducible refine' rv_I ?_ | with_reducible refine' rv_eq ?_ | with_reducible refine' rv_ne ?_ | with_reducible refine' ev_op ?_ ?_ ?_ | with_reducible refine' ev_chain2 ?_ ?_ ?_ ?_ ?_ | with_reducible refine' et_B ?_ | with_reducible refine' et_test ?_ | with_reducible refine' et_and2 ?_ ?_ | with_reducible refine' et_or2 ?_ ?_ | with_reducible refine' et_not ?_ | with_reducible refine' ev_call ?_ ?_ | with_reducible refine' ev_callS ?_ ?_ | with_reducible refine' ev_cb ?_ ?_ | with_reducible exact isi_bool (by assumption) | with_reducible exact isi_int (by assumption) | with_reducible exact isi_list (by assumption) | with_reducible exact rc_len (by assumption) | with_reducible exact rc_sum (by assumption) | with_reducible exact rc_abs | with_reducible exact isi_listL (by assumption) | with_reducible exact isi_intI | with_reducible exact isi_boolI | with_reducible exact rc_lenT (by assumption) | with_reducible exact isi_tup (by assumption) | with_reducible exact rv_eqL (by assumption) (by assumption) | with_reducible exact rv_neL (by assumption) (by assumption) | with_reducible exact rv_neT (by assumption) (by assumption) | with_reducible exact rv_ixL (by assumption) (by assumption) | with_reducible exact rv_ixT (by assumption) (by assumption) | with_reducible refine' ev_din ?_ ?_ (by assumption) | with_reducible refine' ev_dnotin ?_ ?_ (by assumption) | with_reducible refine' ev_dget ?_ ?_ (by assumption) (by assumption) | ((with_reducible show SpV _ _ _ _); assumption) | ((with_reducible show RV _ _ _ _ _); assumption) | ((with_reducible show RC _ _ _ _); assumption) | ((with_reducible show CDiv _ _); exact ⟨by omega, by omega⟩) | ((with_reducible show CMul _ _); first | exact .inl ⟨by omega, by omega⟩ | exact .inr ⟨by omega, by omega⟩) | ((with_reducible show CPow _ _); exact ⟨by omega, by omega, by first | decide | assumption | omega⟩) | ((with_reducible show (0 : Int) < _); omega) | ((with_reducible show (0 : Int) ≤ _); omega) | ((with_reducible show scal _ _ = true); rfl)))) (congrArg V.int x1)) fun H5 e5 => ⟨_, _, _, _, rfl, (((e1.trans e2).trans e3).trans e4).trans e5, Nat.xor_lt_two_pow (Nat.xor_lt_two_pow hx (lt i him)) (lt j hjm)⟩
    · rintro σ' H' ⟨x, y3, y4, y5, rfl, e1, hx⟩
      exact s_ret (v := .int (x : Int)) (by (repeat' (first | with_reducible exact ev_c | ((with_reducible show Ev (tVar _) _ _ _); exact ev_var rfl) | with_reducible exact ea_nil | with_reducible exact eo_none | with_reducible refine' ea_cons ?_ ?_ | with_reducible refine' eo_some ?_ | with_reducible refine' ev_and2 ?_ ?_ | with_reducible refine' ev_or2 ?_ ?_ | with_reducible refine' ev_notV ?_ | with_reducible exact ru_I | with_reducible refine' ev_un ?_ ?_ | with_reducible exact rv_I0 | with_reducible exact rv_isN | with_reducible exact rv_notN | with_reducible refine' rv_I ?_ | with_reducible refine' rv_eq ?_ | with_reducible refine' rv_ne ?_ | with_reducible refine' ev_op ?_ ?_ ?_ | with_reducible refine' ev_chain2 ?_ ?_ ?_ ?_ ?_ | with_reducible refine' et_B ?_ | with_reducible refine' et_test ?_ | with_reducible refine' et_and2 ?_ ?_ | with_reducible refine' et_or2 ?_ ?_ | with_reducible refine' et_not ?_ | with_reducible refine' ev_call ?_ ?_ | with_reducible refine' ev_callS ?_ ?_ | with_reducible refine' ev_cb ?_ ?_ | with_reducible exact isi_bool (by assumption) | with_reducible exact isi_int (by assumption) | with_reducible exact isi_list (by assumption) | with_reducible exact rc_len (by assumption) | with_reducible exact rc_sum (by assumption) | with_reducible exact rc_abs | with_reducible exact isi_listL (by assumption) | with_reducible exact isi_intI | with_reducible exact isi_boolI | with_reducible exact rc_lenT (by assumption) | with_reducible exact isi_tup (by assumption) | with_reducible exact rv_eqL (by assumption) (by assumption) | with_reducible exact rv_neL (by assumption) (by assumption) | with_reducible exact rv_neT (by assumption) (by assumption) | with_reducible exact rv_ixL (by assumption) (by assumption) | with_reducible exact rv_ixT (by assumption) (by assumption) | with_reducible refine' ev_din ?_ ?_ (by assumption) | with_reducible refine' ev_dnotin ?_ ?_ (by assumption) | with_reducible refine' ev_dget ?_ ?_ (by assumption) (by assumption) | ((with_reducible show SpV _ _ _ _); assumption) | ((with_reducible show RV _ _ _ _ _); assumption) | ((with_reducible show RC _ _ _ _); assumption) | ((with_reducible show CDiv _ _); exact ⟨by omega, by omega⟩) | ((with_reducible show CMul _ _); first | exact .inl ⟨by omega, by omega⟩ | exact .inr ⟨by omega, by omega⟩) | ((with_reducible show CPow _ _); exact ⟨by omega, by omega, by first | decide | assumption | omega⟩) | ((with_reducible show (0 : Int) < _); omega) | ((with_reducible show (0 : Int) ≤ _); omega) | ((with_reducible show scal _ _ = true); rfl)))) fun H2 e2 => q x hx H2 (e1.trans e2)

theorem exm_oob {K : PySem.W.Frag} {mg : Str → Option Value} (T : TXT K mg) : PySem.W.exmOne K (.ref (He.ga K "OutOfBounds")) (.ref (He.ga K "OutOfBounds")) = some true := He.exm_ok (T.fact 29)
theorem s_dropS {σ : L2.St} {H : Hp} {D : Ends} {sp : Sp} {vs : List V} {ES : L2.St → XK} {ta : TA} (h : EvA ta σ H vs) (k : ∀ H1, Ex H H1 → sp vs H1 (fun _ H2 => D.nx σ H2) (ES σ)) : tDrop (tCallS sp ES ta) D σ H := h H (Ex.refl H) _ k
def sp_refused (K : PySem.W.Frag) : Sp := fun vs H Q E => ∃ a b m, vs = [a, b, m] ∧ Kd H a ∧ Kd H b ∧ Kd H m ∧ ¬ wayV a b m ∧ RetV (.bl true) H Q
theorem sc__law_refused : FnScope ["_law_one", "_law_other", "_law_most"] ["_law_one", "_law_other", "_law_most"] (defScope s__law_refused) := ⟨rfl, rfl, rfl, by decide +kernel, rfl, by decide +kernel, by decide +kernel⟩
theorem ok__law_refused {P : Program} {w : World} {K : PySem.W.Frag} {mg : Str → Option Value} {base : Heap} (T : TXT K mg) : OK P w K mg base "_law_refused" ["_law_one", "_law_other", "_law_most"] 6 (sp_refused K) := by
  have O_way := ok_way (P := P) (w := w) (base := base) T
  obtain ⟨fd, F⟩ := T.def_ 15
  refine ⟨_, fd, T.glo 15, F.kp, F.bindsN (fun _ _ _ _ _ _ us hl => match us, hl with | [_, _, _], _ => rfl), F.ok sc__law_refused (fun vs H Q E h => ?_) (fun cdv A outer s H vs Q E hr h => ?_), F.bindsA (fun _ _ _ _ _ _ us hl => match us, hl with | [_, _, _], _ => rfl)⟩
  · first | (obtain ⟨rfl, _⟩ := h; rfl) | (obtain ⟨_, rfl, _⟩ := h; rfl) | (obtain ⟨_, _, rfl, _⟩ := h; rfl) | (obtain ⟨_, _, _, rfl, _⟩ := h; rfl) | (obtain ⟨_, _, _, _, rfl, _⟩ := h; rfl) | (obtain ⟨_, _, _, _, _, rfl, _⟩ := h; rfl) | (obtain ⟨_, _, _, _, _, _, rfl, _⟩ := h; rfl) | (obtain ⟨_, _, _, _, _, _, _, rfl, _⟩ := h; rfl) | (obtain ⟨_, _, _, _, _, _, _, _, rfl, _⟩ := h; rfl)
  · replace F : FunD K "_law_refused" "_law_refused" (defArgs s__law_refused) (defBody s__law_refused) (defScope s__law_refused) [] [] (He.ga K "_law_refused") fd := F
    refine ⟨_, (pss_cons (ps_try_only rfl rfl ⟨rfl, by decide, .inl (T.glo 18)⟩ (takes_of rfl rfl rfl rfl) (fun W pn xe tk hp => (pss_one (ps_expr (pe_ownS O_way (hr.mono (by decide)) (by rfl) (fun σ => passAt tk σ) (pa_cons (pv 0) (pa_cons (pv 1) (pa_cons (pv 2) pa_nil)))))))
        (fun a oe cls d pn hz hf => (pss_one (ps_ret pe_bl))))
      (pss_one (ps_ret pe_bl))), ?_⟩
    obtain ⟨a, b, m, rfl, ha, hb, hm, hw, q⟩ := h
    dsimp only [cxOf, L2.start, List.map_cons, List.map_nil, List.length_cons, List.length_nil, Nat.reduceAdd, Nat.reduceSub, List.replicate_succ, List.replicate_zero, List.cons_append, List.nil_append, Nat.zero_add, List.reduceReplicate, List.map]
    change tDrop _ _ _ _
    refine s_dropS (vs := [a, b, m]) (by (repeat' (first | with_reducible exact ev_c | ((with_reducible show Ev (tVar _) _ _ _); exact ev_var rfl) | with_reducible exact ea_nil | with_reducible exact eo_none | with_reducible refine' ea_cons ?_ ?_ | with_reducible refine' eo_some ?_ | with_reducible refine' ev_and2 ?_ ?_ | with_reducible refine' ev_or2 ?_ ?_ | with_reducible refine' ev_notV ?_ | with_reducible exact ru_I | with_reducible refine' ev_un ?_ ?_ | with_reducible exact rv_I0 | with_reducible exact rv_isN | with_reducible exact rv_notN | with_reducible refine' rv_I ?_ | with_reducible refine' rv_eq ?_ | with_reducible refine' rv_ne ?_ | with_reducible refine' ev_op ?_ ?_ ?_ | with_reducible refine' ev_chain2 ?_ ?_ ?_ ?_ ?_ | with_reducible refine' et_B ?_ | with_reducible refine' et_test ?_ | with_reducible refine' et_and2 ?_ ?_ | with_reducible refine' et_or2 ?_ ?_ | with_reducible refine' et_not ?_ | with_reducible refine' ev_call ?_ ?_ | with_reducible refine' ev_callS ?_ ?_ | with_reducible refine' ev_cb ?_ ?_ | with_reducible exact isi_bool (by assumption) | with_reducible exact isi_int (by assumption) | with_reducible exact isi_list (by assumption) | with_reducible exact rc_len (by assumption) | with_reducible exact rc_sum (by assumption) | with_reducible exact rc_abs | with_reducible exact isi_listL (by assumption) | with_reducible exact isi_intI | with_reducible exact isi_boolI | with_reducible exact rc_lenT (by assumption) | with_reducible exact isi_tup (by assumption) | with_reducible exact rv_eqL (by assumption) (by assumption) | with_reducible exact rv_neL (by assumption) (by assumption) | with_reducible exact rv_neT (by assumption) (by assumption) | with_reducible exact rv_ixL (by assumption) (by assumption) | with_reducible exact rv_ixT (by assumption) (by assumption) | with_reducible refine' ev_din ?_ ?_ (by assumption) | with_reducible refine' ev_dnotin ?_ ?_ (by assumption) | with_reducible refine' ev_dget ?_ ?_ (by assumption) (by assumption) | ((with_reducible show SpV _ _ _ _); assumption) | ((with_reducible show RV _ _ _ _ _); assumption) | ((with_reducible show RC _ _ _ _); assumption) | ((with_reducible show CDiv _ _); exact ⟨by omega, by omega⟩) | ((with_reducible show CMul _ _); first | exact .inl ⟨by omega, by omega⟩ | exact .inr ⟨by omega, by omega⟩) | ((with_reducible show CPow _ _); exact ⟨by omega, by omega, by first | decide | assumption | omega⟩) | ((with_reducible show (0 : Int) < _); omega) | ((with_reducible show (0 : Int) ≤ _); omega) | ((with_reducible show scal _ _ = true); rfl)))) fun H1 e1 => ⟨a, b, m, rfl, ha.mono e1, hb.mono e1, hm.mono e1, (fun _ H2 e2 => ?_), fun x o k h1 h2 h3 h4 h5 h6 h7 h8 => absurd ⟨x, o, k, h1, h2, h3, h4, h5, h6, h7, h8⟩ hw⟩
    refine ⟨true, exm_oob T, fun _ x hx => ?_, fun h => nomatch h⟩
    exact s_ret (v := .bl true) (by (repeat' (first | with_reducible exact ev_c | ((with_reducible show Ev (tVar _) _ _ _); exact ev_var rfl) | with_reducible exact ea_nil | with_reducible exact eo_none | with_reducible refine' ea_cons ?_ ?_ | with_reducible refine' eo_some ?_ | with_reducible refine' ev_and2 ?_ ?_ | with_reducible refine' ev_or2 ?_ ?_ | with_reducible refine' ev_notV ?_ | with_reducible exact ru_I | with_reducible refine' ev_un ?_ ?_ | with_reducible exact rv_I0 | with_reducible exact rv_isN | with_reducible exact rv_notN | with_reducible refine' rv_I ?_ | with_reducible refine' rv_eq ?_ | with_reducible refine' rv_ne ?_ | with_reducible refine' ev_op ?_ ?_ ?_ | with_reducible refine' ev_chain2 ?_ ?_ ?_ ?_ ?_ | with_reducible refine' et_B ?_ | with_reducible refine' et_test ?_ | with_reducible refine' et_and2 ?_ ?_ | with_reducible refine' et_or2 ?_ ?_ | with_reducible refine' et_not ?_ | with_reducible refine' ev_call ?_ ?_ | with_reducible refine' ev_callS ?_ ?_ | with_reducible refine' ev_cb ?_ ?_ | with_reducible exact isi_bool (by assumption) | with_reducible exact isi_int (by assumption) | with_reducible exact isi_list (by assumption) | with_reducible exact rc_len (by assumption) | with_reducible exact rc_sum (by assumption) | with_reducible exact rc_abs | with_reducible exact isi_listL (by assumption) | with_reducible exact isi_intI | with_reducible exact isi_boolI | with_reducible exact rc_lenT (by assumption) | with_reducible exact isi_tup (by assumption) | with_reducible exact rv_eqL (by assumption) (by assumption) | with_reducible exact rv_neL (by assumption) (by assumption) | with_reducible exact rv_neT (by assumption) (by assumption) | with_reducible exact rv_ixL (by assumption) (by assumption) | with_reducible exact rv_ixT (by assumption) (by assumption) | with_reducible refine' ev_din ?_ ?_ (by assumption) | with_reducible refine' ev_dnotin ?_ ?_ (by assumption) | with_reducible refine' ev_dget ?_ ?_ (by assumption) (by assumption) | ((with_reducible show SpV _ _ _ _); assumption) | ((with_reducible show RV _ _ _ _ _); assumption) | ((with_reducible show RC _ _ _ _); assumption) | ((with_reducible show CDiv _ _); exact ⟨by omega, by omega⟩) | ((with_reducible show CMul _ _); first | exact .inl ⟨by omega, by omega⟩ | exact .inr ⟨by omega, by omega⟩) | ((with_reducible show CPow _ _); exact ⟨by omega, by omega, by first | decide | assumption | omega⟩) | ((with_reducible show (0 : Int) < _); omega) | ((with_reducible show (0 : Int) ≤ _); omega) | ((with_reducible show scal _ _ = true); rfl)))) fun H3 e3 => q H3 ((e1.trans e2).trans e3)

def HeldU (H : Hp) (ps : List Addr) (us : List (List V)) : Prop := ps.length = us.length ∧ ∀ (i : Nat) (p : Addr) (u : List V), ps[i]? = some p → us[i]? = some u → H p = some (.tup u)
def EvTs (ta : TA) (σ : L2.St) (H : Hp) (us : List (List V)) : Prop := ∀ H1, Ex H H1 → ∀ Q : List V → Hp → Prop, (∀ ps H2, Ex H1 H2 → HeldU H2 ps us → Q (ps.map V.ref) H2) → ta σ H1 Q
section
variable {K : PySem.W.Frag} {σ : L2.St} {H : Hp} {tu tz : TS} {D : Ends} {ta a : TA}
theorem ets_nil : EvTs tNil σ H [] := fun H1 e Q q => q [] H1 (Ex.refl H1) ⟨rfl, fun i p u h => by simp at h⟩
theorem ets_cons {u : List V} {us : List (List V)} (h1 : EvA a σ H u) (hz : u.length ≤ 100000) (hr : EvTs ta σ H us) : EvTs (tCons (tTup a) ta) σ H (u :: us) := fun H1 e Q q => by
  show tTup a σ H1 fun x H2 => ta σ H2 fun xs H3 => Q (x :: xs) H3
  exact eu_tup h1 hz H1 e _ fun p H2 hp e2 h2 => hr H2 (e.trans e2) _ fun ps H3 e3 hP => q (p :: ps) H3 (e2.trans e3) ⟨by rw [List.length_cons, List.length_cons, hP.1], fun i q w hq hw => by
    cases i with
    | zero =>
      injection hq with hq
      injection hw with hw
      rw [← hq, ← hw]
      exact e3 _ _ h2
    | succ i => exact hP.2 i q w hq hw⟩
/-- a loop over a written list of tuples -/
theorem q_forTs {j : Nat} {us : List (List V)} (h : EvTs ta σ H us) (hz : us.length ≤ 100000) (Pv : Hp → Nat → L2.St → Hp → Prop) (h0 : ∀ HB, Ex H HB → Pv HB 0 σ HB) (hk : ∀ HB i σ' H', Pv HB i σ' H' → Ex HB H')
    (hs : ∀ HB i u p σ' H', us[i]? = some u → Pv HB i σ' H' → H' p = some (.tup u) → tu { D with nx := Pv HB (i + 1), ct := Pv HB (i + 1), bk := tz D } (σ'.set j (some (.ref p))) H') (hd : ∀ HB σ' H', Pv HB us.length σ' H' → tz D σ' H') :
    tSeq (tFor (iList K (tLst ta)) (gName j) tu) tz D σ H := by
  refine h H (Ex.refl H) _ fun ps H2 e2 hP => ⟨sz_of (by rw [List.length_map, hP.1]; exact hz), fun p hp => ⟨p, rfl, ⟨ps.map V.ref, sq_of upd_same⟩, ?_⟩⟩
  have hP2 : HeldU (upd H2 p (.lst (ps.map V.ref))) ps us := ⟨hP.1, fun i q u hq hu => Ex.new hp _ _ (hP.2 i q u hq hu)⟩
  have hp2 : (upd H2 p (.lst (ps.map V.ref))) p = some (.lst (ps.map V.ref)) := upd_same
  have e3 := e2.trans (Ex.new (o := .lst (ps.map V.ref)) hp)
  generalize upd H2 p (.lst (ps.map V.ref)) = HB at *
  have z := for_list (K := K) (a := p) (xs := ps.map V.ref) (g := gName j) (tb := tu) (D := { D with nx := tz D }) (σ := σ) (H := HB) (Pv HB) (h0 HB e3) (fun i σ' H' _ c => sq_of (hk HB i σ' H' c _ _ hp2)) (fun i x σ' H' hx c => by
    rw [List.getElem?_map] at hx
    obtain ⟨q, hq, rfl⟩ := Option.map_eq_some_iff.mp hx
    have hi : i < us.length := by
      rw [← hP.1]
      exact (List.getElem?_eq_some_iff.mp hq).1
    exact hs HB i _ q σ' H' (List.getElem?_eq_getElem hi) c (hk HB i σ' H' c _ _ (hP2.2 i q _ hq (List.getElem?_eq_getElem hi)))) (fun σ' H' c => by
    rw [List.length_map, hP.1] at c
    exact hd HB σ' H' c)
  exact z
end
theorem no_way1 {a b m : V} (h : stOk a m = false) : ¬ wayV a b m := fun ⟨x, o, k, h1, h2, h3, h4, h5, h6, h7, h8⟩ => by
  rw [h1, h3, stOk_of h4 h5 h6] at h
  cases h
theorem no_way2 {a b m : V} (h : stOk b m = false) : ¬ wayV a b m := fun ⟨x, o, k, h1, h2, h3, h4, h5, h6, h7, h8⟩ => by
  rw [h2, h3, stOk_of h4 h5 h7] at h
  cases h
theorem stOk_big (k : Nat) : stOk (.int (1 * 2 ^ (k : Int).toNat)) (.int (k : Int)) = false := by
  show (if 1 ≤ (k : Int) ∧ (k : Int) ≤ 10 then inB (.int (1 * 2 ^ (k : Int).toNat)) 0 (1 * 2 ^ (k : Int).toNat - 1) else false) = false
  by_cases c : 1 ≤ (k : Int) ∧ (k : Int) ≤ 10
  · rw [if_pos c]
    simp only [inB, Bool.and_eq_false_iff, decide_eq_false_iff_not]
    omega
  · rw [if_neg c]
theorem stOk_neg (k : Nat) : stOk (.int (-1)) (.int (k : Int)) = false := by
  show (if 1 ≤ (k : Int) ∧ (k : Int) ≤ 10 then inB (.int (-1)) 0 (1 * 2 ^ (k : Int).toNat - 1) else false) = false
  by_cases c : 1 ≤ (k : Int) ∧ (k : Int) ≤ 10
  · rw [if_pos c]
    simp only [inB, Bool.and_eq_false_iff, decide_eq_false_iff_not]
    omega
  · rw [if_neg c]
def sp_law (K : PySem.W.Frag) : Sp := fun vs H Q E => ∃ (a : Addr) (ns : List Int), vs = [.ref a] ∧ SqL K H a (ns.map V.int) ∧ ∀ H', Q (.bl true) H'
theorem law_true {K : PySem.W.Frag} (H : Hp) (a : Addr) (ns : List Int) (_ : ns.length ≤ 63) (hS : SqL K H a (ns.map V.int)) : sp_law K [.ref a] H (fun v _ => v = .bl true) (fun _ _ _ => False) := ⟨a, ns, rfl, hS, fun _ => rfl⟩
def lawLevel : Nat := 7
theorem sc_law : FnScope ["_law_script", "_law_most", "_law_one", "_law_other", "_law_ask", "_law_found", "_law_state", "_law_throw"] ["_law_script"] (defScope s_law) := ⟨rfl, rfl, rfl, by decide +kernel, rfl, by decide +kernel, by decide +kernel⟩
theorem ok_law {P : Program} {w : World} {K : PySem.W.Frag} {mg : Str → Option Value} (T : TXT K mg) : OKL P w K mg "law" ["_law_script"] 7 (sp_law K) := by
  obtain ⟨fd, F⟩ := T.def_ 16
  refine ⟨_, fd, T.glo 16, F.bindsA (fun _ _ _ _ _ _ us hl => match us, hl with | [_], _ => rfl), fun base => ?_⟩
  have O__law_cell_at := ok__law_cell_at (P := P) (w := w) (base := base) T
  have O__law_mixed := ok__law_mixed (P := P) (w := w) (base := base) T
  have O__law_moved := ok__law_moved (P := P) (w := w) (base := base) T
  have O__law_refused := ok__law_refused (P := P) (w := w) (base := base) T
  have O__law_bits := ok__law_bits (P := P) (w := w) (base := base) T
  have O_way := ok_way (P := P) (w := w) (base := base) T
  have O_distances := ok_distances (P := P) (w := w) (base := base) T
  have O__law_led := ok__law_led (P := P) (w := w) (base := base) T
  refine F.ok sc_law (fun vs H Q E h => ?_) (fun cdv A outer s H vs Q E hr h => ?_)
  · first | (obtain ⟨rfl, _⟩ := h; rfl) | (obtain ⟨_, rfl, _⟩ := h; rfl) | (obtain ⟨_, _, rfl, _⟩ := h; rfl) | (obtain ⟨_, _, _, rfl, _⟩ := h; rfl) | (obtain ⟨_, _, _, _, rfl, _⟩ := h; rfl) | (obtain ⟨_, _, _, _, _, rfl, _⟩ := h; rfl) | (obtain ⟨_, _, _, _, _, _, rfl, _⟩ := h; rfl) | (obtain ⟨_, _, _, _, _, _, _, rfl, _⟩ := h; rfl) | (obtain ⟨_, _, _, _, _, _, _, _, rfl, _⟩ := h; rfl)
  · replace F : FunD K "law" "law" (defArgs s_law) (defBody s_law) (defScope s_law) [] [] (He.ga K "law") fd := F
    refine ⟨_, (pss_cons (ps_set (i := 1) sc_law.nd rfl (Or.inl rfl) (pe_op op_add pe_int (pe_op op_mod (pe_own O__law_cell_at (hr.mono (by decide)) (by rfl) (passes_call (takes_of rfl rfl rfl rfl) (fun _ _ _ _ h => h)) (pa_cons (pv 0) (pa_cons pe_int pa_nil))) pe_int)))
      (pss_cons (ps_set (i := 2) sc_law.nd rfl (Or.inl rfl) (pe_op op_mod (pe_own O__law_mixed (hr.mono (by decide)) (by rfl) (passes_call (takes_of rfl rfl rfl rfl) (fun _ _ _ _ h => h)) (pa_cons (pe_own O__law_cell_at (hr.mono (by decide)) (by rfl) (passes_call (takes_of rfl rfl rfl rfl) (fun _ _ _ _ h => h)) (pa_cons (pv 0) (pa_cons pe_int pa_nil))) (pa_cons pe_int pa_nil))) (pe_op op_shl pe_int (pv 1))))
      (pss_cons (ps_set (i := 3) sc_law.nd rfl (Or.inl rfl) (pe_own O__law_moved (hr.mono (by decide)) (by rfl) (passes_call (takes_of rfl rfl rfl rfl) (fun _ _ _ _ h => h)) (pa_cons (pv 2) (pa_cons (pv 1) (pa_cons (pe_own O__law_cell_at (hr.mono (by decide)) (by rfl) (passes_call (takes_of rfl rfl rfl rfl) (fun _ _ _ _ h => h)) (pa_cons (pv 0) (pa_cons pe_int pa_nil))) pa_nil)))))
      (pss_cons (ps_if (pt_cmpR op_eq (pe_op op_mod (pe_own O__law_cell_at (hr.mono (by decide)) (by rfl) (passes_call (takes_of rfl rfl rfl rfl) (fun _ _ _ _ h => h)) (pa_cons (pv 0) (pa_cons pe_int pa_nil))) pe_int) pe_int (nomark _))
        (pss_one (ps_set (i := 3) sc_law.nd rfl (Or.inl rfl) (pe_op op_mod (pe_own O__law_mixed (hr.mono (by decide)) (by rfl) (passes_call (takes_of rfl rfl rfl rfl) (fun _ _ _ _ h => h)) (pa_cons (pe_own O__law_cell_at (hr.mono (by decide)) (by rfl) (passes_call (takes_of rfl rfl rfl rfl) (fun _ _ _ _ h => h)) (pa_cons (pv 0) (pa_cons pe_int pa_nil))) (pa_cons pe_int pa_nil))) (pe_op op_shl pe_int (pv 1)))))
        pss_nil)
      (pss_cons (ps_for (passes_of rfl) rfl (k_piL K (pe_lst (pa_cons (pe_tup (pa_cons (pe_op op_shl pe_int (pv 1)) (pa_cons pe_int (pa_cons (pv 1) pa_nil)))) (pa_cons (pe_tup (pa_cons pe_int (pa_cons (pe_op op_shl pe_int (pv 1)) (pa_cons (pv 1) pa_nil)))) (pa_cons (pe_tup (pa_cons pe_int (pa_cons pe_int (pa_cons pe_int pa_nil)))) (pa_cons (pe_tup (pa_cons pe_int (pa_cons pe_int (pa_cons pe_int pa_nil)))) (pa_cons (pe_tup (pa_cons (pe_un un_neg pe_int) (pa_cons pe_int (pa_cons (pv 1) pa_nil)))) (pa_cons (pe_tup (pa_cons pe_int (pa_cons pe_int (pa_cons pe_bl pa_nil)))) pa_nil)))))))) (pg_name (i := 4) sc_law.nd rfl (Or.inl rfl))
        (pss_one (ps_if (pt_not (pt_val (pe_own O__law_refused (hr.mono (by decide)) (by rfl) (passes_call (takes_of rfl rfl rfl rfl) (fun _ _ _ _ h => h)) (pa_cons (pe_ix (k_ixT K) (pv 4) pe_int (fun _ _ => rfl)) (pa_cons (pe_ix (k_ixT K) (pv 4) pe_int (fun _ _ => rfl)) (pa_cons (pe_ix (k_ixT K) (pv 4) pe_int (fun _ _ => rfl)) pa_nil))))))
        (pss_one (ps_ret pe_bl))
        pss_nil)))
      (pss_cons (ps_if (pt_not (pt_val (pe_own O__law_refused (hr.mono (by decide)) (by rfl) (passes_call (takes_of rfl rfl rfl rfl) (fun _ _ _ _ h => h)) (pa_cons pe_int (pa_cons pe_int (pa_cons pe_int pa_nil))))))
        (pss_one (ps_ret pe_bl))
        pss_nil)
      (pss_cons (ps_if (pt_cmpR op_ne (pe_own O__law_bits (hr.mono (by decide)) (by rfl) (passes_call (takes_of rfl rfl rfl rfl) (fun _ _ _ _ h => h)) (pa_cons (pv 2) pa_nil)) (pe_own O__law_bits (hr.mono (by decide)) (by rfl) (passes_call (takes_of rfl rfl rfl rfl) (fun _ _ _ _ h => h)) (pa_cons (pv 3) pa_nil)) (nomark _))
        (pss_one (ps_ret (pe_own O__law_refused (hr.mono (by decide)) (by rfl) (passes_call (takes_of rfl rfl rfl rfl) (fun _ _ _ _ h => h)) (pa_cons (pv 2) (pa_cons (pv 3) (pa_cons (pv 1) pa_nil))))))
        pss_nil)
      (pss_cons (ps_set (i := 5) sc_law.nd rfl (Or.inl rfl) (pe_own O_way (hr.mono (by decide)) (by rfl) (passes_call (takes_of rfl rfl rfl rfl) (fun _ _ _ _ h => h)) (pa_cons (pv 2) (pa_cons (pv 3) (pa_cons (pv 1) pa_nil)))))
      (pss_cons (ps_if (PW.pt (pw_or (pt_not (pt_val (pe_callB (id := "isinstance") (k_isi K) (by rfl) (T.free 21) (by decide +kernel) (pa_cons (pv 5) (pa_cons (pe_ty (T := "list") (T.free 23) (by decide +kernel)) pa_nil))))) (pw_or1 (pt_cmpR op_ne (pe_callB (id := "len") (k_len K) (by rfl) (T.free 22) (by decide +kernel) (pa_cons (pv 5) pa_nil)) (pe_dget (hu_of hr) (pe_own O_distances (hr.mono (by decide)) (by rfl) (passes_call (takes_of rfl rfl rfl rfl) (fun _ _ _ _ h => h)) (pa_cons (pv 3) (pa_cons (pv 1) pa_nil))) (pv 2) (fun _ _ => rfl)) (nomark _)))))
        (pss_one (ps_ret pe_bl))
        pss_nil)
      (pss_cons (ps_set (i := 6) sc_law.nd rfl (Or.inl rfl) (pv 2))
      (pss_cons (ps_for (passes_of rfl) rfl (k_piL K (pv 5)) (pg_name (i := 7) sc_law.nd rfl (Or.inl rfl))
        (pss_one (ps_set (i := 6) sc_law.nd rfl (Or.inl rfl) (pe_own O__law_led (hr.mono (by decide)) (by rfl) (passes_call (takes_of rfl rfl rfl rfl) (fun _ _ _ _ h => h)) (pa_cons (pv 6) (pa_cons (pv 7) (pa_cons (pv 1) pa_nil)))))))
      (pss_one (ps_ret (pe_cmpR op_eq (pv 6) (pv 3) (nomark _))))))))))))))), ?_⟩
    obtain ⟨a, cs, rfl, hs, q⟩ := h
    dsimp only [cxOf, L2.start, List.map_cons, List.map_nil, List.length_cons, List.length_nil, Nat.reduceAdd, Nat.reduceSub, List.replicate_succ, List.replicate_zero, List.cons_append, List.nil_append, Nat.zero_add, List.reduceReplicate, List.map]
    have c0 := sv_cell (k := 0) hs
    obtain ⟨m0, hm0, hm010⟩ := mod_nat (cs.getD 0 0) (n := 10) (by omega)
    have hm0 : cs.getD 0 0 % 10 = (m0 : Int) := hm0
    obtain ⟨m, hm⟩ : ∃ m, m = m0 + 1 := ⟨_, rfl⟩
    have h1 : 1 ≤ m := by omega
    have h10 : m ≤ 10 := by omega
    refine q_asg (v := .int (m : Int)) (ev_is (v := .int (1 + cs.getD 0 0 % 10)) (by (repeat' (first | with_reducible exact ev_c | ((with_reducible show Ev (tVar _) _ _ _); exact ev_var rfl) | with_reducible exact ea_nil | with_reducible exact eo_none | with_reducible refine' ea_cons ?_ ?_ | with_reducible refine' eo_some ?_ | with_reducible refine' ev_and2 ?_ ?_ | with_reducible refine' ev_or2 ?_ ?_ | with_reducible refine' ev_notV ?_ | with_reducible exact ru_I | with_reducible refine' ev_un ?_ ?_ | with_reducible exact rv_I0 | with_reducible exact rv_isN | with_reducible exact rv_notN | with_reducible refine' rv_I ?_ | with_reducible refine' rv_eq ?_ | with_reducible refine' rv_ne ?_ | with_reducible refine' ev_op ?_ ?_ ?_ | with_reducible refine' ev_chain2 ?_ ?_ ?_ ?_ ?_ | with_reducible refine' et_B ?_ | with_reducible refine' et_test ?_ | with_reducible refine' et_and2 ?_ ?_ | with_reducible refine' et_or2 ?_ ?_ | with_reducible refine' et_not ?_ | with_reducible refine' ev_call ?_ ?_ | with_reducible refine' ev_callS ?_ ?_ | with_reducible refine' ev_cb ?_ ?_ | with_reducible exact isi_bool (by assumption) | with_reducible exact isi_int (by assumption) | with_reducible exact isi_list (by assumption) | with_reducible exact rc_len (by assumption) | with_reducible exact rc_sum (by assumption) | with_reducible exact rc_abs | with_reducible exact isi_listL (by assumption) | with_reducible exact isi_intI | with_reducible exact isi_boolI | with_reducible exact rc_lenT (by assumption) | with_reducible exact isi_tup (by assumption) | with_reducible exact rv_eqL (by assumption) (by assumption) | with_reducible exact rv_neL (by assumption) (by assumption) | with_reducible exact rv_neT (by assumption) (by assumption) | with_reducible exact rv_ixL (by assumption) (by assumption) | with_reducible exact rv_ixT (by assumption) (by assumption) | with_reducible refine' ev_din ?_ ?_ (by assumption) | with_reducible refine' ev_dnotin ?_ ?_ (by assumption) | with_reducible refine' ev_dget ?_ ?_ (by assumption) (by assumption) | ((with_reducible show SpV _ _ _ _); assumption) | ((with_reducible show RV _ _ _ _ _); assumption) | ((with_reducible show RC _ _ _ _); assumption) | ((with_reducible show CDiv _ _); exact ⟨by omega, by omega⟩) | ((with_reducible show CMul _ _); first | exact .inl ⟨by omega, by omega⟩ | exact .inr ⟨by omega, by omega⟩) | ((with_reducible show CPow _ _); exact ⟨by omega, by omega, by first | decide | assumption | omega⟩) | ((with_reducible show (0 : Int) < _); omega) | ((with_reducible show (0 : Int) ≤ _); omega) | ((with_reducible show scal _ _ = true); rfl)))) (congrArg V.int (by omega))) fun H1 e1 => ?_
    have hs1 := ex_l e1 hs
    have c1 := sv_cell (k := 1) hs1
    have sm := sv_mixed (H := H1) (c := cs.getD 1 0) (k := 0)
    have tp := two_pow_nat m
    have tpos : 0 < 2 ^ m := Nat.two_pow_pos m
    have p10 := pow_le10 h10
    obtain ⟨x, hx', hx⟩ := mod_nat (mixed (cs.getD 1 0) 0) (n := 2 ^ m) (by omega)
    refine q_asg (v := .int (x : Int)) (ev_is (v := .int (mixed (cs.getD 1 0) 0 % (1 * 2 ^ (m : Int).toNat))) (by (repeat' (first | with_reducible exact ev_c | ((with_reducible show Ev (tVar _) _ _ _); exact ev_var rfl) | with_reducible exact ea_nil | with_reducible exact eo_none | with_reducible refine' ea_cons ?_ ?_ | with_reducible refine' eo_some ?_ | with_reducible refine' ev_and2 ?_ ?_ | with_reducible refine' ev_or2 ?_ ?_ | with_reducible refine' ev_notV ?_ | with_reducible exact ru_I | with_reducible refine' ev_un ?_ ?_ | with_reducible exact rv_I0 | with_reducible exact rv_isN | with_reducible exact rv_notN | with_reducible refine' rv_I ?_ | with_reducible refine' rv_eq ?_ | with_reducible refine' rv_ne ?_ | with_reducible refine' ev_op ?_ ?_ ?_ | with_reducible refine' ev_chain2 ?_ ?_ ?_ ?_ ?_ | with_reducible refine' et_B ?_ | with_reducible refine' et_test ?_ | with_reducible refine' et_and2 ?_ ?_ | with_reducible refine' et_or2 ?_ ?_ | with_reducible refine' et_not ?_ | with_reducible refine' ev_call ?_ ?_ | with_reducible refine' ev_callS ?_ ?_ | with_reducible refine' ev_cb ?_ ?_ | with_reducible exact isi_bool (by assumption) | with_reducible exact isi_int (by assumption) | with_reducible exact isi_list (by assumption) | with_reducible exact rc_len (by assumption) | with_reducible exact rc_sum (by assumption) | with_reducible exact rc_abs | with_reducible exact isi_listL (by assumption) | with_reducible exact isi_intI | with_reducible exact isi_boolI | with_reducible exact rc_lenT (by assumption) | with_reducible exact isi_tup (by assumption) | with_reducible exact rv_eqL (by assumption) (by assumption) | with_reducible exact rv_neL (by assumption) (by assumption) | with_reducible exact rv_neT (by assumption) (by assumption) | with_reducible exact rv_ixL (by assumption) (by assumption) | with_reducible exact rv_ixT (by assumption) (by assumption) | with_reducible refine' ev_din ?_ ?_ (by assumption) | with_reducible refine' ev_dnotin ?_ ?_ (by assumption) | with_reducible refine' ev_dget ?_ ?_ (by assumption) (by assumption) | ((with_reducible show SpV _ _ _ _); assumption) | ((with_reducible show RV _ _ _ _ _); assumption) | ((with_reducible show RC _ _ _ _); assumption) | ((with_reducible show CDiv _ _); exact ⟨by omega, by omega⟩) | ((with_reducible show CMul _ _); first | exact .inl ⟨by omega, by omega⟩ | exact .inr ⟨by omega, by omega⟩) | ((with_reducible show CPow _ _); exact ⟨by omega, by omega, by first | decide | assumption | omega⟩) | ((with_reducible show (0 : Int) < _); omega) | ((with_reducible show (0 : Int) ≤ _); omega) | ((with_reducible show scal _ _ = true); rfl)))) (congrArg V.int (by rw [tp]; exact hx'))) fun H2 e2 => ?_
    have hs2 := ex_l e2 hs1
    have c2 := sv_cell (k := 2) hs2
    refine q_relV (vs := [.int (x : Int), .int (m : Int), .int (cs.getD 2 0)]) (P := fun v => ∃ r : Nat, v = (r : Int) ∧ r < 2 ^ m) (by (repeat' (first | with_reducible exact ev_c | ((with_reducible show Ev (tVar _) _ _ _); exact ev_var rfl) | with_reducible exact ea_nil | with_reducible exact eo_none | with_reducible refine' ea_cons ?_ ?_ | with_reducible refine' eo_some ?_ | with_reducible refine' ev_and2 ?_ ?_ | with_reducible refine' ev_or2 ?_ ?_ | with_reducible refine' ev_notV ?_ | with_reducible exact ru_I | with_reducible refine' ev_un ?_ ?_ | with_reducible exact rv_I0 | with_reducible exact rv_isN | with_reducible exact rv_notN | with_reducible refine' rv_I ?_ | with_reducible refine' rv_eq ?_ | with_reducible refine' rv_ne ?_ | with_reducible refine' ev_op ?_ ?_ ?_ | with_reducible refine' ev_chain2 ?_ ?_ ?_ ?_ ?_ | with_reducible refine' et_B ?_ | with_reducible refine' et_test ?_ | with_reducible refine' et_and2 ?_ ?_ | with_reducible refine' et_or2 ?_ ?_ | with_reducible refine' et_not ?_ | with_reducible refine' ev_call ?_ ?_ | with_reducible refine' ev_callS ?_ ?_ | with_reducible refine' ev_cb ?_ ?_ | with_reducible exact isi_bool (by assumption) | with_reducible exact isi_int (by assumption) | with_reducible exact isi_list (by assumption) | with_reducible exact rc_len (by assumption) | with_reducible exact rc_sum (by assumption) | with_reducible exact rc_abs | with_reducible exact isi_listL (by assumption) | with_reducible exact isi_intI | with_reducible exact isi_boolI | with_reducible exact rc_lenT (by assumption) | with_reducible exact isi_tup (by assumption) | with_reducible exact rv_eqL (by assumption) (by assumption) | with_reducible exact rv_neL (by assumption) (by assumption) | with_reducible exact rv_neT (by assumption) (by assumption) | with_reducible exact rv_ixL (by assumption) (by assumption) | with_reducible exact rv_ixT (by assumption) (by assumption) | with_reducible refine' ev_din ?_ ?_ (by assumption) | with_reducible refine' ev_dnotin ?_ ?_ (by assumption) | with_reducible refine' ev_dget ?_ ?_ (by assumption) (by assumption) | ((with_reducible show SpV _ _ _ _); assumption) | ((with_reducible show RV _ _ _ _ _); assumption) | ((with_reducible show RC _ _ _ _); assumption) | ((with_reducible show CDiv _ _); exact ⟨by omega, by omega⟩) | ((with_reducible show CMul _ _); first | exact .inl ⟨by omega, by omega⟩ | exact .inr ⟨by omega, by omega⟩) | ((with_reducible show CPow _ _); exact ⟨by omega, by omega, by first | decide | assumption | omega⟩) | ((with_reducible show (0 : Int) < _); omega) | ((with_reducible show (0 : Int) ≤ _); omega) | ((with_reducible show scal _ _ = true); rfl)))) (fun H3 e3 Q E k => ⟨x, m, cs.getD 2 0, rfl, h1, h10, hx, fun r hr => k r ⟨r, rfl, hr⟩⟩) fun v H3 ⟨r, hv, hr⟩ e3 => ?_
    subst hv
    have hs3 := ex_l e3 hs2
    have c3 := sv_cell (k := 3) hs3
    refine q_key (M := fun σ' H' => ∃ o : Nat, σ' = [some (V.ref a), some (V.int (m : Int)), some (V.int (x : Int)), some (V.int (o : Int)), none, none, none, none] ∧ Ex H3 H' ∧ o < 2 ^ m) ?_ ?_
    case refine_2 =>
      intro key
      refine q_when (b := decide (V.int (cs.getD 3 0 % 4) = V.int 0)) (by (repeat' (first | with_reducible exact ev_c | ((with_reducible show Ev (tVar _) _ _ _); exact ev_var rfl) | with_reducible exact ea_nil | with_reducible exact eo_none | with_reducible refine' ea_cons ?_ ?_ | with_reducible refine' eo_some ?_ | with_reducible refine' ev_and2 ?_ ?_ | with_reducible refine' ev_or2 ?_ ?_ | with_reducible refine' ev_notV ?_ | with_reducible exact ru_I | with_reducible refine' ev_un ?_ ?_ | with_reducible exact rv_I0 | with_reducible exact rv_isN | with_reducible exact rv_notN | with_reducible refine' rv_I ?_ | with_reducible refine' rv_eq ?_ | with_reducible refine' rv_ne ?_ | with_reducible refine' ev_op ?_ ?_ ?_ | with_reducible refine' ev_chain2 ?_ ?_ ?_ ?_ ?_ | with_reducible refine' et_B ?_ | with_reducible refine' et_test ?_ | with_reducible refine' et_and2 ?_ ?_ | with_reducible refine' et_or2 ?_ ?_ | with_reducible refine' et_not ?_ | with_reducible refine' ev_call ?_ ?_ | with_reducible refine' ev_callS ?_ ?_ | with_reducible refine' ev_cb ?_ ?_ | with_reducible exact isi_bool (by assumption) | with_reducible exact isi_int (by assumption) | with_reducible exact isi_list (by assumption) | with_reducible exact rc_len (by assumption) | with_reducible exact rc_sum (by assumption) | with_reducible exact rc_abs | with_reducible exact isi_listL (by assumption) | with_reducible exact isi_intI | with_reducible exact isi_boolI | with_reducible exact rc_lenT (by assumption) | with_reducible exact isi_tup (by assumption) | with_reducible exact rv_eqL (by assumption) (by assumption) | with_reducible exact rv_neL (by assumption) (by assumption) | with_reducible exact rv_neT (by assumption) (by assumption) | with_reducible exact rv_ixL (by assumption) (by assumption) | with_reducible exact rv_ixT (by assumption) (by assumption) | with_reducible refine' ev_din ?_ ?_ (by assumption) | with_reducible refine' ev_dnotin ?_ ?_ (by assumption) | with_reducible refine' ev_dget ?_ ?_ (by assumption) (by assumption) | ((with_reducible show SpV _ _ _ _); assumption) | ((with_reducible show RV _ _ _ _ _); assumption) | ((with_reducible show RC _ _ _ _); assumption) | ((with_reducible show CDiv _ _); exact ⟨by omega, by omega⟩) | ((with_reducible show CMul _ _); first | exact .inl ⟨by omega, by omega⟩ | exact .inr ⟨by omega, by omega⟩) | ((with_reducible show CPow _ _); exact ⟨by omega, by omega, by first | decide | assumption | omega⟩) | ((with_reducible show (0 : Int) < _); omega) | ((with_reducible show (0 : Int) ≤ _); omega) | ((with_reducible show scal _ _ = true); rfl)))) (fun _ H4 e4 => ?_) (fun _ H4 e4 => key _ _ ⟨r, rfl, e4, hr⟩)
      have c24 := sv_cell (k := 2) (ex_l e4 hs3)
      have sm4 := sv_mixed (H := H4) (c := cs.getD 2 0) (k := 1)
      obtain ⟨o, ho', ho⟩ := mod_nat (mixed (cs.getD 2 0) 1) (n := 2 ^ m) (by omega)
      exact s_asg (v := .int (o : Int)) (ev_is (v := .int (mixed (cs.getD 2 0) 1 % (1 * 2 ^ (m : Int).toNat))) (by (repeat' (first | with_reducible exact ev_c | ((with_reducible show Ev (tVar _) _ _ _); exact ev_var rfl) | with_reducible exact ea_nil | with_reducible exact eo_none | with_reducible refine' ea_cons ?_ ?_ | with_reducible refine' eo_some ?_ | with_reducible refine' ev_and2 ?_ ?_ | with_reducible refine' ev_or2 ?_ ?_ | with_reducible refine' ev_notV ?_ | with_reducible exact ru_I | with_reducible refine' ev_un ?_ ?_ | with_reducible exact rv_I0 | with_reducible exact rv_isN | with_reducible exact rv_notN | with_reducible refine' rv_I ?_ | with_reducible refine' rv_eq ?_ | with_reducible refine' rv_ne ?_ | with_reducible refine' ev_op ?_ ?_ ?_ | with_reducible refine' ev_chain2 ?_ ?_ ?_ ?_ ?_ | with_reducible refine' et_B ?_ | with_reducible refine' et_test ?_ | with_reducible refine' et_and2 ?_ ?_ | with_reducible refine' et_or2 ?_ ?_ | with_reducible refine' et_not ?_ | with_reducible refine' ev_call ?_ ?_ | with_reducible refine' ev_callS ?_ ?_ | with_reducible refine' ev_cb ?_ ?_ | with_reducible exact isi_bool (by assumption) | with_reducible exact isi_int (by assumption) | with_reducible exact isi_list (by assumption) | with_reducible exact rc_len (by assumption) | with_reducible exact rc_sum (by assumption) | with_reducible exact rc_abs | with_reducible exact isi_listL (by assumption) | with_reducible exact isi_intI | with_reducible exact isi_boolI | with_reducible exact rc_lenT (by assumption) | with_reducible exact isi_tup (by assumption) | with_reducible exact rv_eqL (by assumption) (by assumption) | with_reducible exact rv_neL (by assumption) (by assumption) | with_reducible exact rv_neT (by assumption) (by assumption) | with_reducible exact rv_ixL (by assumption) (by assumption) | with_reducible exact rv_ixT (by assumption) (by assumption) | with_reducible refine' ev_din ?_ ?_ (by assumption) | with_reducible refine' ev_dnotin ?_ ?_ (by assumption) | with_reducible refine' ev_dget ?_ ?_ (by assumption) (by assumption) | ((with_reducible show SpV _ _ _ _); assumption) | ((with_reducible show RV _ _ _ _ _); assumption) | ((with_reducible show RC _ _ _ _); assumption) | ((with_reducible show CDiv _ _); exact ⟨by omega, by omega⟩) | ((with_reducible show CMul _ _); first | exact .inl ⟨by omega, by omega⟩ | exact .inr ⟨by omega, by omega⟩) | ((with_reducible show CPow _ _); exact ⟨by omega, by omega, by first | decide | assumption | omega⟩) | ((with_reducible show (0 : Int) < _); omega) | ((with_reducible show (0 : Int) ≤ _); omega) | ((with_reducible show scal _ _ = true); rfl)))) (congrArg V.int (by rw [tp]; exact ho'))) fun H5 e5 => key _ _ ⟨o, rfl, e4.trans e5, ho⟩
    rintro σ' H4 ⟨o, rfl, e4, ho⟩
    refine q_forTs (us := [[.int (1 * 2 ^ (m : Int).toNat), .int 1, .int (m : Int)], [.int 1, .int (1 * 2 ^ (m : Int).toNat), .int (m : Int)], [.int 1, .int 1, .int 0], [.int 1, .int 1, .int 11], [.int (-1), .int 1, .int (m : Int)], [.int 1, .int 2, .bl true]]) (ets_cons (by (repeat' (first | with_reducible exact ev_c | ((with_reducible show Ev (tVar _) _ _ _); exact ev_var rfl) | with_reducible exact ea_nil | with_reducible exact eo_none | with_reducible refine' ea_cons ?_ ?_ | with_reducible refine' eo_some ?_ | with_reducible refine' ev_and2 ?_ ?_ | with_reducible refine' ev_or2 ?_ ?_ | with_reducible refine' ev_notV ?_ | with_reducible exact ru_I | with_reducible refine' ev_un ?_ ?_ | with_reducible exact rv_I0 | with_reducible exact rv_isN | with_reducible exact rv_notN | with_reducible refine' rv_I ?_ | with_reducible refine' rv_eq ?_ | with_reducible refine' rv_ne ?_ | with_reducible refine' ev_op ?_ ?_ ?_ | with_reducible refine' ev_chain2 ?_ ?_ ?_ ?_ ?_ | with_reducible refine' et_B ?_ | with_reducible refine' et_test ?_ | with_reducible refine' et_and2 ?_ ?_ | with_reducible refine' et_or2 ?_ ?_ | with_reducible refine' et_not ?_ | with_reducible refine' ev_call ?_ ?_ | with_reducible refine' ev_callS ?_ ?_ | with_reducible refine' ev_cb ?_ ?_ | with_reducible exact isi_bool (by assumption) | with_reducible exact isi_int (by assumption) | with_reducible exact isi_list (by assumption) | with_reducible exact rc_len (by assumption) | with_reducible exact rc_sum (by assumption) | with_reducible exact rc_abs | with_reducible exact isi_listL (by assumption) | with_reducible exact isi_intI | with_reducible exact isi_boolI | with_reducible exact rc_lenT (by assumption) | with_reducible exact isi_tup (by assumption) | with_reducible exact rv_eqL (by assumption) (by assumption) | with_reducible exact rv_neL (by assumption) (by assumption) | with_reducible exact rv_neT (by assumption) (by assumption) | with_reducible exact rv_ixL (by assumption) (by assumption) | with_reducible exact rv_ixT (by assumption) (by assumption) | with_reducible refine' ev_din ?_ ?_ (by assumption) | with_reducible refine' ev_dnotin ?_ ?_ (by assumption) | with_reducible refine' ev_dget ?_ ?_ (by assumption) (by assumption) | ((with_reducible show SpV _ _ _ _); assumption) | ((with_reducible show RV _ _ _ _ _); assumption) | ((with_reducible show RC _ _ _ _); assumption) | ((with_reducible show CDiv _ _); exact ⟨by omega, by omega⟩) | ((with_reducible show CMul _ _); first | exact .inl ⟨by omega, by omega⟩ | exact .inr ⟨by omega, by omega⟩) | ((with_reducible show CPow _ _); exact ⟨by omega, by omega, by first | decide | assumption | omega⟩) | ((with_reducible show (0 : Int) < _); omega) | ((with_reducible show (0 : Int) ≤ _); omega) | ((with_reducible show scal _ _ = true); rfl)))) (by simp) (ets_cons (by (repeat' (first | with_reducible exact ev_c | ((with_reducible show Ev (tVar _) _ _ _); exact ev_var rfl) | with_reducible exact ea_nil | with_reducible exact eo_none | with_reducible refine' ea_cons ?_ ?_ | with_reducible refine' eo_some ?_ | with_reducible refine' ev_and2 ?_ ?_ | with_reducible refine' ev_or2 ?_ ?_ | with_reducible refine' ev_notV ?_ | with_reducible exact ru_I | with_reducible refine' ev_un ?_ ?_ | with_reducible exact rv_I0 | with_reducible exact rv_isN | with_reducible exact rv_notN | with_reducible refine' rv_I ?_ | with_reducible refine' rv_eq ?_ | with_reducible refine' rv_ne ?_ | with_reducible refine' ev_op ?_ ?_ ?_ | with_reducible refine' ev_chain2 ?_ ?_ ?_ ?_ ?_ | with_reducible refine' et_B ?_ | with_reducible refine' et_test ?_ | with_reducible refine' et_and2 ?_ ?_ | with_reducible refine' et_or2 ?_ ?_ | with_reducible refine' et_not ?_ | with_reducible refine' ev_call ?_ ?_ | with_reducible refine' ev_callS ?_ ?_ | with_reducible refine' ev_cb ?_ ?_ | with_reducible exact isi_bool (by assumption) | with_reducible exact isi_int (by assumption) | with_reducible exact isi_list (by assumption) | with_reducible exact rc_len (by assumption) | with_reducible exact rc_sum (by assumption) | with_reducible exact rc_abs | with_reducible exact isi_listL (by assumption) | with_reducible exact isi_intI | with_reducible exact isi_boolI | with_reducible exact rc_lenT (by assumption) | with_reducible exact isi_tup (by assumption) | with_reducible exact rv_eqL (by assumption) (by assumption) | with_reducible exact rv_neL (by assumption) (by assumption) | with_reducible exact rv_neT (by assumption) (by assumption) | with_reducible exact rv_ixL (by assumption) (by assumption) | with_reducible exact rv_ixT (by assumption) (by assumption) | with_reducible refine' ev_din ?_ ?_ (by assumption) | with_reducible refine' ev_dnotin ?_ ?_ (by assumption) | with_reducible refine' ev_dget ?_ ?_ (by assumption) (by assumption) | ((with_reducible show SpV _ _ _ _); assumption) | ((with_reducible show RV _ _ _ _ _); assumption) | ((with_reducible show RC _ _ _ _); assumption) | ((with_reducible show CDiv _ _); exact ⟨by omega, by omega⟩) | ((with_reducible show CMul _ _); first | exact .inl ⟨by omega, by omega⟩ | exact .inr ⟨by omega, by omega⟩) | ((with_reducible show CPow _ _); exact ⟨by omega, by omega, by first | decide | assumption | omega⟩) | ((with_reducible show (0 : Int) < _); omega) | ((with_reducible show (0 : Int) ≤ _); omega) | ((with_reducible show scal _ _ = true); rfl)))) (by simp) (ets_cons (by (repeat' (first | with_reducible exact ev_c | ((with_reducible show Ev (tVar _) _ _ _); exact ev_var rfl) | with_reducible exact ea_nil | with_reducible exact eo_none | with_reducible refine' ea_cons ?_ ?_ | with_reducible refine' eo_some ?_ | with_reducible refine' ev_and2 ?_ ?_ | with_reducible refine' ev_or2 ?_ ?_ | with_reducible refine' ev_notV ?_ | with_reducible exact ru_I | with_reducible refine' ev_un ?_ ?_ | with_reducible exact rv_I0 | with_reducible exact rv_isN | with_reducible exact rv_notN | with_reducible refine' rv_I ?_ | with_reducible refine' rv_eq ?_ | with_reducible refine' rv_ne ?_ | with_reducible refine' ev_op ?_ ?_ ?_ | with_reducible refine' ev_chain2 ?_ ?_ ?_ ?_ ?_ | with_reducible refine' et_B ?_ | with_reducible refine' et_test ?_ | with_reducible refine' et_and2 ?_ ?_ | with_reducible refine' et_or2 ?_ ?_ | with_reducible refine' et_not ?_ | with_reducible refine' ev_call ?_ ?_ | with_reducible refine' ev_callS ?_ ?_ | with_reducible refine' ev_cb ?_ ?_ | with_reducible exact isi_bool (by assumption) | with_reducible exact isi_int (by assumption) | with_reducible exact isi_list (by assumption) | with_reducible exact rc_len (by assumption) | with_reducible exact rc_sum (by assumption) | with_reducible exact rc_abs | with_reducible exact isi_listL (by assumption) | with_reducible exact isi_intI | with_reducible exact isi_boolI | with_reducible exact rc_lenT (by assumption) | with_reducible exact isi_tup (by assumption) | with_reducible exact rv_eqL (by assumption) (by assumption) | with_reducible exact rv_neL (by assumption) (by assumption) | with_reducible exact rv_neT (by assumption) (by assumption) | with_reducible exact rv_ixL (by assumption) (by assumption) | with_reducible exact rv_ixT (by assumption) (by assumption) | with_reducible refine' ev_din ?_ ?_ (by assumption) | with_reducible refine' ev_dnotin ?_ ?_ (by assumption) | with_reducible refine' ev_dget ?_ ?_ (by assumption) (by assumption) | ((with_reducible show SpV _ _ _ _); assumption) | ((with_reducible show RV _ _ _ _ _); assumption) | ((with_reducible show RC _ _ _ _); assumption) | ((with_reducible show CDiv _ _); exact ⟨by omega, by omega⟩) | ((with_reducible show CMul _ _); first | exact .inl ⟨by omega, by omega⟩ | exact .inr ⟨by omega, by omega⟩) | ((with_reducible show CPow _ _); exact ⟨by omega, by omega, by first | decide | assumption | omega⟩) | ((with_reducible show (0 : Int) < _); omega) | ((with_reducible show (0 : Int) ≤ _); omega) | ((with_reducible show scal _ _ = true); rfl)))) (by simp) (ets_cons (by (repeat' (first | with_reducible exact ev_c | ((with_reducible show Ev (tVar _) _ _ _); exact ev_var rfl) | with_reducible exact ea_nil | with_reducible exact eo_none | with_reducible refine' ea_cons ?_ ?_ | with_reducible refine' eo_some ?_ | with_reducible refine' ev_and2 ?_ ?_ | with_reducible refine' ev_or2 ?_ ?_ | with_reducible refine' ev_notV ?_ | with_reducible exact ru_I | with_reducible refine' ev_un ?_ ?_ | with_reducible exact rv_I0 | with_reducible exact rv_isN | with_reducible exact rv_notN | with_reducible refine' rv_I ?_ | with_reducible refine' rv_eq ?_ | with_reducible refine' rv_ne ?_ | with_reducible refine' ev_op ?_ ?_ ?_ | with_reducible refine' ev_chain2 ?_ ?_ ?_ ?_ ?_ | with_reducible refine' et_B ?_ | with_reducible refine' et_test ?_ | with_reducible refine' et_and2 ?_ ?_ | with_reducible refine' et_or2 ?_ ?_ | with_reducible refine' et_not ?_ | with_reducible refine' ev_call ?_ ?_ | with_reducible refine' ev_callS ?_ ?_ | with_reducible refine' ev_cb ?_ ?_ | with_reducible exact isi_bool (by assumption) | with_reducible exact isi_int (by assumption) | with_reducible exact isi_list (by assumption) | with_reducible exact rc_len (by assumption) | with_reducible exact rc_sum (by assumption) | with_reducible exact rc_abs | with_reducible exact isi_listL (by assumption) | with_reducible exact isi_intI | with_reducible exact isi_boolI | with_reducible exact rc_lenT (by assumption) | with_reducible exact isi_tup (by assumption) | with_reducible exact rv_eqL (by assumption) (by assumption) | with_reducible exact rv_neL (by assumption) (by assumption) | with_reducible exact rv_neT (by assumption) (by assumption) | with_reducible exact rv_ixL (by assumption) (by assumption) | with_reducible exact rv_ixT (by assumption) (by assumption) | with_reducible refine' ev_din ?_ ?_ (by assumption) | with_reducible refine' ev_dnotin ?_ ?_ (by assumption) | with_reducible refine' ev_dget ?_ ?_ (by assumption) (by assumption) | ((with_reducible show SpV _ _ _ _); assumption) | ((with_reducible show RV _ _ _ _ _); assumption) | ((with_reducible show RC _ _ _ _); assumption) | ((with_reducible show CDiv _ _); exact ⟨by omega, by omega⟩) | ((with_reducible show CMul _ _); first | exact .inl ⟨by omega, by omega⟩ | exact .inr ⟨by omega, by omega⟩) | ((with_reducible show CPow _ _); exact ⟨by omega, by omega, by first | decide | assumption | omega⟩) | ((with_reducible show (0 : Int) < _); omega) | ((with_reducible show (0 : Int) ≤ _); omega) | ((with_reducible show scal _ _ = true); rfl)))) (by simp) (ets_cons (by (repeat' (first | with_reducible exact ev_c | ((with_reducible show Ev (tVar _) _ _ _); exact ev_var rfl) | with_reducible exact ea_nil | with_reducible exact eo_none | with_reducible refine' ea_cons ?_ ?_ | with_reducible refine' eo_some ?_ | with_reducible refine' ev_and2 ?_ ?_ | with_reducible refine' ev_or2 ?_ ?_ | with_reducible refine' ev_notV ?_ | with_reducible exact ru_I | with_reducible refine' ev_un ?_ ?_ | with_reducible exact rv_I0 | with_reducible exact rv_isN | with_reducible exact rv_notN | with_reducible refine' rv_I ?_ | with_reducible refine' rv_eq ?_ | with_reducible refine' rv_ne ?_ | with_reducible refine' ev_op ?_ ?_ ?_ | with_reducible refine' ev_chain2 ?_ ?_ ?_ ?_ ?_ | with_reducible refine' et_B ?_ | with_reducible refine' et_test ?_ | with_reducible refine' et_and2 ?_ ?_ | with_reducible refine' et_or2 ?_ ?_ | with_reducible refine' et_not ?_ | with_reducible refine' ev_call ?_ ?_ | with_reducible refine' ev_callS ?_ ?_ | with_reducible refine' ev_cb ?_ ?_ | with_reducible exact isi_bool (by assumption) | with_reducible exact isi_int (by assumption) | with_reducible exact isi_list (by assumption) | with_reducible exact rc_len (by assumption) | with_reducible exact rc_sum (by assumption) | with_reducible exact rc_abs | with_reducible exact isi_listL (by assumption) | with_reducible exact isi_intI | with_reducible exact isi_boolI | with_reducible exact rc_lenT (by assumption) | with_reducible exact isi_tup (by assumption) | with_reducible exact rv_eqL (by assumption) (by assumption) | with_reducible exact rv_neL (by assumption) (by assumption) | with_reducible exact rv_neT (by assumption) (by assumption) | with_reducible exact rv_ixL (by assumption) (by assumption) | with_reducible exact rv_ixT (by assumption) (by assumption) | with_reducible refine' ev_din ?_ ?_ (by assumption) | with_reducible refine' ev_dnotin ?_ ?_ (by assumption) | with_reducible refine' ev_dget ?_ ?_ (by assumption) (by assumption) | ((with_reducible show SpV _ _ _ _); assumption) | ((with_reducible show RV _ _ _ _ _); assumption) | ((with_reducible show RC _ _ _ _); assumption) | ((with_reducible show CDiv _ _); exact ⟨by omega, by omega⟩) | ((with_reducible show CMul _ _); first | exact .inl ⟨by omega, by omega⟩ | exact .inr ⟨by omega, by omega⟩) | ((with_reducible show CPow _ _); exact ⟨by omega, by omega, by first | decide | assumption | omega⟩) | ((with_reducible show (0 : Int) < _); omega) | ((with_reducible show (0 : Int) ≤ _); omega) | ((with_reducible show scal _ _ = true); rfl)))) (by simp) (ets_cons (by (repeat' (first | with_reducible exact ev_c | ((with_reducible show Ev (tVar _) _ _ _); exact ev_var rfl) | with_reducible exact ea_nil | with_reducible exact eo_none | with_reducible refine' ea_cons ?_ ?_ | with_reducible refine' eo_some ?_ | with_reducible refine' ev_and2 ?_ ?_ | with_reducible refine' ev_or2 ?_ ?_ | with_reducible refine' ev_notV ?_ | with_reducible exact ru_I | with_reducible refine' ev_un ?_ ?_ | with_reducible exact rv_I0 | with_reducible exact rv_isN | with_reducible exact rv_notN | with_reducible refine' rv_I ?_ | with_reducible refine' rv_eq ?_ | with_reducible refine' rv_ne ?_ | with_reducible refine' ev_op ?_ ?_ ?_ | with_reducible refine' ev_chain2 ?_ ?_ ?_ ?_ ?_ | with_reducible refine' et_B ?_ | with_reducible refine' et_test ?_ | with_reducible refine' et_and2 ?_ ?_ | with_reducible refine' et_or2 ?_ ?_ | with_reducible refine' et_not ?_ | with_reducible refine' ev_call ?_ ?_ | with_reducible refine' ev_callS ?_ ?_ | with_reducible refine' ev_cb ?_ ?_ | with_reducible exact isi_bool (by assumption) | with_reducible exact isi_int (by assumption) | with_reducible exact isi_list (by assumption) | with_reducible exact rc_len (by assumption) | with_reducible exact rc_sum (by assumption) | with_reducible exact rc_abs | with_reducible exact isi_listL (by assumption) | with_reducible exact isi_intI | with_reducible exact isi_boolI | with_reducible exact rc_lenT (by assumption) | with_reducible exact isi_tup (by assumption) | with_reducible exact rv_eqL (by assumption) (by assumption) | with_reducible exact rv_neL (by assumption) (by assumption) | with_reducible exact rv_neT (by assumption) (by assumption) | with_reducible exact rv_ixL (by assumption) (by assumption) | with_reducible exact rv_ixT (by assumption) (by assumption) | with_reducible refine' ev_din ?_ ?_ (by assumption) | with_reducible refine' ev_dnotin ?_ ?_ (by assumption) | with_reducible refine' ev_dget ?_ ?_ (by assumption) (by assumption) | ((with_reducible show SpV _ _ _ _); assumption) | ((with_reducible show RV _ _ _ _ _); assumption) | ((with_reducible show RC _ _ _ _); assumption) | ((with_reducible show CDiv _ _); exact ⟨by omega, by omega⟩) | ((with_reducible show CMul _ _); first | exact .inl ⟨by omega, by omega⟩ | exact .inr ⟨by omega, by omega⟩) | ((with_reducible show CPow _ _); exact ⟨by omega, by omega, by first | decide | assumption | omega⟩) | ((with_reducible show (0 : Int) < _); omega) | ((with_reducible show (0 : Int) ≤ _); omega) | ((with_reducible show scal _ _ = true); rfl)))) (by simp) ets_nil)))))) (by simp) (fun HB i σ' H' => ∃ y : Option V, σ' = [some (V.ref a), some (V.int (m : Int)), some (V.int (x : Int)), some (V.int (o : Int)), y, none, none, none] ∧ Ex H4 HB ∧ Ex HB H') (fun HB eB => ⟨_, rfl, eB, Ex.refl HB⟩) (fun HB i σ' H' ⟨_, _, _, e⟩ => e) (fun HB i u p σ' H' hu ⟨y, hσ, eB, e5⟩ hp => ?_) (fun HB σ' H' ⟨y, hσ, eB, e5⟩ => ?_)
    · subst hσ
      have all : ∀ u ∈ [[V.int (1 * 2 ^ (m : Int).toNat), V.int 1, V.int (m : Int)], [.int 1, .int (1 * 2 ^ (m : Int).toNat), .int (m : Int)], [.int 1, .int 1, .int 0], [.int 1, .int 1, .int 11], [.int (-1), .int 1, .int (m : Int)], [.int 1, .int 2, .bl true]], ∃ a b c, u = [a, b, c] ∧ (∀ H, Kd H a) ∧ (∀ H, Kd H b) ∧ (∀ H, Kd H c) ∧ ¬ wayV a b c := by
        intro u hm
        rcases List.mem_cons.mp hm with e | hm
        · exact ⟨_, _, _, e, fun _ => .int _, fun _ => .int _, fun _ => .int _, no_way1 (stOk_big m)⟩
        rcases List.mem_cons.mp hm with e | hm
        · exact ⟨_, _, _, e, fun _ => .int _, fun _ => .int _, fun _ => .int _, no_way2 (stOk_big m)⟩
        rcases List.mem_cons.mp hm with e | hm
        · exact ⟨_, _, _, e, fun _ => .int _, fun _ => .int _, fun _ => .int _, no_way1 rfl⟩
        rcases List.mem_cons.mp hm with e | hm
        · exact ⟨_, _, _, e, fun _ => .int _, fun _ => .int _, fun _ => .int _, no_way1 rfl⟩
        rcases List.mem_cons.mp hm with e | hm
        · exact ⟨_, _, _, e, fun _ => .int _, fun _ => .int _, fun _ => .int _, no_way1 (stOk_neg m)⟩
        · have e := List.mem_singleton.mp hm
          exact ⟨_, _, _, e, fun _ => .int _, fun _ => .int _, fun _ => .bl _, no_way1 rfl⟩
      obtain ⟨ua, ub, uc, rfl, ka, kb, kc, hw⟩ := all u (List.mem_of_getElem? hu)
      have stp : SqT K H' p [ua, ub, uc] := st_of hp
      have at0 : atI [ua, ub, uc] 0 = some ua := rfl
      have at1 : atI [ua, ub, uc] 1 = some ub := rfl
      have at2 : atI [ua, ub, uc] 2 = some uc := rfl
      have rf : SpV (sp_refused K) [ua, ub, uc] H' (.bl true) := spv_of fun H6 e6 Q E q => ⟨ua, ub, uc, rfl, ka _, kb _, kc _, hw, q⟩
      exact s_when (b := !true) (et_not (et_B (ev_call (dvs := []) (ea_cons (ev_op (ev_var rfl) ev_c (rv_ixT stp at0)) (ea_cons (ev_op (ev_var rfl) ev_c (rv_ixT stp at1)) (ea_cons (ev_op (ev_var rfl) ev_c (rv_ixT stp at2)) ea_nil))) rf))) (fun h => by simp at h) (fun _ H6 e6 => ⟨_, rfl, eB, e5.trans e6⟩)
    subst hσ
    have w014 : ¬ wayV (.int 0) (.int 1) (.int 4) := fun ⟨x, o, k, h1, h2, h3, h4, h5, h6, h7, h8⟩ => by
      injection h1 with h1
      injection h2 with h2
      have hx : x = 0 := by omega
      have ho : o = 1 := by omega
      subst hx
      subst ho
      exact absurd h8 (by decide)
    have rf : SpV (sp_refused K) [.int 0, .int 1, .int 4] H' (.bl true) := spv_of fun H6 e6 Q E q => ⟨_, _, _, rfl, .int _, .int _, .int _, w014, q⟩
    refine q_when (b := !true) (by (repeat' (first | with_reducible exact ev_c | ((with_reducible show Ev (tVar _) _ _ _); exact ev_var rfl) | with_reducible exact ea_nil | with_reducible exact eo_none | with_reducible refine' ea_cons ?_ ?_ | with_reducible refine' eo_some ?_ | with_reducible refine' ev_and2 ?_ ?_ | with_reducible refine' ev_or2 ?_ ?_ | with_reducible refine' ev_notV ?_ | with_reducible exact ru_I | with_reducible refine' ev_un ?_ ?_ | with_reducible exact rv_I0 | with_reducible exact rv_isN | with_reducible exact rv_notN | with_reducible refine' rv_I ?_ | with_reducible refine' rv_eq ?_ | with_reducible refine' rv_ne ?_ | with_reducible refine' ev_op ?_ ?_ ?_ | with_reducible refine' ev_chain2 ?_ ?_ ?_ ?_ ?_ | with_reducible refine' et_B ?_ | with_reducible refine' et_test ?_ | with_reducible refine' et_and2 ?_ ?_ | with_reducible refine' et_or2 ?_ ?_ | with_reducible refine' et_not ?_ | with_reducible refine' ev_call ?_ ?_ | with_reducible refine' ev_callS ?_ ?_ | with_reducible refine' ev_cb ?_ ?_ | with_reducible exact isi_bool (by assumption) | with_reducible exact isi_int (by assumption) | with_reducible exact isi_list (by assumption) | with_reducible exact rc_len (by assumption) | with_reducible exact rc_sum (by assumption) | with_reducible exact rc_abs | with_reducible exact isi_listL (by assumption) | with_reducible exact isi_intI | with_reducible exact isi_boolI | with_reducible exact rc_lenT (by assumption) | with_reducible exact isi_tup (by assumption) | with_reducible exact rv_eqL (by assumption) (by assumption) | with_reducible exact rv_neL (by assumption) (by assumption) | with_reducible exact rv_neT (by assumption) (by assumption) | with_reducible exact rv_ixL (by assumption) (by assumption) | with_reducible exact rv_ixT (by assumption) (by assumption) | with_reducible refine' ev_din ?_ ?_ (by assumption) | with_reducible refine' ev_dnotin ?_ ?_ (by assumption) | with_reducible refine' ev_dget ?_ ?_ (by assumption) (by assumption) | ((with_reducible show SpV _ _ _ _); assumption) | ((with_reducible show RV _ _ _ _ _); assumption) | ((with_reducible show RC _ _ _ _); assumption) | ((with_reducible show CDiv _ _); exact ⟨by omega, by omega⟩) | ((with_reducible show CMul _ _); first | exact .inl ⟨by omega, by omega⟩ | exact .inr ⟨by omega, by omega⟩) | ((with_reducible show CPow _ _); exact ⟨by omega, by omega, by first | decide | assumption | omega⟩) | ((with_reducible show (0 : Int) < _); omega) | ((with_reducible show (0 : Int) ≤ _); omega) | ((with_reducible show scal _ _ = true); rfl)))) (fun h => by simp at h) (fun _ H6 e6 => ?_)
    have bx : SpV sp_bits60 [.int (x : Int)] H6 (.int (popN x : Int)) := spv_of fun H7 e7 Q E q => ⟨x, rfl, by omega, q⟩
    have bo : SpV sp_bits60 [.int (o : Int)] H6 (.int (popN o : Int)) := spv_of fun H7 e7 Q E q => ⟨o, rfl, by omega, q⟩
    by_cases hp : popN x = popN o
    case neg =>
      refine q_when (b := !decide (V.int (popN x : Int) = V.int (popN o : Int))) (by (repeat' (first | with_reducible exact ev_c | ((with_reducible show Ev (tVar _) _ _ _); exact ev_var rfl) | with_reducible exact ea_nil | with_reducible exact eo_none | with_reducible refine' ea_cons ?_ ?_ | with_reducible refine' eo_some ?_ | with_reducible refine' ev_and2 ?_ ?_ | with_reducible refine' ev_or2 ?_ ?_ | with_reducible refine' ev_notV ?_ | with_reducible exact ru_I | with_reducible refine' ev_un ?_ ?_ | with_reducible exact rv_I0 | with_reducible exact rv_isN | with_reducible exact rv_notN | with_reducible refine' rv_I ?_ | with_reducible refine' rv_eq ?_ | with_reducible refine' rv_ne ?_ | with_reducible refine' ev_op ?_ ?_ ?_ | with_reducible refine' ev_chain2 ?_ ?_ ?_ ?_ ?_ | with_reducible refine' et_B ?_ | with_reducible refine' et_test ?_ | with_reducible refine' et_and2 ?_ ?_ | with_reducible refine' et_or2 ?_ ?_ | with_reducible refine' et_not ?_ | with_reducible refine' ev_call ?_ ?_ | with_reducible refine' ev_callS ?_ ?_ | with_reducible refine' ev_cb ?_ ?_ | with_reducible exact isi_bool (by assumption) | with_reducible exact isi_int (by assumption) | with_reducible exact isi_list (by assumption) | with_reducible exact rc_len (by assumption) | with_reducible exact rc_sum (by assumption) | with_reducible exact rc_abs | with_reducible exact isi_listL (by assumption) | with_reducible exact isi_intI | with_reducible exact isi_boolI | with_reducible exact rc_lenT (by assumption) | with_reducible exact isi_tup (by assumption) | with_reducible exact rv_eqL (by assumption) (by assumption) | with_reducible exact rv_neL (by assumption) (by assumption) | with_reducible exact rv_neT (by assumption) (by assumption) | with_reducible exact rv_ixL (by assumption) (by assumption) | with_reducible exact rv_ixT (by assumption) (by assumption) | with_reducible refine' ev_din ?_ ?_ (by assumption) | with_reducible refine' ev_dnotin ?_ ?_ (by assumption) | with_reducible refine' ev_dget ?_ ?_ (by assumption) (by assumption) | ((with_reducible show SpV _ _ _ _); assumption) | ((with_reducible show RV _ _ _ _ _); assumption) | ((with_reducible show RC _ _ _ _); assumption) | ((with_reducible show CDiv _ _); exact ⟨by omega, by omega⟩) | ((with_reducible show CMul _ _); first | exact .inl ⟨by omega, by omega⟩ | exact .inr ⟨by omega, by omega⟩) | ((with_reducible show CPow _ _); exact ⟨by omega, by omega, by first | decide | assumption | omega⟩) | ((with_reducible show (0 : Int) < _); omega) | ((with_reducible show (0 : Int) ≤ _); omega) | ((with_reducible show scal _ _ = true); rfl)))) (fun _ H7 e7 => ?_) (fun h => by
        rw [Bool.not_eq_false', decide_eq_true_iff] at h
        injection h with h
        exact absurd (by omega) hp)
      have rf7 : SpV (sp_refused K) [.int (x : Int), .int (o : Int), .int (m : Int)] H7 (.bl true) := spv_of fun H8 e8 Q E q => ⟨_, _, _, rfl, .int _, .int _, .int _, (fun ⟨x2, o2, k2, h1, h2, h3, h4, h5, h6, h7, h8⟩ => by
        injection h1 with h1
        injection h2 with h2
        exact hp (by rw [show x = x2 by omega, show o = o2 by omega]; exact h8)), q⟩
      exact s_ret (v := .bl true) (by (repeat' (first | with_reducible exact ev_c | ((with_reducible show Ev (tVar _) _ _ _); exact ev_var rfl) | with_reducible exact ea_nil | with_reducible exact eo_none | with_reducible refine' ea_cons ?_ ?_ | with_reducible refine' eo_some ?_ | with_reducible refine' ev_and2 ?_ ?_ | with_reducible refine' ev_or2 ?_ ?_ | with_reducible refine' ev_notV ?_ | with_reducible exact ru_I | with_reducible refine' ev_un ?_ ?_ | with_reducible exact rv_I0 | with_reducible exact rv_isN | with_reducible exact rv_notN | with_reducible refine' rv_I ?_ | with_reducible refine' rv_eq ?_ | with_reducible refine' rv_ne ?_ | with_reducible refine' ev_op ?_ ?_ ?_ | with_reducible refine' ev_chain2 ?_ ?_ ?_ ?_ ?_ | with_reducible refine' et_B ?_ | with_reducible refine' et_test ?_ | with_reducible refine' et_and2 ?_ ?_ | with_reducible refine' et_or2 ?_ ?_ | with_reducible refine' et_not ?_ | with_reducible refine' ev_call ?_ ?_ | with_reducible refine' ev_callS ?_ ?_ | with_reducible refine' ev_cb ?_ ?_ | with_reducible exact isi_bool (by assumption) | with_reducible exact isi_int (by assumption) | with_reducible exact isi_list (by assumption) | with_reducible exact rc_len (by assumption) | with_reducible exact rc_sum (by assumption) | with_reducible exact rc_abs | with_reducible exact isi_listL (by assumption) | with_reducible exact isi_intI | with_reducible exact isi_boolI | with_reducible exact rc_lenT (by assumption) | with_reducible exact isi_tup (by assumption) | with_reducible exact rv_eqL (by assumption) (by assumption) | with_reducible exact rv_neL (by assumption) (by assumption) | with_reducible exact rv_neT (by assumption) (by assumption) | with_reducible exact rv_ixL (by assumption) (by assumption) | with_reducible exact rv_ixT (by assumption) (by assumption) | with_reducible refine' ev_din ?_ ?_ (by assumption) | with_reducible refine' ev_dnotin ?_ ?_ (by assumption) | with_reducible refine' ev_dget ?_ ?_ (by assumption) (by assumption) | ((with_reducible show SpV _ _ _ _); assumption) | ((with_reducible show RV _ _ _ _ _); assumption) | ((with_reducible show RC _ _ _ _); assumption) | ((with_reducible show CDiv _ _); exact ⟨by omega, by omega⟩) | ((with_reducible show CMul _ _); first | exact .inl ⟨by omega, by omega⟩ | exact .inr ⟨by omega, by omega⟩) | ((with_reducible show CPow _ _); exact ⟨by omega, by omega, by first | decide | assumption | omega⟩) | ((with_reducible show (0 : Int) < _); omega) | ((with_reducible show (0 : Int) ≤ _); omega) | ((with_reducible show scal _ _ = true); rfl)))) fun H8 e8 => q H8
    refine q_when (b := !decide (V.int (popN x : Int) = V.int (popN o : Int))) (by (repeat' (first | with_reducible exact ev_c | ((with_reducible show Ev (tVar _) _ _ _); exact ev_var rfl) | with_reducible exact ea_nil | with_reducible exact eo_none | with_reducible refine' ea_cons ?_ ?_ | with_reducible refine' eo_some ?_ | with_reducible refine' ev_and2 ?_ ?_ | with_reducible refine' ev_or2 ?_ ?_ | with_reducible refine' ev_notV ?_ | with_reducible exact ru_I | with_reducible refine' ev_un ?_ ?_ | with_reducible exact rv_I0 | with_reducible exact rv_isN | with_reducible exact rv_notN | with_reducible refine' rv_I ?_ | with_reducible refine' rv_eq ?_ | with_reducible refine' rv_ne ?_ | with_reducible refine' ev_op ?_ ?_ ?_ | with_reducible refine' ev_chain2 ?_ ?_ ?_ ?_ ?_ | with_reducible refine' et_B ?_ | with_reducible refine' et_test ?_ | with_reducible refine' et_and2 ?_ ?_ | with_reducible refine' et_or2 ?_ ?_ | with_reducible refine' et_not ?_ | with_reducible refine' ev_call ?_ ?_ | with_reducible refine' ev_callS ?_ ?_ | with_reducible refine' ev_cb ?_ ?_ | with_reducible exact isi_bool (by assumption) | with_reducible exact isi_int (by assumption) | with_reducible exact isi_list (by assumption) | with_reducible exact rc_len (by assumption) | with_reducible exact rc_sum (by assumption) | with_reducible exact rc_abs | with_reducible exact isi_listL (by assumption) | with_reducible exact isi_intI | with_reducible exact isi_boolI | with_reducible exact rc_lenT (by assumption) | with_reducible exact isi_tup (by assumption) | with_reducible exact rv_eqL (by assumption) (by assumption) | with_reducible exact rv_neL (by assumption) (by assumption) | with_reducible exact rv_neT (by assumption) (by assumption) | with_reducible exact rv_ixL (by assumption) (by assumption) | with_reducible exact rv_ixT (by assumption) (by assumption) | with_reducible refine' ev_din ?_ ?_ (by assumption) | with_reducible refine' ev_dnotin ?_ ?_ (by assumption) | with_reducible refine' ev_dget ?_ ?_ (by assumption) (by assumption) | ((with_reducible show SpV _ _ _ _); assumption) | ((with_reducible show RV _ _ _ _ _); assumption) | ((with_reducible show RC _ _ _ _); assumption) | ((with_reducible show CDiv _ _); exact ⟨by omega, by omega⟩) | ((with_reducible show CMul _ _); first | exact .inl ⟨by omega, by omega⟩ | exact .inr ⟨by omega, by omega⟩) | ((with_reducible show CPow _ _); exact ⟨by omega, by omega, by first | decide | assumption | omega⟩) | ((with_reducible show (0 : Int) < _); omega) | ((with_reducible show (0 : Int) ≤ _); omega) | ((with_reducible show scal _ _ = true); rfl)))) (fun h => by rw [hp] at h; simp at h) (fun _ H7 e7 => ?_)
    refine q_relX (vs := [.int (x : Int), .int (o : Int), .int (m : Int)]) (by (repeat' (first | with_reducible exact ev_c | ((with_reducible show Ev (tVar _) _ _ _); exact ev_var rfl) | with_reducible exact ea_nil | with_reducible exact eo_none | with_reducible refine' ea_cons ?_ ?_ | with_reducible refine' eo_some ?_ | with_reducible refine' ev_and2 ?_ ?_ | with_reducible refine' ev_or2 ?_ ?_ | with_reducible refine' ev_notV ?_ | with_reducible exact ru_I | with_reducible refine' ev_un ?_ ?_ | with_reducible exact rv_I0 | with_reducible exact rv_isN | with_reducible exact rv_notN | with_reducible refine' rv_I ?_ | with_reducible refine' rv_eq ?_ | with_reducible refine' rv_ne ?_ | with_reducible refine' ev_op ?_ ?_ ?_ | with_reducible refine' ev_chain2 ?_ ?_ ?_ ?_ ?_ | with_reducible refine' et_B ?_ | with_reducible refine' et_test ?_ | with_reducible refine' et_and2 ?_ ?_ | with_reducible refine' et_or2 ?_ ?_ | with_reducible refine' et_not ?_ | with_reducible refine' ev_call ?_ ?_ | with_reducible refine' ev_callS ?_ ?_ | with_reducible refine' ev_cb ?_ ?_ | with_reducible exact isi_bool (by assumption) | with_reducible exact isi_int (by assumption) | with_reducible exact isi_list (by assumption) | with_reducible exact rc_len (by assumption) | with_reducible exact rc_sum (by assumption) | with_reducible exact rc_abs | with_reducible exact isi_listL (by assumption) | with_reducible exact isi_intI | with_reducible exact isi_boolI | with_reducible exact rc_lenT (by assumption) | with_reducible exact isi_tup (by assumption) | with_reducible exact rv_eqL (by assumption) (by assumption) | with_reducible exact rv_neL (by assumption) (by assumption) | with_reducible exact rv_neT (by assumption) (by assumption) | with_reducible exact rv_ixL (by assumption) (by assumption) | with_reducible exact rv_ixT (by assumption) (by assumption) | with_reducible refine' ev_din ?_ ?_ (by assumption) | with_reducible refine' ev_dnotin ?_ ?_ (by assumption) | with_reducible refine' ev_dget ?_ ?_ (by assumption) (by assumption) | ((with_reducible show SpV _ _ _ _); assumption) | ((with_reducible show RV _ _ _ _ _); assumption) | ((with_reducible show RC _ _ _ _); assumption) | ((with_reducible show CDiv _ _); exact ⟨by omega, by omega⟩) | ((with_reducible show CMul _ _); first | exact .inl ⟨by omega, by omega⟩ | exact .inr ⟨by omega, by omega⟩) | ((with_reducible show CPow _ _); exact ⟨by omega, by omega, by first | decide | assumption | omega⟩) | ((with_reducible show (0 : Int) < _); omega) | ((with_reducible show (0 : Int) ≤ _); omega) | ((with_reducible show scal _ _ = true); rfl)))) fun H8 e8 => ⟨_, _, _, rfl, .int _, .int _, .int _, (fun h => absurd ⟨x, o, m, rfl, rfl, rfl, h1, h10, hx, ho, hp⟩ h), fun x2 o2 k2 ex eo ek _ _ _ _ _ => ?_⟩
    injection ex with ex
    injection eo with eo
    injection ek with ek
    have ex : x = x2 := by omega
    have eo : o = o2 := by omega
    have ek : m = k2 := by omega
    subst ex
    subst eo
    subst ek
    intro f ts H9 hf e9 h9 way hlen
    have sf9 : SqL K H9 f (ntV ts) := sq_of h9
    have isl := isi_listL (K := K) h9
    have x0c : x ∈ classN m o := mem_class.mpr ⟨hx, hp⟩
    have ea : EvA (tCons (tVar 3) (tCons (tVar 1) tNil)) [some (V.ref a), some (V.int (m : Int)), some (V.int (x : Int)), some (V.int (o : Int)), y, some (V.ref f), none, none] H9 [.int (o : Int), .int (m : Int)] := by (repeat' (first | with_reducible exact ev_c | ((with_reducible show Ev (tVar _) _ _ _); exact ev_var rfl) | with_reducible exact ea_nil | with_reducible exact eo_none | with_reducible refine' ea_cons ?_ ?_ | with_reducible refine' eo_some ?_ | with_reducible refine' ev_and2 ?_ ?_ | with_reducible refine' ev_or2 ?_ ?_ | with_reducible refine' ev_notV ?_ | with_reducible exact ru_I | with_reducible refine' ev_un ?_ ?_ | with_reducible exact rv_I0 | with_reducible exact rv_isN | with_reducible exact rv_notN | with_reducible refine' rv_I ?_ | with_reducible refine' rv_eq ?_ | with_reducible refine' rv_ne ?_ | with_reducible refine' ev_op ?_ ?_ ?_ | with_reducible refine' ev_chain2 ?_ ?_ ?_ ?_ ?_ | with_reducible refine' et_B ?_ | with_reducible refine' et_test ?_ | with_reducible refine' et_and2 ?_ ?_ | with_reducible refine' et_or2 ?_ ?_ | with_reducible refine' et_not ?_ | with_reducible refine' ev_call ?_ ?_ | with_reducible refine' ev_callS ?_ ?_ | with_reducible refine' ev_cb ?_ ?_ | with_reducible exact isi_bool (by assumption) | with_reducible exact isi_int (by assumption) | with_reducible exact isi_list (by assumption) | with_reducible exact rc_len (by assumption) | with_reducible exact rc_sum (by assumption) | with_reducible exact rc_abs | with_reducible exact isi_listL (by assumption) | with_reducible exact isi_intI | with_reducible exact isi_boolI | with_reducible exact rc_lenT (by assumption) | with_reducible exact isi_tup (by assumption) | with_reducible exact rv_eqL (by assumption) (by assumption) | with_reducible exact rv_neL (by assumption) (by assumption) | with_reducible exact rv_neT (by assumption) (by assumption) | with_reducible exact rv_ixL (by assumption) (by assumption) | with_reducible exact rv_ixT (by assumption) (by assumption) | with_reducible refine' ev_din ?_ ?_ (by assumption) | with_reducible refine' ev_dnotin ?_ ?_ (by assumption) | with_reducible refine' ev_dget ?_ ?_ (by assumption) (by assumption) | ((with_reducible show SpV _ _ _ _); assumption) | ((with_reducible show RV _ _ _ _ _); assumption) | ((with_reducible show RC _ _ _ _); assumption) | ((with_reducible show CDiv _ _); exact ⟨by omega, by omega⟩) | ((with_reducible show CMul _ _); first | exact .inl ⟨by omega, by omega⟩ | exact .inr ⟨by omega, by omega⟩) | ((with_reducible show CPow _ _); exact ⟨by omega, by omega, by first | decide | assumption | omega⟩) | ((with_reducible show (0 : Int) < _); omega) | ((with_reducible show (0 : Int) ≤ _); omega) | ((with_reducible show scal _ _ = true); rfl)))
    have evd : Ev (tOp rNe (tCB (rLenS K) (tCons (tVar 5) tNil)) (tDGet (tCall (sp_distances K) [] E (tCons (tVar 3) (tCons (tVar 1) tNil))) (tVar 2))) [some (V.ref a), some (V.int (m : Int)), some (V.int (x : Int)), some (V.int (o : Int)), y, some (V.ref f), none, none] H9 (.bl false) := fun H10 e10 Q r => by
      refine (ev_cb (ea_cons (ev_var rfl) ea_nil) (rc_len sf9)) H10 e10 _ fun H11 e11 => ?_
      show tCall (sp_distances K) [] E (tCons (tVar 3) (tCons (tVar 1) tNil)) _ H11 (fun x1 H1 => tVar 2 _ H1 fun y1 H2 => ∃ a1 v1, x1 = V.ref a1 ∧ DGet H2 a1 y1 (some v1) ∧ rNe (V.int ((ntV ts).length : Int)) v1 H2 Q)
      refine ea H11 (e10.trans e11) _ fun H11b e11b => ?_
      refine dist_call h1 h10 ho fun d D H12 hd e12 h12 df => ⟨V.int (x : Int), rfl, d, V.int (D x : Int), rfl, ?_, ?_⟩
      · have z := DGet.k (k := Sum.inl (x : Int)) h12
        rw [farC_val x0c] at z
        exact z
      · have z := rv_ne (x := V.int ((ntV ts).length : Int)) (y := V.int (D x : Int)) (H := H12) rfl H12 (Ex.refl H12) Q
        refine z fun H13 e13 => ?_
        have e : (ntV ts).length = D x := by
          unfold ntV
          rw [List.length_map]
          exact hlen D df
        rw [e, decide_eq_true rfl]
        exact r H13 (((e11.trans e11b).trans e12).trans e13)
    refine q_when (b := !true || false) (et_or2 (by (repeat' (first | with_reducible exact ev_c | ((with_reducible show Ev (tVar _) _ _ _); exact ev_var rfl) | with_reducible exact ea_nil | with_reducible exact eo_none | with_reducible refine' ea_cons ?_ ?_ | with_reducible refine' eo_some ?_ | with_reducible refine' ev_and2 ?_ ?_ | with_reducible refine' ev_or2 ?_ ?_ | with_reducible refine' ev_notV ?_ | with_reducible exact ru_I | with_reducible refine' ev_un ?_ ?_ | with_reducible exact rv_I0 | with_reducible exact rv_isN | with_reducible exact rv_notN | with_reducible refine' rv_I ?_ | with_reducible refine' rv_eq ?_ | with_reducible refine' rv_ne ?_ | with_reducible refine' ev_op ?_ ?_ ?_ | with_reducible refine' ev_chain2 ?_ ?_ ?_ ?_ ?_ | with_reducible refine' et_B ?_ | with_reducible refine' et_test ?_ | with_reducible refine' et_and2 ?_ ?_ | with_reducible refine' et_or2 ?_ ?_ | with_reducible refine' et_not ?_ | with_reducible refine' ev_call ?_ ?_ | with_reducible refine' ev_callS ?_ ?_ | with_reducible refine' ev_cb ?_ ?_ | with_reducible exact isi_bool (by assumption) | with_reducible exact isi_int (by assumption) | with_reducible exact isi_list (by assumption) | with_reducible exact rc_len (by assumption) | with_reducible exact rc_sum (by assumption) | with_reducible exact rc_abs | with_reducible exact isi_listL (by assumption) | with_reducible exact isi_intI | with_reducible exact isi_boolI | with_reducible exact rc_lenT (by assumption) | with_reducible exact isi_tup (by assumption) | with_reducible exact rv_eqL (by assumption) (by assumption) | with_reducible exact rv_neL (by assumption) (by assumption) | with_reducible exact rv_neT (by assumption) (by assumption) | with_reducible exact rv_ixL (by assumption) (by assumption) | with_reducible exact rv_ixT (by assumption) (by assumption) | with_reducible refine' ev_din ?_ ?_ (by assumption) | with_reducible refine' ev_dnotin ?_ ?_ (by assumption) | with_reducible refine' ev_dget ?_ ?_ (by assumption) (by assumption) | ((with_reducible show SpV _ _ _ _); assumption) | ((with_reducible show RV _ _ _ _ _); assumption) | ((with_reducible show RC _ _ _ _); assumption) | ((with_reducible show CDiv _ _); exact ⟨by omega, by omega⟩) | ((with_reducible show CMul _ _); first | exact .inl ⟨by omega, by omega⟩ | exact .inr ⟨by omega, by omega⟩) | ((with_reducible show CPow _ _); exact ⟨by omega, by omega, by first | decide | assumption | omega⟩) | ((with_reducible show (0 : Int) < _); omega) | ((with_reducible show (0 : Int) ≤ _); omega) | ((with_reducible show scal _ _ = true); rfl)))) (et_test evd)) (fun h => by simp at h) (fun _ H10 e10 => ?_)
    refine q_asg (v := .int (x : Int)) (by (repeat' (first | with_reducible exact ev_c | ((with_reducible show Ev (tVar _) _ _ _); exact ev_var rfl) | with_reducible exact ea_nil | with_reducible exact eo_none | with_reducible refine' ea_cons ?_ ?_ | with_reducible refine' eo_some ?_ | with_reducible refine' ev_and2 ?_ ?_ | with_reducible refine' ev_or2 ?_ ?_ | with_reducible refine' ev_notV ?_ | with_reducible exact ru_I | with_reducible refine' ev_un ?_ ?_ | with_reducible exact rv_I0 | with_reducible exact rv_isN | with_reducible exact rv_notN | with_reducible refine' rv_I ?_ | with_reducible refine' rv_eq ?_ | with_reducible refine' rv_ne ?_ | with_reducible refine' ev_op ?_ ?_ ?_ | with_reducible refine' ev_chain2 ?_ ?_ ?_ ?_ ?_ | with_reducible refine' et_B ?_ | with_reducible refine' et_test ?_ | with_reducible refine' et_and2 ?_ ?_ | with_reducible refine' et_or2 ?_ ?_ | with_reducible refine' et_not ?_ | with_reducible refine' ev_call ?_ ?_ | with_reducible refine' ev_callS ?_ ?_ | with_reducible refine' ev_cb ?_ ?_ | with_reducible exact isi_bool (by assumption) | with_reducible exact isi_int (by assumption) | with_reducible exact isi_list (by assumption) | with_reducible exact rc_len (by assumption) | with_reducible exact rc_sum (by assumption) | with_reducible exact rc_abs | with_reducible exact isi_listL (by assumption) | with_reducible exact isi_intI | with_reducible exact isi_boolI | with_reducible exact rc_lenT (by assumption) | with_reducible exact isi_tup (by assumption) | with_reducible exact rv_eqL (by assumption) (by assumption) | with_reducible exact rv_neL (by assumption) (by assumption) | with_reducible exact rv_neT (by assumption) (by assumption) | with_reducible exact rv_ixL (by assumption) (by assumption) | with_reducible exact rv_ixT (by assumption) (by assumption) | with_reducible refine' ev_din ?_ ?_ (by assumption) | with_reducible refine' ev_dnotin ?_ ?_ (by assumption) | with_reducible refine' ev_dget ?_ ?_ (by assumption) (by assumption) | ((with_reducible show SpV _ _ _ _); assumption) | ((with_reducible show RV _ _ _ _ _); assumption) | ((with_reducible show RC _ _ _ _); assumption) | ((with_reducible show CDiv _ _); exact ⟨by omega, by omega⟩) | ((with_reducible show CMul _ _); first | exact .inl ⟨by omega, by omega⟩ | exact .inr ⟨by omega, by omega⟩) | ((with_reducible show CPow _ _); exact ⟨by omega, by omega, by first | decide | assumption | omega⟩) | ((with_reducible show (0 : Int) < _); omega) | ((with_reducible show (0 : Int) ≤ _); omega) | ((with_reducible show scal _ _ = true); rfl)))) fun H11 e11 => ?_
    have sf11 := ex_l (e10.trans e11) sf9
    refine q_forLn (a := f) (xs := ntV ts) (by (repeat' (first | with_reducible exact ev_c | ((with_reducible show Ev (tVar _) _ _ _); exact ev_var rfl) | with_reducible exact ea_nil | with_reducible exact eo_none | with_reducible refine' ea_cons ?_ ?_ | with_reducible refine' eo_some ?_ | with_reducible refine' ev_and2 ?_ ?_ | with_reducible refine' ev_or2 ?_ ?_ | with_reducible refine' ev_notV ?_ | with_reducible exact ru_I | with_reducible refine' ev_un ?_ ?_ | with_reducible exact rv_I0 | with_reducible exact rv_isN | with_reducible exact rv_notN | with_reducible refine' rv_I ?_ | with_reducible refine' rv_eq ?_ | with_reducible refine' rv_ne ?_ | with_reducible refine' ev_op ?_ ?_ ?_ | with_reducible refine' ev_chain2 ?_ ?_ ?_ ?_ ?_ | with_reducible refine' et_B ?_ | with_reducible refine' et_test ?_ | with_reducible refine' et_and2 ?_ ?_ | with_reducible refine' et_or2 ?_ ?_ | with_reducible refine' et_not ?_ | with_reducible refine' ev_call ?_ ?_ | with_reducible refine' ev_callS ?_ ?_ | with_reducible refine' ev_cb ?_ ?_ | with_reducible exact isi_bool (by assumption) | with_reducible exact isi_int (by assumption) | with_reducible exact isi_list (by assumption) | with_reducible exact rc_len (by assumption) | with_reducible exact rc_sum (by assumption) | with_reducible exact rc_abs | with_reducible exact isi_listL (by assumption) | with_reducible exact isi_intI | with_reducible exact isi_boolI | with_reducible exact rc_lenT (by assumption) | with_reducible exact isi_tup (by assumption) | with_reducible exact rv_eqL (by assumption) (by assumption) | with_reducible exact rv_neL (by assumption) (by assumption) | with_reducible exact rv_neT (by assumption) (by assumption) | with_reducible exact rv_ixL (by assumption) (by assumption) | with_reducible exact rv_ixT (by assumption) (by assumption) | with_reducible refine' ev_din ?_ ?_ (by assumption) | with_reducible refine' ev_dnotin ?_ ?_ (by assumption) | with_reducible refine' ev_dget ?_ ?_ (by assumption) (by assumption) | ((with_reducible show SpV _ _ _ _); assumption) | ((with_reducible show RV _ _ _ _ _); assumption) | ((with_reducible show RC _ _ _ _); assumption) | ((with_reducible show CDiv _ _); exact ⟨by omega, by omega⟩) | ((with_reducible show CMul _ _); first | exact .inl ⟨by omega, by omega⟩ | exact .inr ⟨by omega, by omega⟩) | ((with_reducible show CPow _ _); exact ⟨by omega, by omega, by first | decide | assumption | omega⟩) | ((with_reducible show (0 : Int) < _); omega) | ((with_reducible show (0 : Int) ≤ _); omega) | ((with_reducible show scal _ _ = true); rfl)))) sf11 (fun i σ' H' => ∃ (y7 : Option V), σ' = [some (V.ref a), some (V.int (m : Int)), some (V.int (x : Int)), some (V.int (o : Int)), y, some (V.ref f), some (V.int (((ts.take i).foldl ledN x : Nat) : Int)), y7] ∧ Ex H11 H') (fun H12 e12 => ⟨_, rfl, e12⟩) (fun i σ' H' _ ⟨_, _, e12⟩ => ex_l e12 sf11) ?_ ?_
    · rintro i v σ' H' hv ⟨y7, rfl, e12⟩
      unfold ntV at hv
      rw [List.getElem?_map] at hv
      obtain ⟨t, ht, rfl⟩ := Option.map_eq_some_iff.mp hv
      obtain ⟨g1, g2⟩ := way.goes i t ht
      have hf2 : (ts.take (i + 1)).foldl ledN x = ledN ((ts.take i).foldl ledN x) t := by
        rw [List.take_add_one, ht, List.foldl_append]
        rfl
      rw [hf2]
      have ld : SpV sp_led13 [.int (((ts.take i).foldl ledN x : Nat) : Int), .int (t : Int), .int (m : Int)] H' (.int ((ledN ((ts.take i).foldl ledN x) t : Nat) : Int)) := spv_of fun H13 e13 Q E q => ⟨_, t, m, _, rfl, h10, g1, q⟩
      exact s_asg (v := .int ((ledN ((ts.take i).foldl ledN x) t : Nat) : Int)) (by (repeat' (first | with_reducible exact ev_c | ((with_reducible show Ev (tVar _) _ _ _); exact ev_var rfl) | with_reducible exact ea_nil | with_reducible exact eo_none | with_reducible refine' ea_cons ?_ ?_ | with_reducible refine' eo_some ?_ | with_reducible refine' ev_and2 ?_ ?_ | with_reducible refine' ev_or2 ?_ ?_ | with_reducible refine' ev_notV ?_ | with_reducible exact ru_I | with_reducible refine' ev_un ?_ ?_ | with_reducible exact rv_I0 | with_reducible exact rv_isN | with_reducible exact rv_notN | with_reducible refine' rv_I ?_ | with_reducible refine' rv_eq ?_ | with_reducible refine' rv_ne ?_ | with_reducible refine' ev_op ?_ ?_ ?_ | with_reducible refine' ev_chain2 ?_ ?_ ?_ ?_ ?_ | with_reducible refine' et_B ?_ | with_reducible refine' et_test ?_ | with_reducible refine' et_and2 ?_ ?_ | with_reducible refine' et_or2 ?_ ?_ | with_reducible refine' et_not ?_ | with_reducible refine' ev_call ?_ ?_ | with_reducible refine' ev_callS ?_ ?_ | with_reducible refine' ev_cb ?_ ?_ | with_reducible exact isi_bool (by assumption) | with_reducible exact isi_int (by assumption) | with_reducible exact isi_list (by assumption) | with_reducible exact rc_len (by assumption) | with_reducible exact rc_sum (by assumption) | with_reducible exact rc_abs | with_reducible exact isi_listL (by assumption) | with_reducible exact isi_intI | with_reducible exact isi_boolI | with_reducible exact rc_lenT (by assumption) | with_reducible exact isi_tup (by assumption) | with_reducible exact rv_eqL (by assumption) (by assumption) | with_reducible exact rv_neL (by assumption) (by assumption) | with_reducible exact rv_neT (by assumption) (by assumption) | with_reducible exact rv_ixL (by assumption) (by assumption) | with_reducible exact rv_ixT (by assumption) (by assumption) | with_reducible refine' ev_din ?_ ?_ (by assumption) | with_reducible refine' ev_dnotin ?_ ?_ (by assumption) | with_reducible refine' ev_dget ?_ ?_ (by assumption) (by assumption) | ((with_reducible show SpV _ _ _ _); assumption) | ((with_reducible show RV _ _ _ _ _); assumption) | ((with_reducible show RC _ _ _ _); assumption) | ((with_reducible show CDiv _ _); exact ⟨by omega, by omega⟩) | ((with_reducible show CMul _ _); first | exact .inl ⟨by omega, by omega⟩ | exact .inr ⟨by omega, by omega⟩) | ((with_reducible show CPow _ _); exact ⟨by omega, by omega, by first | decide | assumption | omega⟩) | ((with_reducible show (0 : Int) < _); omega) | ((with_reducible show (0 : Int) ≤ _); omega) | ((with_reducible show scal _ _ = true); rfl)))) fun H13 e13 => ⟨_, rfl, e12.trans e13⟩
    · rintro σ' H' ⟨y7, rfl, e12⟩
      rw [show (ntV ts).length = ts.length by simp [ntV], List.take_length, way.ends]
      refine s_ret (v := .bl (decide (V.int (o : Int) = V.int (o : Int)))) (by (repeat' (first | with_reducible exact ev_c | ((with_reducible show Ev (tVar _) _ _ _); exact ev_var rfl) | with_reducible exact ea_nil | with_reducible exact eo_none | with_reducible refine' ea_cons ?_ ?_ | with_reducible refine' eo_some ?_ | with_reducible refine' ev_and2 ?_ ?_ | with_reducible refine' ev_or2 ?_ ?_ | with_reducible refine' ev_notV ?_ | with_reducible exact ru_I | with_reducible refine' ev_un ?_ ?_ | with_reducible exact rv_I0 | with_reducible exact rv_isN | with_reducible exact rv_notN | with_reducible refine' rv_I ?_ | with_reducible refine' rv_eq ?_ | with_reducible refine' rv_ne ?_ | with_reducible refine' ev_op ?_ ?_ ?_ | with_reducible refine' ev_chain2 ?_ ?_ ?_ ?_ ?_ | with_reducible refine' et_B ?_ | with_reducible refine' et_test ?_ | with_reducible refine' et_and2 ?_ ?_ | with_reducible refine' et_or2 ?_ ?_ | with_reducible refine' et_not ?_ | with_reducible refine' ev_call ?_ ?_ | with_reducible refine' ev_callS ?_ ?_ | with_reducible refine' ev_cb ?_ ?_ | with_reducible exact isi_bool (by assumption) | with_reducible exact isi_int (by assumption) | with_reducible exact isi_list (by assumption) | with_reducible exact rc_len (by assumption) | with_reducible exact rc_sum (by assumption) | with_reducible exact rc_abs | with_reducible exact isi_listL (by assumption) | with_reducible exact isi_intI | with_reducible exact isi_boolI | with_reducible exact rc_lenT (by assumption) | with_reducible exact isi_tup (by assumption) | with_reducible exact rv_eqL (by assumption) (by assumption) | with_reducible exact rv_neL (by assumption) (by assumption) | with_reducible exact rv_neT (by assumption) (by assumption) | with_reducible exact rv_ixL (by assumption) (by assumption) | with_reducible exact rv_ixT (by assumption) (by assumption) | with_reducible refine' ev_din ?_ ?_ (by assumption) | with_reducible refine' ev_dnotin ?_ ?_ (by assumption) | with_reducible refine' ev_dget ?_ ?_ (by assumption) (by assumption) | ((with_reducible show SpV _ _ _ _); assumption) | ((with_reducible show RV _ _ _ _ _); assumption) | ((with_reducible show RC _ _ _ _); assumption) | ((with_reducible show CDiv _ _); exact ⟨by omega, by omega⟩) | ((with_reducible show CMul _ _); first | exact .inl ⟨by omega, by omega⟩ | exact .inr ⟨by omega, by omega⟩) | ((with_reducible show CPow _ _); exact ⟨by omega, by omega, by first | decide | assumption | omega⟩) | ((with_reducible show (0 : Int) < _); omega) | ((with_reducible show (0 : Int) ≤ _); omega) | ((with_reducible show scal _ _ = true); rfl)))) fun H13 e13 => ?_
      rw [decide_eq_true rfl]
      exact q H13

end TB

/-! ### the head's run -/
namespace TB
open PySem PySem.Spec PyProof.Rows L2 Evl
abbrev R : PySem.W.OpenRow := PySem.W.OpenLaw.row PySem.Challenge.rw_tossbook_k13_way
abbrev hk : PySem.W.Hook := hookM 5 fa fn ex
def ob (s : PySem.W.SharedT) : AlM := obsMG 5 fa fn ex (HandSHeadRun.getT s)
theorem ob_eq (s : PySem.W.SharedT) : ob s = hk.obs s.abs := obsMG_eq (HandSHeadRun.getT_eq s)
theorem run (w : World) : HandSHeadRun.RunEq R (PySem.W.view R.prog [22]) hk ob 4000 ((["TossError", "OutOfBounds", "is_whole", "within", "bits_of", "check_state", "states_ahead", "distances", "steps_from", "way", "_law_cell_at", "_law_mixed", "_law_size_by", "_law_spots_by", "_law_led", "_law_bits", "_law_moved", "_law_refused"] : List PySem.Str)) w := by
  intro os
  kernel_rfl
end TB

/-! ### the end -/
namespace TB
open PySem PySem.Spec PyProof.Rows L2 Evl
theorem ref_inj {a b : Addr} (h : (some (.ref a) : Option Value) = some (.ref b)) : a = b := by
  cases h
  rfl
theorem fn_cx0 {P : Program} {w : World} {K : PySem.W.Frag} {mg : Str → Option Value} {base : Heap} {k : Nat} {f : Addr} {fd : FuncData} {ps : List Str} {sp : Sp} (F : FnOk P w K mg base (L2.CX P w) k f fd ps sp) :
    FnOk P w K mg base CX0 k f fd ps (fun vs H Q _ => sp vs H Q (fun _ _ _ => False)) :=
  ⟨fun vs H Q E h => F.len vs H Q _ h, fun A outer s H args us vs Q E hr he hb hv hs => codeAny_mono (F.run A outer s H args us vs Q (fun _ _ _ => False) hr he hb hv hs) fun r s' hq => by
    cases r with
    | error e =>
      obtain ⟨_, _, _, _, _, _, _, _, _, _, _, _, z⟩ := (show L2.CX P w outer H s (fun _ _ _ => False) e s' from hq)
      exact z.elim
    | ok fl => cases fl <;> exact hq⟩
end TB
open PySem PySem.W PySem.Calls PyProof.Rows
theorem PySem.Challenge.cw_tossbook_k13_way_holds : PySem.Challenge.rw_tossbook_k13_way.Holds := by
  w_on; o_law
  refine HandSHeadRun.head_any (r := OpenLaw.row PySem.Challenge.rw_tossbook_k13_way) (q := view (OpenLaw.row PySem.Challenge.rw_tossbook_k13_way).prog [22]) (H := TB.hk) (ob := TB.ob) (M := 4000) (loose := (["TossError", "OutOfBounds", "is_whole", "within", "bits_of", "check_state", "states_ahead", "distances", "steps_from", "way", "_law_cell_at", "_law_mixed", "_law_size_by", "_law_spots_by", "_law_led", "_law_bits", "_law_moved", "_law_refused"] : List PySem.Str)) (d := HandSHeadRun.topDef (OpenLaw.row PySem.Challenge.rw_tossbook_k13_way).prog 22) (kwd := []) TB.ob_eq
    (by kernel_rfl) (fun s => by kernel_rfl) TB.run (by kernel_rfl) (by kernel_rfl) (by kernel_rfl) (by rfl) (by first | assumption | decide +kernel) (by decide +kernel) ⟨rfl, rfl, rfl, rfl, rfl, by decide +kernel⟩ ?hw ?hc
  case hw => w_witness2
  case hc =>
    refine L2.walk_ofE (l := PySem.Challenge.rw_tossbook_k13_way) (n := 63) (k := TB.lawLevel) (x := "_law_script") (CX := L2.CX0) rfl (by decide) (by kernel_rfl) ⟨rfl, by decide, by decide⟩ ?F (fun _ _ _ _ z => z)
    intro w mg fa h Y G hmg0
    obtain ⟨K, KX, c⟩ := Y
    have hmg : mg ("law" : PySem.Str) = some (.ref fa) := by
      have e : (HandSHeadRun.topDef (OpenLaw.row PySem.Challenge.rw_tossbook_k13_way).prog 22).name = ("law" : PySem.Str) := by kernel_rfl
      rw [← e]
      exact hmg0
    have T : TB.TXT K mg := ⟨⟨h, KX, G⟩, c⟩
    obtain ⟨f0, fd, g, bA, F⟩ := (TB.ok_law (P := (PySem.Challenge.rw_tossbook_k13_way).prog) (w := w) T).ex
    have ef : f0 = fa := TB.ref_inj (g.symm.trans hmg)
    subst ef
    exact ⟨K, fd, _, KX, fun s v => bA s [v] rfl, fun H a ns hl _ hS => TB.law_true H a ns hl hS, fun base _ _ => TB.fn_cx0 (F base)⟩
#print axioms PySem.Challenge.cw_tossbook_k13_way_holds


