import PyProof.Rows.All
import Wide.All
import OpenK.AllK
import Wide.FinOn
import KE.KStateDown
import HandS.ForMost
import HandS.ForExc
import HandS.ExcInit
import HandS.ExcField
import HandS.ExcIs
import HandS.TryMany
import HandS.IsInst
import HandS.Evl
import HandS.Defaults
import HandS.Flow
import HandS.Style
import HandS.SortInts
import HandS.Head0
import HandS.Head1
import HandS.Head2
import HandS.HeadEnd
import HandS.HeadHook1
import HandS.HeadHook2
import HandS.Zip
import HandS.SortRule
import HandS.Finally
import HandS.More
import HandS.Walk
import HandS.Deep
import KE.DataCmp
import KE.SortData
import PySem.Challenge.RW_tossbook_k14_all_patterns
set_option Elab.async false
set_option linter.all false
set_option maxRecDepth 100000
set_option maxHeartbeats 4000000

/-! ### the head's facts, calls by name, what raises -/
namespace TB
open PySem PySem.Spec PyProof.Rows L2 Evl

/-! the hook: the defs, the facts, one Bool more -/
abbrev AlM : Type := He.AlD × Bool
def obsMG (n : Nat) (fa : List He.Fa) (fn : List He.DefD) (ex : PySem.W.Frag → Bool) (g : Addr → Option Obj) : AlM :=
  (He.obsD fa fn (He.frG g (He.asD g n)), ex (He.frG g (He.asD g n)))
def SaysM (fa : List He.Fa) (fn : List He.DefD) (ex : PySem.W.Frag → Bool) (K : PySem.W.Frag) : Prop := He.SaysD fa fn K ∧ ex K = true
def hookM (n : Nat) (fa : List He.Fa) (fn : List He.DefD) (ex : PySem.W.Frag → Bool) : PySem.W.Hook where
  α := AlM
  obs := fun s => obsMG n fa fn ex s.heap.get?
  val := fun _ => (He.valD fn, true)
  says := fun _ h => ∃ K : PySem.W.Frag, K.In h ∧ SaysM fa fn ex K
  of := fun _ _ e => ⟨_, He.frG_in, congrArg (fun z : AlM => z.1) e, congrArg (fun z : AlM => z.2) e⟩
  keeps := fun _ _ _ ⟨K, hK, c⟩ k => ⟨K, PySem.W.Frag.In.keeps hK k, c⟩
theorem obsMG_eq {n : Nat} {fa : List He.Fa} {fn : List He.DefD} {ex : PySem.W.Frag → Bool} {g : Addr → Option Obj} {s : Shared} (h : ∀ a, g a = s.heap.get? a) : obsMG n fa fn ex g = (hookM n fa fn ex).obs s := by
  have e : g = s.heap.get? := funext h
  rw [e] <;> rfl

/-- what the walk asks of the top -/
structure TX (fa : List He.Fa) (fn : List He.DefD) (ex : PySem.W.Frag → Bool) (K : PySem.W.Frag) (mg : Str → Option Value) : Prop where
  kx : ∃ h : Heap, K.In h ∧ h.Ns mainGlobals mg
  c : SaysM fa fn ex K
section
variable {fa : List He.Fa} {fn : List He.DefD} {ex : PySem.W.Frag → Bool} {K : PySem.W.Frag} {mg : Str → Option Value}
theorem TX.fact (T : TX fa fn ex K mg) (i : Nat) {f : He.Fa} (h : fa[i]? = some f := by rfl) : f.ok K = true := T.c.1.fact i h
theorem TX.glo (T : TX fa fn ex K mg) (i : Nat) {x : Str} (h : fa[i]? = some (.glo x) := by rfl) : mg x = some (.ref (He.ga K x)) := by
  obtain ⟨h0, X, G⟩ := T.kx
  exact He.glo_ok X G (T.fact i h)
theorem TX.free (T : TX fa fn ex K mg) (i : Nat) {x : Str} (h : fa[i]? = some (.free x) := by rfl) : mg x = none := by
  obtain ⟨h0, X, G⟩ := T.kx
  exact He.free_ok X G (T.fact i h)
theorem TX.int (T : TX fa fn ex K mg) (i : Nat) {x : Str} {j : Int} (h : fa[i]? = some (.int x j) := by rfl) : ∃ t, mg x = some (.int j t) := by
  obtain ⟨h0, X, G⟩ := T.kx
  exact He.int_ok X G (T.fact i h)
theorem TX.str (T : TX fa fn ex K mg) (i : Nat) {x z : Str} (h : fa[i]? = some (.str x z) := by rfl) : ∃ t, mg x = some (.str z t) := by
  obtain ⟨h0, X, G⟩ := T.kx
  exact He.str_ok X G (T.fact i h)
theorem TX.def_ (T : TX fa fn ex K mg) (i : Nat) {d : He.DefD} (h : fn[i]? = some d := by rfl) : ∃ fd, FunD K d.name d.qual d.params d.body d.scope (d.dvs K) (d.kws K) (He.fAd K d.at_) fd := T.c.1.def_ i h
end

/-- a def of the top keeps its promise, and is called by its name -/
structure OK (P : Program) (w : World) (K : PySem.W.Frag) (mg : Str → Option Value) (base : Heap) (x : Str) (ps : List Str) (k : Nat) (sp : Sp) : Prop where
  ex : ∃ f fd, mg x = some (.ref f) ∧ PySem.W.keepIn K (.ref f) = true ∧ Binds K fd ps [] ∧ FnOk P w K mg base (L2.CX P w) k f fd ps sp ∧ ∀ (s : Shared) (us : List Value), us.length = ps.length → BindsTo s fd ⟨us, []⟩ (ps.zip us)
/-- the law's own def -/
structure OKL (P : Program) (w : World) (K : PySem.W.Frag) (mg : Str → Option Value) (x : Str) (ps : List Str) (k : Nat) (sp : Sp) : Prop where
  ex : ∃ f fd, mg x = some (.ref f) ∧ (∀ (s : Shared) (us : List Value), us.length = ps.length → BindsTo s fd ⟨us, []⟩ (ps.zip us)) ∧ ∀ base : Heap, FnOk P w K mg base (L2.CX P w) k f fd ps sp
section
variable {X : Cx} {k : Nat} {ps : List Str} {sp : Sp} {E : XK} {x : Str} {p pos : Pos} {e : Expr} {es : List Expr} {t : TA} {te : TE}
theorem pe_own (O : OK X.prog X.w X.K X.mg X.base x ps k sp) (hr : Room k X.A) (hg : Gl X x) (hx : Passes (L2.CX X.prog X.w) X E) (ha : PA X (e :: es) t)
    (hdb : (x == ("__debug__" : Str)) = false := by decide) (he : starEach (e :: es) X.env = (false, eval e X.env) :: starEach es X.env := by rfl) (hpl : (backTo pos (starEach es X.env)).any (·.1) = false := by rfl) :
    PE X (.Call (.Name x p) (e :: es) [] pos) (tCall sp [] E t) := by
  obtain ⟨f, fd, g, kp, b, F, _⟩ := O.ex
  exact pe_call F hr hg g kp b .nil hx ha hdb he hpl
theorem pe_own0 (O : OK X.prog X.w X.K X.mg X.base x [] k sp) (hr : Room k X.A) (hg : Gl X x) (hx : Passes (L2.CX X.prog X.w) X E)
    (hdb : (x == ("__debug__" : Str)) = false := by decide) :
    PE X (.Call (.Name x p) [] [] pos) (tCall sp [] E tNil) := by
  obtain ⟨f, fd, g, kp, b, F, _⟩ := O.ex
  exact pe_call0 F hr hg g kp b .nil hx hdb
theorem pe_ownS {E : L2.St → XK} (O : OK X.prog X.w X.K X.mg X.base x ps k sp) (hr : Room k X.A) (hg : Gl X x) (hx : ∀ σ, PassesAt (L2.CX X.prog X.w) X σ (E σ)) (ha : PA X (e :: es) t)
    (hdb : (x == ("__debug__" : Str)) = false := by decide) (he : starEach (e :: es) X.env = (false, eval e X.env) :: starEach es X.env := by rfl) (hpl : (backTo pos (starEach es X.env)).any (·.1) = false := by rfl) :
    PE X (.Call (.Name x p) (e :: es) [] pos) (tCallS sp E t) := by
  obtain ⟨f, fd, g, kp, b, F, _⟩ := O.ex
  exact pe_callS F hr hg g kp b hx ha hdb he hpl
theorem pe_gi {i : Int} (h : ∃ t, X.mg x = some (.int i t)) (hg : Gl X x := by rfl) (hd : (x == ("__debug__" : Str)) = false := by decide) : PE X (.Name x pos) (tC (.int i)) := by
  obtain ⟨t, h⟩ := h
  exact pe_glob hg h ⟨t, rfl⟩ hd
theorem pe_gs {z : Str} (h : ∃ t, X.mg x = some (.str z t)) (hg : Gl X x := by rfl) (hd : (x == ("__debug__" : Str)) = false := by decide) : PE X (.Name x pos) (tC (.str z)) := by
  obtain ⟨t, h⟩ := h
  exact pe_glob hg h ⟨t, rfl⟩ hd
/-- a built-in class as a value -/
theorem pe_ty {T : String} (hm : X.mg x = none) (hv : bootBuiltins x = some (.type T)) (hg : Gl X x := by rfl) (hn : x ≠ "__name__" := by decide) (hd : (x == ("__debug__" : Str)) = false := by decide) : PE X (.Name x pos) (tC (.ty T)) :=
  pe_bltn hg hm hv rfl hn hd
/-- an own class, an own def as a value -/
theorem pe_cls {C : Addr} (hm : X.mg x = some (.ref C)) (hg : Gl X x := by rfl) (hd : (x == ("__debug__" : Str)) = false := by decide) : PE X (.Name x pos) (tC (.ref C)) :=
  pe_glob hg hm rfl hd
end

/-! ### what leaves by an exception -/
def Rz (te : TE) (σ : L2.St) (H : Hp) : Prop := ∀ H1, Ex H H1 → ∀ Q : VK, te σ H1 Q
def RzT (tt : TT) (σ : L2.St) (H : Hp) : Prop := ∀ H1, Ex H H1 → ∀ Q : Bool → Hp → Prop, tt σ H1 Q
def RzA (ta : TA) (σ : L2.St) (H : Hp) : Prop := ∀ H1, Ex H H1 → ∀ Q : List V → Hp → Prop, ta σ H1 Q
section
variable {σ : L2.St} {H H' : Hp} {ta tb te tx : TE} {t u : TT} {x y z v : V} {r : R2} {D : Ends} {tu tw tz : TS} {g : TG}
theorem Rz.mono (e : Ex H H') (h : Rz te σ H) : Rz te σ H' := fun H1 a Q => h H1 (e.trans a) Q
theorem rz_call {sp : Sp} {dvs vs : List V} {E : XK} {ta : TA} (h : EvA ta σ H vs) (hs : ∀ H1, Ex H H1 → ∀ Q : VK, sp (vs ++ dvs) H1 Q E) : Rz (tCall sp dvs E ta) σ H := fun H1 e Q =>
  h H1 e _ fun H2 e2 => hs H2 (e.trans e2) Q
theorem rz_callS {sp : Sp} {vs : List V} {E : L2.St → XK} {ta : TA} (h : EvA ta σ H vs) (hs : ∀ H1, Ex H H1 → ∀ Q : VK, sp vs H1 Q (E σ)) : Rz (tCallS sp E ta) σ H := fun H1 e Q =>
  h H1 e _ fun H2 e2 => hs H2 (e.trans e2) Q
theorem ev_callS {sp : Sp} {vs : List V} {E : L2.St → XK} {ta : TA} (h : EvA ta σ H vs) (hs : SpV sp vs H z) : Ev (tCallS sp E ta) σ H z := fun H1 e Q q =>
  h H1 e _ fun H2 e2 => hs H2 (e.trans e2) Q (fun H3 e3 => q H3 (e2.trans e3)) (E σ)
theorem el_callS {sp : Sp} {vs xs : List V} {E : L2.St → XK} {ta : TA} (h : EvA ta σ H vs) (hs : SpL sp vs H xs) : EvL (tCallS sp E ta) σ H xs := fun H1 e Q q =>
  h H1 e _ fun H2 e2 => hs H2 (e.trans e2) Q (fun p H3 hp e3 h3 => q p H3 (fresh_back e2 hp) (e2.trans e3) h3) (E σ)
theorem rz_op1 (h : Rz ta σ H) : Rz (tOp r ta tb) σ H := fun H1 e Q => h H1 e _
theorem rz_op2 (ha : Ev ta σ H x) (h : Rz tb σ H) : Rz (tOp r ta tb) σ H := fun H1 e Q => ha H1 e _ fun H2 e2 => h H2 (e.trans e2) _
theorem rz_un {r : V → Hp → VK → Prop} (h : Rz ta σ H) : Rz (tUn r ta) σ H := fun H1 e Q => h H1 e _
theorem rz_cons1 {tr : TA} (h : Rz ta σ H) : RzA (tCons ta tr) σ H := fun H1 e Q => h H1 e _
theorem rz_cons2 {tr : TA} (ha : Ev ta σ H x) (h : RzA tr σ H) : RzA (tCons ta tr) σ H := fun H1 e Q => ha H1 e _ fun H2 e2 => h H2 (e.trans e2) _
theorem rz_callA {sp : Sp} {dvs : List V} {E : XK} {ta : TA} (h : RzA ta σ H) : Rz (tCall sp dvs E ta) σ H := fun H1 e Q => h H1 e _
theorem rz_cbA {r : List V → Hp → VK → Prop} {ta : TA} (h : RzA ta σ H) : Rz (tCB r ta) σ H := fun H1 e Q => h H1 e _
theorem x_asg (h : Rz te σ H) : tAsg te g D σ H := h H (Ex.refl H) _
theorem x_drop (h : Rz te σ H) : tDrop te D σ H := h H (Ex.refl H) _
theorem x_ret (h : Rz te σ H) : tRet te D σ H := h H (Ex.refl H) _
theorem x_seq (h : ∀ D, tu D σ H) : tSeq tu tz D σ H := h _
theorem xq_asg (h : Rz te σ H) : tSeq (tAsg te g) tz D σ H := h H (Ex.refl H) _
theorem xq_drop (h : Rz te σ H) : tSeq (tDrop te) tz D σ H := h H (Ex.refl H) _
end
end TB

/-! ### exceptions by facts, kinds of values, steps -/
namespace TB
open PySem PySem.Spec PyProof.Rows L2 Evl
theorem units_of {A : Around} {k : Nat} (hr : Room k A) : A.units + 64 < cLine := by
  have h := hr.un
  omega
section
variable {X : Cx} {k : Nat} {x m : Str} {p p2 pos : Pos} {j : Nat}
/-- X('m'), an own class without __init__ -/
theorem pmk_ex (f : (He.Fa.exc x).ok X.K = true) (g : X.mg x = some (.ref (He.ga X.K x))) (hg : Gl X x := by rfl) (hdb : (x == ("__debug__" : Str)) = false := by decide) :
    PMk X (.Call (.Name x p) [.Constant (.str m) j p2] [] pos) (fun _ H Q => Q (.ref (He.ga X.K x)) none H) := by
  obtain ⟨e1, e2, e3, e4⟩ := He.exc_ok f
  exact pmk_own PySem.F.excBase_ValueError e1 g e2 (raises_own e3 e4) hg hdb
/-- what the head tells of an own exception class with an __init__ -/
def oexB (K : PySem.W.Frag) (C : Addr) : Bool := match K.lookup C with
  | some ⟨.type "type", _, .cls cd, sl⟩ => (match cd.mro, sl.toList with
    | .ref C' :: bm, [_, _, _, _, some (.builtin n), _] => C' == C && n == "ValueError.__new__" && !cd.hasDel && cd.hasDict && PySem.HandSPX.refsVE bm
    | _, _ => false)
  | _ => false
theorem oexB_ok {K : PySem.W.Frag} {C : Addr} (q : oexB K C = true) : ∃ nm q N bs bm sn sub ab col dd k0 k1 k2 k3 k5, K.lookup C = some (excClassObj nm q C N bs bm true sn sub ab col dd k0 k1 k2 k3 k5 "ValueError.__new__") ∧ PySem.HandSPX.refsVE bm = true := by
  unfold oexB at q
  split at q
  · rename_i dd cd sl ho
    split at q
    · rename_i C' bm k0 k1 k2 k3 n k5 hm hs
      simp only [Bool.and_eq_true, beq_iff_eq, Bool.not_eq_true'] at q
      obtain ⟨⟨⟨⟨rfl, rfl⟩, hdel⟩, hd⟩, ht⟩ := q
      obtain ⟨nm, bs, mro, ns, qn, hdi, sn, sub, ab, col, del⟩ := cd
      dsimp only at hm hdel hd
      subst hm hdel hd
      have hsl : sl = #[k0, k1, k2, k3, some (.builtin "ValueError.__new__"), k5] := by
        obtain ⟨l⟩ := sl
        simp only at hs
        rw [hs]
      subst hsl
      exact ⟨nm, qn, ns, bs, bm, sn, sub, ab, col, dd, k0, k1, k2, k3, k5, ho, ht⟩
    · cases q
  · cases q
def clashB (K : PySem.W.Frag) (C : Addr) : Bool := oexB K C && (xfB K C && (decide (PySem.W.findIn K (.ref C) "__setattr__" = some (some (.builtin "object.__setattr__"))) && (decide (PySem.W.typeIn K (.ref C) = some (.type "type")) && (PySem.W.keepIn K (.ref C) &&
  (decide (PySem.W.findIn K (.ref C) "__init__" = some (some (.ref (He.ma K C "__init__")))) && (decide (PySem.W.typeIn K (.ref (He.ma K C "__init__")) = some (.type "function")) && decide (PySem.W.findIn K (.ref C) "beats" = some none)))))))
structure ClashC (K : PySem.W.Frag) (C : Addr) : Prop where
  o : OexC K C
  x : XfC K C
  i : PySem.W.findIn K (.ref C) "__init__" = some (some (.ref (He.ma K C "__init__")))
  t : PySem.W.typeIn K (.ref (He.ma K C "__init__")) = some (.type "function")
  n : PySem.W.findIn K (.ref C) "beats" = some none
theorem clashB_ok {K : PySem.W.Frag} {C : Addr} (h : clashB K C = true) : ClashC K C := by
  obtain ⟨h1, h⟩ := Bool.and_eq_true_iff.mp h
  obtain ⟨h2, h⟩ := Bool.and_eq_true_iff.mp h
  obtain ⟨h3, h⟩ := Bool.and_eq_true_iff.mp h
  obtain ⟨h4, h⟩ := Bool.and_eq_true_iff.mp h
  obtain ⟨h5, h⟩ := Bool.and_eq_true_iff.mp h
  obtain ⟨h6, h⟩ := Bool.and_eq_true_iff.mp h
  obtain ⟨h7, h8⟩ := Bool.and_eq_true_iff.mp h
  have xf := xfB_ok h2
  exact ⟨⟨oexB_ok h1, of_decide_eq_true h3, xf.exC, of_decide_eq_true h4, h5⟩, xf, of_decide_eq_true h6, of_decide_eq_true h7, of_decide_eq_true h8⟩
/-- Clash(beats), by its own __init__ -/
structure OKE (P : Program) (w : World) (K : PySem.W.Frag) (mg : Str → Option Value) (base : Heap) (x : Str) (ps : List Str) (k : Nat) (sp : Sp) : Prop where
  ex : ∃ fd, ClashC K (He.ga K x) ∧ mg x = some (.ref (He.ga K x)) ∧ Binds K fd ps [] ∧ FnOk P w K mg base (L2.CX P w) k (He.ma K (He.ga K x) "__init__") fd ps sp
theorem passF {X : Cx} : Passes (L2.CX X.prog X.w) X (fun _ _ _ => False) := passL
theorem pmk_oexT {ps : List Str} {sp : Sp} {e : Expr} {es : List Expr} {ta : TA} (O : OKE X.prog X.w X.K X.mg X.base x ps k sp) (hr : Room (k + 1) X.A) (ha : PA X (e :: es) ta) (hg : Gl X x := by rfl) (hdb : (x == ("__debug__" : Str)) = false := by decide)
    (he : starEach (e :: es) X.env = (false, eval e X.env) :: starEach es X.env := by rfl) (hpl : (backTo pos (starEach es X.env)).any (·.1) = false := by rfl) :
    PMk X (.Call (.Name x p) (e :: es) [] pos) (tMkO (He.ga X.K x) sp [] ta) := by
  obtain ⟨fd, c, g, b, F⟩ := O.ex
  exact pmk_oex c.o c.i c.t F hr b .nil passF hg g ha hdb he hpl
end
/-! the kinds of values that the text knows -/
inductive Kd (H : Hp) : V → Prop where
  | non : Kd H .non
  | bl (b : Bool) : Kd H (.bl b)
  | int (i : Int) : Kd H (.int i)
  | str (z : Str) : Kd H (.str z)
  | lst {a : Addr} {xs : List V} (h : H a = some (.lst xs)) : Kd H (.ref a)
  | tup {a : Addr} {xs : List V} (h : H a = some (.tup xs)) : Kd H (.ref a)
theorem Kd.mono {H H' : Hp} {v : V} (e : Ex H H') (h : Kd H v) : Kd H' v := by
  cases h with
  | non => exact .non
  | bl b => exact .bl b
  | int i => exact .int i
  | str z => exact .str z
  | lst h => exact .lst (e _ _ h)
  | tup h => exact .tup (e _ _ h)
def isI : V → Bool
  | .int _ => true
  | _ => false
def isB : V → Bool
  | .bl _ => true
  | _ => false
theorem isi_int {K : PySem.W.Frag} {H : Hp} {v : V} (h : Kd H v) : RC (rIsi K) [v, .ty "int"] H (.bl (isI v || isB v)) := fun H1 e Q q => by
  have h1 := h.mono e
  cases h1 with
  | non => exact ⟨_, _, _, _, false, rfl, .ty _, .base .non, kit_ty (by decide +kernel), q H1 (Ex.refl H1)⟩
  | bl b => exact ⟨_, _, _, _, true, rfl, .ty _, .base (.bl b), kit_ty (by decide +kernel), q H1 (Ex.refl H1)⟩
  | int i => exact ⟨_, _, _, _, true, rfl, .ty _, .base (.int i), kit_ty (by decide +kernel), q H1 (Ex.refl H1)⟩
  | str z => exact ⟨_, _, _, _, false, rfl, .ty _, .base (.str z), kit_ty (by decide +kernel), q H1 (Ex.refl H1)⟩
  | lst z1 => exact ⟨_, _, _, _, false, rfl, .ty _, .base (.lst z1), kit_ty (by decide +kernel), q H1 (Ex.refl H1)⟩
  | tup z1 => exact ⟨_, _, _, _, false, rfl, .ty _, .base (.tup z1), kit_ty (by decide +kernel), q H1 (Ex.refl H1)⟩
theorem isi_bool {K : PySem.W.Frag} {H : Hp} {v : V} (h : Kd H v) : RC (rIsi K) [v, .ty "bool"] H (.bl (isB v)) := fun H1 e Q q => by
  have h1 := h.mono e
  cases h1 with
  | non => exact ⟨_, _, _, _, false, rfl, .ty _, .base .non, kit_ty (by decide +kernel), q H1 (Ex.refl H1)⟩
  | bl b => exact ⟨_, _, _, _, true, rfl, .ty _, .base (.bl b), kit_ty (by decide +kernel), q H1 (Ex.refl H1)⟩
  | int i => exact ⟨_, _, _, _, false, rfl, .ty _, .base (.int i), kit_ty (by decide +kernel), q H1 (Ex.refl H1)⟩
  | str z => exact ⟨_, _, _, _, false, rfl, .ty _, .base (.str z), kit_ty (by decide +kernel), q H1 (Ex.refl H1)⟩
  | lst z1 => exact ⟨_, _, _, _, false, rfl, .ty _, .base (.lst z1), kit_ty (by decide +kernel), q H1 (Ex.refl H1)⟩
  | tup z1 => exact ⟨_, _, _, _, false, rfl, .ty _, .base (.tup z1), kit_ty (by decide +kernel), q H1 (Ex.refl H1)⟩
/-- what is at v, if it is a list: its items -/
inductive Ls (H : Hp) : V → Option (List V) → Prop where
  | lst {a : Addr} {xs : List V} (h : H a = some (.lst xs)) : Ls H (.ref a) (some xs)
  | tup {a : Addr} {xs : List V} (h : H a = some (.tup xs)) : Ls H (.ref a) none
  | non : Ls H .non none
  | bl (b : Bool) : Ls H (.bl b) none
  | int (i : Int) : Ls H (.int i) none
  | str (z : Str) : Ls H (.str z) none
theorem Ls.mono {H H' : Hp} {v : V} {o : Option (List V)} (e : Ex H H') (h : Ls H v o) : Ls H' v o := by
  cases h with
  | lst h => exact .lst (e _ _ h)
  | tup h => exact .tup (e _ _ h)
  | non => exact .non
  | bl b => exact .bl b
  | int i => exact .int i
  | str z => exact .str z
theorem isi_list {K : PySem.W.Frag} {H : Hp} {v : V} {o : Option (List V)} (h : Ls H v o) : RC (rIsi K) [v, .ty "list"] H (.bl o.isSome) := fun H1 e Q q => by
  have h1 := h.mono e
  cases h1 with
  | lst z1 => exact ⟨_, _, _, _, true, rfl, .ty _, .base (.lst z1), kit_ty (by decide +kernel), q H1 (Ex.refl H1)⟩
  | tup z1 => exact ⟨_, _, _, _, false, rfl, .ty _, .base (.tup z1), kit_ty (by decide +kernel), q H1 (Ex.refl H1)⟩
  | non => exact ⟨_, _, _, _, false, rfl, .ty _, .base .non, kit_ty (by decide +kernel), q H1 (Ex.refl H1)⟩
  | bl b => exact ⟨_, _, _, _, false, rfl, .ty _, .base (.bl b), kit_ty (by decide +kernel), q H1 (Ex.refl H1)⟩
  | int i => exact ⟨_, _, _, _, false, rfl, .ty _, .base (.int i), kit_ty (by decide +kernel), q H1 (Ex.refl H1)⟩
  | str z => exact ⟨_, _, _, _, false, rfl, .ty _, .base (.str z), kit_ty (by decide +kernel), q H1 (Ex.refl H1)⟩
/-! the rules that name the written part, K said -/
section
variable {X : Cx}
theorem k_isi (K : PySem.W.Frag) (h : X.K = K := by rfl) : CallR X (.builtin "isinstance") (rIsi K) := by
  subst h
  exact call_isi
theorem k_isiT (K : PySem.W.Frag) (h : X.K = K := by rfl) : CallR X (.builtin "isinstance") (rIsiT K) := by
  subst h
  exact call_isiT
theorem k_len (K : PySem.W.Frag) (h : X.K = K := by rfl) : CallR X (.builtin "len") (rLenS K) := by
  subst h
  exact call_len_seq
theorem k_sum (K : PySem.W.Frag) (hc : X.calm = true) (h : X.K = K := by rfl) : CallR X (.builtin "sum") (rSum K) := by
  subst h
  exact cr_sum hc
theorem k_all (K : PySem.W.Frag) (hc : X.calm = true) (h : X.K = K := by rfl) : CallR X (.builtin "all") (rAll K) := by
  subst h
  exact cr_all hc
theorem k_any (K : PySem.W.Frag) (hc : X.calm = true) (h : X.K = K := by rfl) : CallR X (.builtin "any") (rAny K) := by
  subst h
  exact cr_any hc
theorem k_max (K : PySem.W.Frag) (hc : X.calm = true) (h : X.K = K := by rfl) : CallR X (.builtin "max") (rMax K) := by
  subst h
  exact cr_max hc
theorem k_min (K : PySem.W.Frag) (hc : X.calm = true) (h : X.K = K := by rfl) : CallR X (.builtin "min") (rMin K) := by
  subst h
  exact cr_min hc
theorem k_sorted (K : PySem.W.Frag) (h : X.K = K := by rfl) : CallR X (.builtin "sorted") (rSortedI K) := by
  subst h
  exact cr_sortedI
theorem k_list (K : PySem.W.Frag) (h : X.K = K := by rfl) : CallR X (.type "list") (rListS K) := by
  subst h
  exact call_list_of
theorem k_ixL (K : PySem.W.Frag) (h : X.K = K := by rfl) : IxR X (rIxL K) := by
  subst h
  exact ix_list
theorem k_ixT (K : PySem.W.Frag) (h : X.K = K := by rfl) : IxR X (rIxT K) := by
  subst h
  exact ix_tup
theorem k_in (K : PySem.W.Frag) (h : X.K = K := by rfl) : OpR X (compareOp .In) (rIn K false) := by
  subst h
  exact op_in_seq
theorem k_notIn (K : PySem.W.Frag) (h : X.K = K := by rfl) : OpR X (compareOp .NotIn) (rIn K true) := by
  subst h
  exact op_notIn_seq
theorem k_eqD (K : PySem.W.Frag) (hu : X.A.units + 64 < cLine) (h : X.K = K := by rfl) : OpR X (compareOp .Eq) (rEqD K) := by
  subst h
  exact op_eqD hu
theorem k_neD (K : PySem.W.Frag) (hu : X.A.units + 64 < cLine) (h : X.K = K := by rfl) : OpR X (compareOp .NotEq) (rNeD K) := by
  subst h
  exact op_neD hu
theorem k_slL (K : PySem.W.Frag) (h : X.K = K := by rfl) : SlR X (rSlL K) := by
  subst h
  exact sl_list
theorem k_piL (K : PySem.W.Frag) {tg l : Expr} {tl : TE} (hl : PE X l tl) (h : X.K = K := by rfl) : PI X tg l (iList K tl) := by
  subst h
  exact pi_list hl
theorem k_piT (K : PySem.W.Frag) {tg l : Expr} {tl : TE} (hl : PE X l tl) (h : X.K = K := by rfl) : PI X tg l (iTup K tl) := by
  subst h
  exact pi_tup hl
end
end TB

/-! ### what evaluates to what: further -/
namespace TB
open PySem PySem.Spec PyProof.Rows L2 Evl
def dInts (ns : List Int) : List PyData := ns.map PyData.int
theorem lay_ints : ∀ ns : List Int, PyData.canLayAll0 (dInts ns) = true
  | [] => rfl
  | n :: r => by
    show (PyData.canLay0 (.int n) && PyData.canLayAll0 (dInts r)) = true
    rw [lay_ints r]
    rfl
theorem dep_ints : ∀ ns : List Int, PyData.depthAll (dInts ns) = 0
  | [] => rfl
  | n :: r => by
    show max (PyData.depth (.int n)) (PyData.depthAll (dInts r)) = 0
    rw [dep_ints r]
    rfl
theorem shaped_list (ns : List Int) : SeqAt.shaped (.list (dInts ns)) = true := by
  show (PyData.canLayAll0 (dInts ns) && decide (PyData.depthAll (dInts ns) + 1 ≤ 64)) = true
  rw [lay_ints, dep_ints]
  rfl
theorem shaped_tuple (ns : List Int) : SeqAt.shaped (.tuple (dInts ns)) = true := by
  show (PyData.canLayAll0 (dInts ns) && decide (PyData.depthAll (dInts ns) + 1 ≤ 64)) = true
  rw [lay_ints, dep_ints]
  rfl
theorem eqvAll_ints : ∀ ns ms : List Int, PyData.eqvAll (dInts ns) (dInts ms) = decide (ns = ms)
  | [], [] => rfl
  | [], _ :: _ => rfl
  | _ :: _, [] => rfl
  | a :: r, b :: t => by
    show (PyData.eqv (.int a) (.int b) && PyData.eqvAll (dInts r) (dInts t)) = _
    rw [eqvAll_ints r t]
    show ((a == b) && decide (r = t)) = _
    rw [Bool.eq_iff_iff]
    simp
theorem eqv_list (ns ms : List Int) : PyData.eqv (.list (dInts ns)) (.list (dInts ms)) = decide (ns = ms) := by
  rw [← eqvAll_ints]
  rw [PyData.eqv]
theorem eqv_tuple (ns ms : List Int) : PyData.eqv (.tuple (dInts ns)) (.tuple (dInts ms)) = decide (ns = ms) := by
  rw [← eqvAll_ints]
  rw [PyData.eqv]
def RetU (xs : List V) (H : Hp) (Q : VK) : Prop := ∀ p H2, H p = none → Ex H H2 → H2 p = some (.tup xs) → Q (.ref p) H2
/-- what a def gives: a value, a new list, a new tuple, a refusal -/
inductive Re where
  | val (v : V)
  | lst (xs : List V)
  | tup (xs : List V)
  | err (x : Str)
  | clash (i j : Int)
def Give (K : PySem.W.Frag) (r : Re) (H : Hp) (Q : VK) (E : XK) : Prop := match r with
  | .val v => RetV v H Q
  | .lst xs => RetL xs H Q
  | .tup xs => RetU xs H Q
  | .err x => ∀ H2, Ex H H2 → E (.ref (He.ga K x)) none H2
  | .clash i j => ∀ H2 d p, H d = none → Ex H H2 → H2 d = some (.xd [(("beats" : Str), .ref p)]) → H2 p = some (.tup [.int i, .int j]) → E (.ref (He.ga K "Clash")) (some d) H2
section
variable {K : PySem.W.Frag} {σ : L2.St} {H H' : Hp} {ta tb tc te tl tx : TE} {t u : TT} {x y z v : V} {r r' : R2} {D : Ends} {tu tw tz : TS} {g : TG} {Q : VK} {E : XK}
theorem RetV.mono (e : Ex H H') (h : RetV v H Q) : RetV v H' Q := fun H2 e2 => h H2 (e.trans e2)
theorem RetL.mono {xs : List V} (e : Ex H H') (h : RetL xs H Q) : RetL xs H' Q := fun p H2 hp e2 h2 => h p H2 (fresh_back e hp) (e.trans e2) h2
theorem RetU.mono {xs : List V} (e : Ex H H') (h : RetU xs H Q) : RetU xs H' Q := fun p H2 hp e2 h2 => h p H2 (fresh_back e hp) (e.trans e2) h2
theorem Give.mono {r : Re} (e : Ex H H') (h : Give K r H Q E) : Give K r H' Q E := by
  cases r with
  | val v => exact RetV.mono e h
  | lst xs => exact RetL.mono e h
  | tup xs => exact RetU.mono e h
  | err x => exact fun H2 e2 => h H2 (e.trans e2)
  | clash i j => exact fun H2 d p hd e2 h1 h2 => h H2 d p (fresh_back e hd) (e.trans e2) h1 h2
theorem ev_chain {b c : Bool} (ha : Ev ta σ H x) (hb : Ev tb σ H y) (hr : RV r x y H (.bl b)) (hc : b = true → Ev tc σ H z) (hr' : b = true → RV r' y z H (.bl c)) : Ev (tChain r r' ta tb tc) σ H (.bl (b && c)) := fun H1 e Q q =>
  ha H1 e _ fun H2 e2 => hb H2 (e.trans e2) _ fun H3 e3 => hr H3 ((e.trans e2).trans e3) _ fun H4 e4 => ⟨b, rfl, by
    cases b with
    | true =>
      show tc σ H4 fun w' H4 => r' y w' H4 Q
      exact hc rfl H4 (((e.trans e2).trans e3).trans e4) _ fun H5 e5 => hr' rfl H5 ((((e.trans e2).trans e3).trans e4).trans e5) Q fun H6 e6 => q H6 ((((e2.trans e3).trans e4).trans e5).trans e6)
    | false =>
      show Q (.bl false) H4
      exact q H4 ((e2.trans e3).trans e4)⟩
theorem ev_and2 {a b : Bool} (h1 : Ev ta σ H (.bl a)) (h2 : Ev tb σ H (.bl b)) : Ev (tAndV ta tb) σ H (.bl (a && b)) := ev_andV h1 fun _ => h2
theorem ev_or2 {a b : Bool} (h1 : Ev ta σ H (.bl a)) (h2 : Ev tb σ H (.bl b)) : Ev (tOrV ta tb) σ H (.bl (a || b)) := ev_orV h1 fun _ => h2
theorem et_and2 {a b : Bool} (h1 : EvT t σ H a) (h2 : EvT u σ H b) : EvT (tAnd t u) σ H (a && b) := et_and h1 fun _ => h2
theorem et_or2 {a b : Bool} (h1 : EvT t σ H a) (h2 : EvT u σ H b) : EvT (tOr t u) σ H (a || b) := et_or h1 fun _ => h2
theorem ev_chain2 {b c : Bool} (ha : Ev ta σ H x) (hb : Ev tb σ H y) (hr : RV r x y H (.bl b)) (hc : Ev tc σ H z) (hr' : RV r' y z H (.bl c)) : Ev (tChain r r' ta tb tc) σ H (.bl (b && c)) := ev_chain ha hb hr (fun _ => hc) fun _ => hr'
/-- tests by truth -/
theorem et_tru {b : Bool} (h : Ev te σ H v) (ht : ∀ H1, Ex H H1 → TruV K v H1 b) : EvT (fun σ H Q => te σ H fun x H' => ∃ k, TruV K x H' k ∧ Q k H') σ H b := fun H1 e Q q =>
  h H1 e _ fun H2 e2 => ⟨b, ht H2 (e.trans e2), q H2 e2⟩
theorem rv_isN : RV (fun x y H Q => y = .non ∧ Q (.bl (decide (x = .non))) H) x .non H (.bl (decide (x = .non))) := fun H1 _ _ q => ⟨rfl, q H1 (Ex.refl H1)⟩
theorem rv_notN : RV (fun x y H Q => y = .non ∧ Q (.bl (!decide (x = .non))) H) x .non H (.bl (!decide (x = .non))) := fun H1 _ _ q => ⟨rfl, q H1 (Ex.refl H1)⟩
theorem ru_I {g : Int → V} {i : Int} : RU (rU g) (.int i) H (g i) := fun H1 _ _ q => ⟨i, rfl, q H1 (Ex.refl H1)⟩
/-- len of a list -/
theorem rc_len {p : Addr} {xs : List V} (h : SqL K H p xs) : RC (rLenS K) [.ref p] H (.int (xs.length : Int)) := fun H1 e _ q => ⟨p, xs, rfl, .inl (ex_l e h), q H1 (Ex.refl H1)⟩
theorem rc_lenT {p : Addr} {xs : List V} (h : SqT K H p xs) : RC (rLenS K) [.ref p] H (.int (xs.length : Int)) := fun H1 e _ q => ⟨p, xs, rfl, .inr (ex_t e h), q H1 (Ex.refl H1)⟩
theorem rc_sum {p : Addr} {ns : List Int} (h : SqL K H p (ns.map V.int)) : RC (rSum K) [.ref p] H (.int ns.sum) := fun H1 e _ q => ⟨p, ns, rfl, ex_l e h, q H1 (Ex.refl H1)⟩
theorem rc_abs {i : Int} : RC (fun xs H Q => ∃ i, xs = [.int i] ∧ Q (.int (if i < 0 then -i else i)) H) [.int i] H (.int (if i < 0 then -i else i)) := fun H1 _ _ q => ⟨i, rfl, q H1 (Ex.refl H1)⟩
theorem rcl_list {p : Addr} {xs : List V} (h : SqL K H p xs) : RCL (rListS K) [.ref p] H xs := fun H1 e _ q =>
  ⟨p, xs, rfl, .inl (ex_l e h), fun l hl => q l _ hl (Ex.new hl) upd_same⟩
theorem ev_all {bs : List Bool} (h : EvL te σ H (bs.map V.bl)) : Ev (tCB (rAll K) (tCons te tNil)) σ H (.bl (bs.all id)) := fun H1 e Q q =>
  h H1 e _ fun p H2 _ e2 h2 => ⟨p, bs, rfl, sq_of h2, q H2 e2⟩
theorem ev_any {bs : List Bool} (h : EvL te σ H (bs.map V.bl)) : Ev (tCB (rAny K) (tCons te tNil)) σ H (.bl (bs.any id)) := fun H1 e Q q =>
  h H1 e _ fun p H2 _ e2 h2 => ⟨p, bs, rfl, sq_of h2, q H2 e2⟩
theorem ev_sumN {ns : List Int} (h : EvL te σ H (ns.map V.int)) : Ev (tCB (rSum K) (tCons te tNil)) σ H (.int ns.sum) := fun H1 e Q q =>
  h H1 e _ fun p H2 _ e2 h2 => ⟨p, ns, rfl, sq_of h2, q H2 e2⟩
theorem et_yes : EvT tYes σ H true := fun H1 _ _ q => q H1 (Ex.refl H1)
theorem given_all (n : Nat) (v : Nat → V) : given n (fun _ => true) v = (List.range n).map v := by
  unfold given
  rw [List.filter_eq_self.mpr (fun _ _ => rfl)]
theorem given_map {xs : List V} {g : V → V} (v : Nat → V) (h : ∀ i x, xs[i]? = some x → v i = g x) : given xs.length (fun _ => true) v = xs.map g := by
  rw [given_all]
  apply List.ext_getElem
  · simp
  · intro i h1 h2
    simp only [List.getElem_map, List.getElem_range]
    have h3 : i < xs.length := by simpa using h2
    exact h i _ (List.getElem?_eq_getElem h3)
/-- [e for x in xs] -/
theorem el_map {a : Addr} {xs : List V} {j : Nat} {vs : List Nat} (g : V → V) (h : Ev tl σ H (.ref a)) (hx : SqL K H a xs) (hz : xs.length ≤ 40000) (hw : ∀ x, wipe ((wipe σ vs).set j (some x)) vs = wipe σ vs)
    (he : ∀ (x : V) H1, Ex H H1 → x ∈ xs → Ev te ((wipe σ vs).set j (some x)) H1 (g x)) :
    EvL (tLc (iList K tl) (gName j) tYes te vs) σ H (xs.map g) := by
  have q := el_lcL (te := te) (t := tYes) (fun _ => true) (fun i => g (xs.getD i .non)) h hx hz hw (fun _ _ _ _ _ => et_yes) (fun i x H1 e hi _ => by
    have e2 : xs.getD i .non = x := by
      rw [List.getD_eq_getElem?_getD, hi]
      rfl
    rw [e2]
    exact he x H1 e (List.mem_of_getElem? hi))
  rw [given_map (g := g) _ (fun i x hi => by
    have e2 : xs.getD i .non = x := by
      rw [List.getD_eq_getElem?_getD, hi]
      rfl
    rw [e2])] at q
  exact q
theorem el_mapT {a : Addr} {xs : List V} {j : Nat} {vs : List Nat} (gg : V → V) (h : Ev tl σ H (.ref a)) (hx : SqT K H a xs) (hz : xs.length ≤ 40000) (hw : ∀ x, wipe ((wipe σ vs).set j (some x)) vs = wipe σ vs)
    (he : ∀ (x : V) H1, Ex H H1 → x ∈ xs → Ev te ((wipe σ vs).set j (some x)) H1 (gg x)) :
    EvL (tLc (iTup K tl) (gName j) tYes te vs) σ H (xs.map gg) := fun H0 e Q q => h H0 e _ fun H1 e1 => ⟨a, rfl, ⟨xs, ex_t (e.trans e1) hx⟩, fun Dl hD =>
  lc_tup (xs := xs) (fun i H' => H1 Dl = none ∧ Ex H1 H' ∧ H' Dl = some (.lst ((xs.take i).map gg))) ⟨hD, Ex.new hD, by rw [upd_same]; rfl⟩ (fun i H' _ p => ex_t ((e.trans e1).trans p.2.1) hx) (fun i x H' hi p => ⟨hw x, by
    show te _ H' (fun y H4 => ∃ acc, H4 Dl = some (.lst acc) ∧ acc.length < sizeLine ∧ (H1 Dl = none ∧ Ex H1 (upd H4 Dl (.lst (acc ++ [y]))) ∧ (upd H4 Dl (.lst (acc ++ [y]))) Dl = some (.lst ((xs.take (i + 1)).map gg))))
    have hm := List.mem_of_getElem? hi
    have hil := (List.getElem?_eq_some_iff.mp hi).1
    refine he x H' ((e.trans e1).trans p.2.1) hm H' (Ex.refl H') _ fun H4 e4 => ⟨_, e4 _ _ p.2.2, sz_lt (by rw [List.length_map, List.length_take]; omega), p.1, Ex.mut (p.2.1.trans e4) p.1, ?_⟩
    rw [upd_same, List.take_add_one, hi, List.map_append]
    rfl⟩) (fun H' p => q Dl H' (fresh_back e1 p.1) (e1.trans p.2.1) (by
      have z := p.2.2
      rw [List.take_length] at z
      exact z))⟩
theorem isi_tup {a : Addr} {xs : List V} (h : H a = some (.tup xs)) : RC (rIsi K) [.ref a, .ty "tuple"] H (.bl true) := fun H1 e Q q =>
  ⟨_, _, _, _, true, rfl, .ty _, .base (.tup (e _ _ h)), kit_ty (by decide +kernel), q H1 (Ex.refl H1)⟩
theorem rv_eqD {d f : PyData} (h1 : ∀ H1, Ex H H1 → Dp K H1 x d) (h2 : ∀ H1, Ex H H1 → Dp K H1 y f) (s1 : SeqAt.shaped d = true) (s2 : SeqAt.shaped f = true) : RV (rEqD K) x y H (.bl (PyData.eqv d f)) := fun H1 e _ q => ⟨d, f, h1 H1 e, h2 H1 e, s1, s2, q H1 (Ex.refl H1)⟩
theorem rv_neD {d f : PyData} (h1 : ∀ H1, Ex H H1 → Dp K H1 x d) (h2 : ∀ H1, Ex H H1 → Dp K H1 y f) (s1 : SeqAt.shaped d = true) (s2 : SeqAt.shaped f = true) : RV (rNeD K) x y H (.bl (!PyData.eqv d f)) := fun H1 e _ q => ⟨d, f, h1 H1 e, h2 H1 e, s1, s2, q H1 (Ex.refl H1)⟩
theorem dp_ints : ∀ ns : List Int, DpAll K H (ns.map V.int) (dInts ns)
  | [] => .nil
  | n :: r => .cons (.int n) (dp_ints r)
theorem dp_list {a : Addr} {ns : List Int} (h : SqL K H a (ns.map V.int)) : ∀ H1, Ex H H1 → Dp K H1 (.ref a) (.list (dInts ns)) := fun H1 e => .lst (ex_l e h) (dp_ints ns)
theorem dp_tuple {a : Addr} {ns : List Int} (h : SqT K H a (ns.map V.int)) : ∀ H1, Ex H H1 → Dp K H1 (.ref a) (.tuple (dInts ns)) := fun H1 e => .tup (ex_t e h) (dp_ints ns)
/-- == and != of lists, of tuples of whole numbers -/
theorem rv_eqL {a b : Addr} {ns ms : List Int} (h1 : SqL K H a (ns.map V.int)) (h2 : SqL K H b (ms.map V.int)) : RV (rEqD K) (.ref a) (.ref b) H (.bl (decide (ns = ms))) := by
  have z := rv_eqD (dp_list h1) (dp_list h2) (shaped_list ns) (shaped_list ms)
  rw [eqv_list] at z
  exact z
theorem rv_neL {a b : Addr} {ns ms : List Int} (h1 : SqL K H a (ns.map V.int)) (h2 : SqL K H b (ms.map V.int)) : RV (rNeD K) (.ref a) (.ref b) H (.bl (!decide (ns = ms))) := by
  have z := rv_neD (dp_list h1) (dp_list h2) (shaped_list ns) (shaped_list ms)
  rw [eqv_list] at z
  exact z
theorem rv_neT {a b : Addr} {ns ms : List Int} (h1 : SqT K H a (ns.map V.int)) (h2 : SqT K H b (ms.map V.int)) : RV (rNeD K) (.ref a) (.ref b) H (.bl (!decide (ns = ms))) := by
  have z := rv_neD (dp_tuple h1) (dp_tuple h2) (shaped_tuple ns) (shaped_tuple ms)
  rw [eqv_tuple] at z
  exact z
/-- [e for k in range(n)] -/
theorem el_rng {ta : TA} {j : Nat} {vs : List Nat} {n : Int} (g : Nat → V) (h : EvA ta σ H [.int n]) (hn : 0 ≤ n ∧ n ≤ 40000) (hw : ∀ x, wipe ((wipe σ vs).set j (some x)) vs = wipe σ vs)
    (he : ∀ (i : Nat) H1, Ex H H1 → (i : Int) < n → Ev te ((wipe σ vs).set j (some (.int (i : Int)))) H1 (g i)) :
    EvL (tLc (iRng1 ta) (gName j) tYes te vs) σ H ((List.range n.toNat).map g) := by
  have q := el_lcR1 (te := te) (t := tYes) (fun _ => true) g h hn hw (fun _ _ _ _ => et_yes) (fun i H1 e hi _ => he i H1 e hi)
  rw [given_all] at q
  exact q
theorem el_filtR {ta : TA} {j : Nat} {vs : List Nat} {n : Int} (f : Nat → Bool) (g : Nat → V) (h : EvA ta σ H [.int n]) (hn : 0 ≤ n ∧ n ≤ 40000) (hw : ∀ x, wipe ((wipe σ vs).set j (some x)) vs = wipe σ vs)
    (ht : ∀ (i : Nat) H1, Ex H H1 → (i : Int) < n → EvT t ((wipe σ vs).set j (some (.int (i : Int)))) H1 (f i))
    (he : ∀ (i : Nat) H1, Ex H H1 → (i : Int) < n → f i = true → Ev te ((wipe σ vs).set j (some (.int (i : Int)))) H1 (g i)) :
    EvL (tLc (iRng1 ta) (gName j) t te vs) σ H (((List.range n.toNat).filter f).map g) := el_lcR1 f g h hn hw ht he
/-- what a call of an own def gives -/
theorem spv_of {sp : Sp} {vs : List V} (h : ∀ H1, Ex H H1 → ∀ (Q : VK) (E : XK), RetV z H1 Q → sp vs H1 Q E) : SpV sp vs H z := fun H1 e Q q E => h H1 e Q E q
theorem spl_of {sp : Sp} {vs xs : List V} (h : ∀ H1, Ex H H1 → ∀ (Q : VK) (E : XK), RetL xs H1 Q → sp vs H1 Q E) : SpL sp vs H xs := fun H1 e Q q E => h H1 e Q E q
/-- a call in the making of a tuple -/
def SpU (sp : Sp) (vs : List V) (H : Hp) (xs : List V) : Prop := ∀ H1, Ex H H1 → ∀ Q : VK, RetU xs H1 Q → ∀ E : XK, sp vs H1 Q E
theorem eu_call {sp : Sp} {dvs vs xs : List V} {E : XK} {ta : TA} (h : EvA ta σ H vs) (hs : SpU sp (vs ++ dvs) H xs) : EvU (tCall sp dvs E ta) σ H xs := fun H1 e Q q =>
  h H1 e _ fun H2 e2 => hs H2 (e.trans e2) Q (fun p H3 hp e3 h3 => q p H3 (fresh_back e2 hp) (e2.trans e3) h3) E
/-- a call that gives some new list, of which P holds -/
theorem q_relL {sp : Sp} {vs dvs : List V} {E : XK} {ta : TA} {i : Nat} {P : List Int → Prop} (h : EvA ta σ H vs) (hs : ∀ H1, Ex H H1 → ∀ (Q : VK) (E : XK), (∀ xs, P xs → RetL (xs.map V.int) H1 Q) → sp (vs ++ dvs) H1 Q E)
    (k : ∀ xs p H1, P xs → H p = none → Ex H H1 → H1 p = some (.lst (xs.map V.int)) → tz D (σ.set i (some (.ref p))) H1) : tSeq (tAsg (tCall sp dvs E ta) (gName i)) tz D σ H :=
  h H (Ex.refl H) _ fun H1 e1 => hs H1 e1 _ E fun xs hx p H2 hp e2 h2 => k xs p H2 hx (fresh_back e1 hp) (e1.trans e2) h2
/-- what follows a statement, shown once -/
theorem q_key {M : L2.St → Hp → Prop} (key : ∀ σ' H', M σ' H' → tz D σ' H') (h : (∀ σ' H', M σ' H' → tz D σ' H') → tSeq tu tz D σ H) : tSeq tu tz D σ H := h key
/-! dicts with whole keys -/
theorem ev_din {kvs : List (Key × V)} {a : Addr} {i : Int} {td ty : TE} (hy : Ev ty σ H (.int i)) (hd : Ev td σ H (.ref a)) (h : H a = some (.dK kvs)) : Ev (tDIn ty td) σ H (.bl (valV kvs (Sum.inl i)).isSome) := fun H1 e Q q =>
  hy H1 e _ fun H2 e2 => hd H2 (e.trans e2) _ fun H3 e3 => ⟨a, _, rfl, DGet.k (k := Sum.inl i) (((e.trans e2).trans e3) _ _ h), q H3 (e2.trans e3)⟩
theorem ev_dnotin {kvs : List (Key × V)} {a : Addr} {i : Int} {td ty : TE} (hy : Ev ty σ H (.int i)) (hd : Ev td σ H (.ref a)) (h : H a = some (.dK kvs)) : Ev (tDNotIn ty td) σ H (.bl (!(valV kvs (Sum.inl i)).isSome)) := fun H1 e Q q =>
  hy H1 e _ fun H2 e2 => hd H2 (e.trans e2) _ fun H3 e3 => ⟨a, _, rfl, DGet.k (k := Sum.inl i) (((e.trans e2).trans e3) _ _ h), q H3 (e2.trans e3)⟩
theorem ev_dget {kvs : List (Key × V)} {a : Addr} {i : Int} {td ty : TE} (hd : Ev td σ H (.ref a)) (hy : Ev ty σ H (.int i)) (h : H a = some (.dK kvs)) (hv : valV kvs (Sum.inl i) = some v) : Ev (tDGet td ty) σ H v := fun H1 e Q q =>
  hd H1 e _ fun H2 e2 => hy H2 (e.trans e2) _ fun H3 e3 => ⟨a, v, rfl, by
    have z := DGet.k (k := Sum.inl i) (((e.trans e2).trans e3) _ _ h)
    rw [hv] at z
    exact z, q H3 (e2.trans e3)⟩
theorem s_dput {kvs : List (Key × V)} {a : Addr} {i : Int} {td ty : TE} (h : H a = some (.dK kvs)) (hv : Ev te σ H v) (hd : Ev td σ H (.ref a)) (hy : Ev ty σ H (.int i)) (hz : kvs.length < 100000) (k : ∀ H1, Ex H H1 → D.nx σ (upd H1 a (.dK (putK kvs (Sum.inl i) v)))) :
    sDPut td ty te D σ H := hv H (Ex.refl H) _ fun H1 e1 => hd H1 e1 _ fun H2 e2 => hy H2 (e1.trans e2) _ fun H3 e3 => ⟨a, _, rfl, DPut.k (k := Sum.inl i) (((e1.trans e2).trans e3) _ _ h) (sz_lt hz), k H3 ((e1.trans e2).trans e3)⟩
theorem q_dput {kvs : List (Key × V)} {a : Addr} {i : Int} {td ty : TE} (h : H a = some (.dK kvs)) (hv : Ev te σ H v) (hd : Ev td σ H (.ref a)) (hy : Ev ty σ H (.int i)) (hz : kvs.length < 100000) (k : ∀ H1, Ex H H1 → tz D σ (upd H1 a (.dK (putK kvs (Sum.inl i) v)))) :
    tSeq (sDPut td ty te) tz D σ H := s_dput (D := { D with nx := tz D }) h hv hd hy hz k
/-- d = {} -/
theorem q_dnew {i : Nat} (k : ∀ p, H p = none → tz D (σ.set i (some (.ref p))) (upd H p (.dK []))) : tSeq (tAsg tDNewK (gName i)) tz D σ H := fun p hp => k p hp
/-- a tuple given back -/
theorem s_retU2 {xs : List V} {ta : TA} (h : EvA ta σ H xs) (hl : xs.length ≤ 100000) (k : RetU xs H D.rt) : tRet (tTup ta) D σ H := s_retU (eu_tup h hl) k
end
theorem atI_int {ns : List Int} {j : Nat} (h : j < ns.length) : atI (ns.map V.int) (j : Int) = some (.int (ns.getD j 0)) := by
  apply atI_nat
  rw [List.getElem?_map, List.getElem?_eq_getElem h, List.getD_eq_getElem?_getD, List.getElem?_eq_getElem h]
  rfl
end TB
namespace TB
open PySem PySem.Spec PyProof.Rows L2 Evl
section
variable {K : PySem.W.Frag} {σ : L2.St} {H H' : Hp} {te : TE} {tz : TS} {D : Ends}
/-- the greatest of a list -/
def mx : List Int → Int
  | [] => 0
  | x :: r => r.foldl max x
theorem foldl_max_ge : ∀ (r : List Int) (x : Int), x ≤ r.foldl max x ∧ ∀ y ∈ r, y ≤ r.foldl max x
  | [], x => ⟨Int.le_refl _, fun _ h => nomatch h⟩
  | a :: r, x => by
    obtain ⟨h1, h2⟩ := foldl_max_ge r (max x a)
    refine ⟨Int.le_trans (Int.le_max_left _ _) h1, fun y hy => ?_⟩
    rcases List.mem_cons.mp hy with rfl | hy
    · exact Int.le_trans (Int.le_max_right _ _) h1
    · exact h2 y hy
theorem foldl_max_mem : ∀ (r : List Int) (x : Int), r.foldl max x = x ∨ r.foldl max x ∈ r
  | [], x => .inl rfl
  | a :: r, x => by
    rcases foldl_max_mem r (max x a) with h | h
    · show r.foldl max (max x a) = x ∨ r.foldl max (max x a) ∈ a :: r
      rw [h]
      by_cases e : x ≤ a
      · rw [Int.max_eq_right e]
        exact .inr List.mem_cons_self
      · rw [Int.max_eq_left (by omega)]
        exact .inl rfl
    · exact .inr (List.mem_cons_of_mem _ h)
theorem mx_mem {l : List Int} (h : l ≠ []) : mx l ∈ l := by
  cases l with
  | nil => exact absurd rfl h
  | cons x r =>
    rcases foldl_max_mem r x with e | e
    · show r.foldl max x ∈ x :: r
      rw [e]
      exact List.mem_cons_self
    · exact List.mem_cons_of_mem _ e
theorem mx_ge {l : List Int} {y : Int} (h : y ∈ l) : y ≤ mx l := by
  cases l with
  | nil => cases h
  | cons x r =>
    obtain ⟨h1, h2⟩ := foldl_max_ge r x
    rcases List.mem_cons.mp h with rfl | h
    · exact h1
    · exact h2 y h
theorem mx_eq {l : List Int} {m : Int} (h1 : m ∈ l) (h2 : ∀ y, y ∈ l → y ≤ m) : m = mx l := by
  have ne : l ≠ [] := fun e => by
    rw [e] at h1
    cases h1
  have a := mx_ge h1
  have b := h2 _ (mx_mem ne)
  omega
theorem ev_maxN {ns : List Int} (h : EvL te σ H (ns.map V.int)) (h0 : 0 < ns.length) : Ev (tCB (rMax K) (tCons te tNil)) σ H (.int (mx ns)) := fun H1 e Q q =>
  h H1 e _ fun p H2 _ e2 h2 => ⟨p, ns, rfl, sq_of h2, h0, fun m hm hle => by
    rw [mx_eq hm hle]
    exact q H2 e2⟩
theorem rc_max {p : Addr} {ns : List Int} (h : SqL K H p (ns.map V.int)) (h0 : 0 < ns.length) : RC (rMax K) [.ref p] H (.int (mx ns)) := fun H1 e _ q => ⟨p, ns, rfl, ex_l e h, h0, fun m hm hle => by
  rw [mx_eq hm hle]
  exact q H1 (Ex.refl H1)⟩
/-- the greatest of what is beyond nothing is within -/
theorem mx_abs {ns : List Int} (h : ns ≠ []) (b : Int) : decide (b < mx (ns.map fun n => if n < 0 then -n else n)) = !(ns.all fun n => decide (-b ≤ n) && decide (n ≤ b)) := by
  rw [Bool.eq_iff_iff, decide_eq_true_iff, Bool.not_eq_true', List.all_eq_false]
  constructor
  · intro hb
    have hm := mx_mem (l := ns.map fun n => if n < 0 then -n else n) (by simpa using h)
    obtain ⟨n, hn, e⟩ := List.mem_map.mp hm
    refine ⟨n, hn, ?_⟩
    rw [← e] at hb
    simp only [Bool.and_eq_true, decide_eq_true_iff]
    split at hb <;> omega
  · rintro ⟨n, hn, hb⟩
    simp only [Bool.and_eq_true, decide_eq_true_iff] at hb
    have hg := mx_ge (List.mem_map.mpr ⟨n, hn, rfl⟩ : (if n < 0 then -n else n) ∈ ns.map fun n => if n < 0 then -n else n)
    split at hg <;> omega
/-- a call that gives some number, of which P holds -/
theorem q_relV {sp : Sp} {vs dvs : List V} {E : XK} {ta : TA} {i : Nat} {P : Int → Prop} (h : EvA ta σ H vs) (hs : ∀ H1, Ex H H1 → ∀ (Q : VK) (E : XK), (∀ x, P x → RetV (.int x) H1 Q) → sp (vs ++ dvs) H1 Q E)
    (k : ∀ x H1, P x → Ex H H1 → tz D (σ.set i (some (.int x))) H1) : tSeq (tAsg (tCall sp dvs E ta) (gName i)) tz D σ H :=
  h H (Ex.refl H) _ fun H1 e1 => hs H1 e1 _ E fun x hx H2 e2 => k x H2 hx (e1.trans e2)
theorem isi_listL {a : Addr} {xs : List V} (h : H a = some (.lst xs)) : RC (rIsi K) [.ref a, .ty "list"] H (.bl true) := fun H1 e Q q =>
  ⟨_, _, _, _, true, rfl, .ty _, .base (.lst (e _ _ h)), kit_ty (by decide +kernel), q H1 (Ex.refl H1)⟩
theorem isi_intI {i : Int} : RC (rIsi K) [.int i, .ty "int"] H (.bl true) := isi_int (.int i)
theorem isi_boolI {i : Int} : RC (rIsi K) [.int i, .ty "bool"] H (.bl false) := isi_bool (.int i)
end
theorem atI_lt {ns : List Int} {j : Int} (h0 : 0 ≤ j) (h : j < (ns.length : Int)) : atI (ns.map V.int) j = some (.int (ns.getD j.toNat 0)) := by
  have e : j = ((j.toNat : Nat) : Int) := by omega
  have z := atI_int (ns := ns) (j := j.toNat) (by omega)
  rw [← e] at z
  exact z
end TB
namespace TB
open PySem PySem.Spec PyProof.Rows L2 Evl
section
variable {K : PySem.W.Frag} {σ : L2.St} {H H' : Hp} {te tl : TE} {tz : TS} {D : Ends}
/-- [e for n in ns], whole numbers to whole numbers -/
theorem el_mapI {a : Addr} {ns : List Int} {j : Nat} {vs : List Nat} (f : Int → Int) (h : Ev tl σ H (.ref a)) (hx : SqL K H a (ns.map V.int)) (hz : ns.length ≤ 40000) (hw : ∀ x, wipe ((wipe σ vs).set j (some x)) vs = wipe σ vs)
    (he : ∀ (n : Int) H1, Ex H H1 → n ∈ ns → Ev te ((wipe σ vs).set j (some (.int n))) H1 (.int (f n))) : EvL (tLc (iList K tl) (gName j) tYes te vs) σ H ((ns.map f).map V.int) := by
  have z := el_map (K := K) (te := te) (tl := tl) (j := j) (vs := vs) (σ := σ) (H := H) (fun x => match x with | .int n => .int (f n) | _ => .non) h hx (by rw [List.length_map]; exact hz) hw (fun x H1 e hx => by
    obtain ⟨n, hn, rfl⟩ := List.mem_map.mp hx
    exact he n H1 e hn)
  rw [List.map_map] at z ⊢
  exact z
theorem el_rngI {ta : TA} {j : Nat} {vs : List Nat} {n : Nat} (f : Nat → Int) (h : EvA ta σ H [.int (n : Int)]) (hn : n ≤ 40000) (hw : ∀ x, wipe ((wipe σ vs).set j (some x)) vs = wipe σ vs)
    (he : ∀ (i : Nat) H1, Ex H H1 → i < n → Ev te ((wipe σ vs).set j (some (.int (i : Int)))) H1 (.int (f i))) : EvL (tLc (iRng1 ta) (gName j) tYes te vs) σ H (((List.range n).map f).map V.int) := by
  have z := el_rng (te := te) (j := j) (vs := vs) (σ := σ) (H := H) (fun i => .int (f i)) h (by omega) hw (fun i H1 e hi => he i H1 e (by omega))
  rw [List.map_map]
  exact z
end
end TB
namespace TB
open PySem PySem.Spec PyProof.Rows L2 Evl
section
variable {K : PySem.W.Frag} {σ : L2.St} {H H' : Hp} {t1 t2 : TE} {tz : TS} {D : Ends} {sp : Sp} {dvs xs ys : List V} {E : XK} {v z : V}
/-- calls of two arguments, new lists among them -/
theorem ev_cLL (h1 : EvL t1 σ H xs) (h2 : EvL t2 σ H ys) (hs : ∀ p r H1, H1 p = some (.lst xs) → H1 r = some (.lst ys) → Ex H H1 → SpV sp ([.ref p, .ref r] ++ dvs) H1 z) : Ev (tCall sp dvs E (tCons t1 (tCons t2 tNil))) σ H z := fun H1 e Q q =>
  h1 H1 e _ fun p H2 _ e2 g1 => h2 H2 (e.trans e2) _ fun r H3 _ e3 g2 => hs p r H3 (e3 _ _ g1) g2 ((e.trans e2).trans e3) H3 (Ex.refl H3) Q (fun H4 e4 => q H4 ((e2.trans e3).trans e4)) E
theorem ev_cLV (h1 : EvL t1 σ H xs) (h2 : Ev t2 σ H v) (hs : ∀ p H1, H1 p = some (.lst xs) → Ex H H1 → SpV sp ([.ref p, v] ++ dvs) H1 z) : Ev (tCall sp dvs E (tCons t1 (tCons t2 tNil))) σ H z := fun H1 e Q q =>
  h1 H1 e _ fun p H2 _ e2 g1 => h2 H2 (e.trans e2) _ fun H3 e3 => hs p H3 (e3 _ _ g1) ((e.trans e2).trans e3) H3 (Ex.refl H3) Q (fun H4 e4 => q H4 ((e2.trans e3).trans e4)) E
theorem ev_cVL (h1 : Ev t1 σ H v) (h2 : EvL t2 σ H ys) (hs : ∀ r H1, H1 r = some (.lst ys) → Ex H H1 → SpV sp ([v, .ref r] ++ dvs) H1 z) : Ev (tCall sp dvs E (tCons t1 (tCons t2 tNil))) σ H z := fun H1 e Q q =>
  h1 H1 e _ fun H2 e2 => h2 H2 (e.trans e2) _ fun r H3 _ e3 g2 => hs r H3 g2 ((e.trans e2).trans e3) H3 (Ex.refl H3) Q (fun H4 e4 => q H4 ((e2.trans e3).trans e4)) E
theorem ev_cL (h1 : EvL t1 σ H xs) (hs : ∀ p H1, H1 p = some (.lst xs) → Ex H H1 → SpV sp ([.ref p] ++ dvs) H1 z) : Ev (tCall sp dvs E (tCons t1 tNil)) σ H z := fun H1 e Q q =>
  h1 H1 e _ fun p H2 _ e2 g1 => hs p H2 g1 (e.trans e2) H2 (Ex.refl H2) Q (fun H4 e4 => q H4 (e2.trans e4)) E
/-- .. the second argument some number, of which P holds -/
theorem ev_cVR {sp2 : Sp} {dvs2 vs2 : List V} {E2 : XK} {ta : TA} {P : Int → Prop} (h1 : Ev t1 σ H v) (h2 : EvA ta σ H vs2) (hs2 : ∀ H1, Ex H H1 → ∀ (Q : VK) (E : XK), (∀ x, P x → RetV (.int x) H1 Q) → sp2 (vs2 ++ dvs2) H1 Q E)
    (hs : ∀ x H1, P x → Ex H H1 → SpV sp ([v, .int x] ++ dvs) H1 z) : Ev (tCall sp dvs E (tCons t1 (tCons (tCall sp2 dvs2 E2 ta) tNil))) σ H z := fun H1 e Q q =>
  h1 H1 e _ fun H2 e2 => h2 H2 (e.trans e2) _ fun H3 e3 => hs2 H3 ((e.trans e2).trans e3) _ E2 fun x hx H4 e4 => hs x H4 hx (((e.trans e2).trans e3).trans e4) H4 (Ex.refl H4) Q (fun H5 e5 => q H5 (((e2.trans e3).trans e4).trans e5)) E
end
end TB
/-! isinstance asked of the caught exception -/
namespace TB
open PySem PySem.Spec PyProof.Rows L2 Evl
def excB (K : PySem.W.Frag) (D : Addr) : Bool := decide (PySem.W.findIn K (.ref D) "__getattribute__" = some (some (.builtin "BaseException.__getattribute__"))) && (decide (PySem.W.findIn K (.ref D) "__getattr__" = some none) && (decide (PySem.W.subIn K (.ref D) (.type "BaseException") = some true) && (PySem.W.hasDictIn K D &&
  (decide (PySem.W.findIn K (.ref D) "__class__" = some (some (.builtin "object.__class__"))) && (decide (PySem.W.specialIn K (.builtin "object.__class__") "__get__" = some (some (.builtin "getset_descriptor.__get__"))) && (decide (PySem.W.takesIn K (.builtin "object.__class__") = some true) && decide (PySem.W.mroIn K D (.type "object") = some true)))))))
theorem excB_ok {K : PySem.W.Frag} {D : Addr} (h : excB K D = true) : ExcC K D := by
  obtain ⟨h1, h⟩ := Bool.and_eq_true_iff.mp h
  obtain ⟨h2, h⟩ := Bool.and_eq_true_iff.mp h
  obtain ⟨h3, h⟩ := Bool.and_eq_true_iff.mp h
  obtain ⟨h4, h⟩ := Bool.and_eq_true_iff.mp h
  obtain ⟨h5, h⟩ := Bool.and_eq_true_iff.mp h
  obtain ⟨h6, h⟩ := Bool.and_eq_true_iff.mp h
  obtain ⟨h7, h8⟩ := Bool.and_eq_true_iff.mp h
  exact ⟨of_decide_eq_true h1, of_decide_eq_true h2, of_decide_eq_true h3, h4, of_decide_eq_true h5, of_decide_eq_true h6, of_decide_eq_true h7, of_decide_eq_true h8⟩
/-- the classes of refusals, each with what it is an instance of -/
def exB (K : PySem.W.Frag) (cs : List (Str × List (Str × Bool))) : Bool := cs.all fun r => excB K (He.ga K r.1) && ((r.2.all fun c => decide (PySem.W.kitOne K (.ref (He.ga K r.1)) (.ref (He.ga K c.1)) = some c.2)) && decide (PySem.W.kitOne K (.ref (He.ga K r.1)) (.type "ValueError") = some true))
theorem exB_row {K : PySem.W.Frag} {cs : List (Str × List (Str × Bool))} (h : exB K cs = true) (i : Nat) {r : Str × List (Str × Bool)} (hr : cs[i]? = some r) : ExcC K (He.ga K r.1) ∧ PySem.W.kitOne K (.ref (He.ga K r.1)) (.type "ValueError") = some true ∧ ∀ (j : Nat) (c : Str × Bool), r.2[j]? = some c → PySem.W.kitOne K (.ref (He.ga K r.1)) (.ref (He.ga K c.1)) = some c.2 := by
  have z := List.all_eq_true.mp h r (List.mem_of_getElem? hr)
  obtain ⟨h1, h2⟩ := Bool.and_eq_true_iff.mp z
  obtain ⟨h3, h4⟩ := Bool.and_eq_true_iff.mp h2
  exact ⟨excB_ok h1, of_decide_eq_true h4, fun j c hc => of_decide_eq_true (List.all_eq_true.mp h3 c (List.mem_of_getElem? hc))⟩
def rIsX (K : PySem.W.Frag) (cls : Value) (d : Option Addr) (a : Addr) : List V → Hp → VK → Prop := fun xs H Q => ∃ (D : Addr) (c : V) (cv : Value) (b : Bool), cls = .ref D ∧ d = none ∧ ExcC K D ∧ xs = [.ref a, c] ∧ ClsV c cv ∧ PySem.W.kitOne K (.ref D) cv = some b ∧ Q (.bl b) H
def rIsXT (K : PySem.W.Frag) (cls : Value) (d : Option Addr) (a : Addr) : List V → Hp → VK → Prop := fun xs H Q => ∃ (D tp : Addr) (cs : List V) (us : List Value) (b : Bool), cls = .ref D ∧ d = none ∧ ExcC K D ∧ xs = [.ref a, .ref tp] ∧ H tp = some (.tup cs) ∧ Paired ClsV cs us ∧ PySem.W.kitAny K (.ref D) us = some b ∧ Q (.bl b) H
section
variable {X : Cx} {a : Addr} {oe : Obj} {cls : Value} {d : Option Addr} {pn : List (Addr × Obj)}
theorem isX (hz : Zc cls d oe) (hf : ∃ vs, oe.data = .fields vs) : CallR (X.suite a ((a, oe) :: pn)) (.builtin "isinstance") (rIsX X.K cls d a) := by
  intro pins s σ H xs us Q I r h
  obtain ⟨D, c, cv, b, rfl, rfl, C, rfl, hc, e, q⟩ := h
  exact call_isE C hz hf pins s σ H _ us Q I r ⟨c, cv, b, rfl, fun u k => hc.eq k, e, q⟩
theorem isXT (hz : Zc cls d oe) (hf : ∃ vs, oe.data = .fields vs) : CallR (X.suite a ((a, oe) :: pn)) (.builtin "isinstance") (rIsXT X.K cls d a) := by
  intro pins s σ H xs us Q I r h
  obtain ⟨D, tp, cs, ws, b, rfl, rfl, C, rfl, hT, k, e, q⟩ := h
  obtain ⟨u1, u2, rfl, r1, r2⟩ := vals2 r
  cases (show u2 = Value.ref tp from r2)
  cases (show u1 = Value.ref a from r1)
  obtain ⟨hget, _⟩ := I.pin (a, oe) (List.mem_append.mpr (.inl List.mem_cons_self))
  obtain ⟨vs, hv⟩ := hf
  have J : PySem.W.InstAt s.heap a oe D none := by
    obtain ⟨oc, od, oda, osl⟩ := oe
    obtain ⟨h1, h2⟩ := hz
    dsimp only at h1 h2 hv
    subst h1 h2 hv
    exact ⟨hget, rfl, rfl, trivial⟩
  obtain ⟨_, its, rv, o, h1, h2, n, h3⟩ := (show ObjOk X.prog X.w H s.heap tp (.tup cs) from I.hok tp _ hT)
  have e3 := ClsV.all k rv
  subst e3
  obtain ⟨oc, od, dt, sl⟩ := o
  simp only at h2 h3
  subst h2 h3
  exact PySem.W.kia_tup (PySem.W.handS_kitx_exc C.hg C.hk C.hs C.hd C.ha C.hn C.ht C.hm) I.kIn J h1 e (fun z => nomatch z) fun tk => ⟨.bl b, H, I.kept (t' := tk) fun _ _ z => z, rfl, q⟩
end
section
variable {K : PySem.W.Frag} {σ : L2.St} {H H' : Hp} {te tl : TE}
/-- isinstance(e, c) -/
theorem rc_isX {D a : Addr} {c : V} {cv : Value} {b : Bool} (C : ExcC K D) (hc : ClsV c cv) (e : PySem.W.kitOne K (.ref D) cv = some b) : RC (rIsX K (.ref D) none a) [.ref a, c] H (.bl b) := fun H1 _ Q q => ⟨D, c, cv, b, rfl, rfl, C, rfl, hc, e, q H1 (Ex.refl H1)⟩
theorem rc_isXT {D a tp : Addr} {cs : List V} {us : List Value} {b : Bool} (C : ExcC K D) (h : H tp = some (.tup cs)) (hc : Paired ClsV cs us) (e : PySem.W.kitAny K (.ref D) us = some b) : RC (rIsXT K (.ref D) none a) [.ref a, .ref tp] H (.bl b) := fun H1 e1 Q q => ⟨D, tp, cs, us, b, rfl, rfl, C, rfl, e1 _ _ h, hc, e, q H1 (Ex.refl H1)⟩
/-- a built-in call of two arguments, the second a new tuple -/
theorem ev_cbU {r : List V → Hp → VK → Prop} {t1 t2 : TE} {v z : V} {xs : List V} (h1 : Ev t1 σ H v) (h2 : EvU t2 σ H xs) (hs : ∀ p H1, H1 p = some (.tup xs) → Ex H H1 → RC r [v, .ref p] H1 z) : Ev (tCB r (tCons t1 (tCons t2 tNil))) σ H z := fun H1 e Q q =>
  h1 H1 e _ fun H2 e2 => h2 H2 (e.trans e2) _ fun p H3 _ e3 g2 => hs p H3 g2 ((e.trans e2).trans e3) H3 (Ex.refl H3) Q fun H4 e4 => q H4 ((e2.trans e3).trans e4)
/-- [e for x in xs if t], whole numbers -/
theorem el_filtL {a : Addr} {ns : List Int} {j : Nat} {vs : List Nat} {t : TT} (p : Int → Bool) (f : Int → Int) (h : Ev tl σ H (.ref a)) (hx : SqL K H a (ns.map V.int)) (hz : ns.length ≤ 40000) (hw : ∀ x, wipe ((wipe σ vs).set j (some x)) vs = wipe σ vs)
    (ht : ∀ (n : Int) H1, Ex H H1 → n ∈ ns → EvT t ((wipe σ vs).set j (some (.int n))) H1 (p n)) (he : ∀ (n : Int) H1, Ex H H1 → n ∈ ns → Ev te ((wipe σ vs).set j (some (.int n))) H1 (.int (f n))) : EvL (tLc (iList K tl) (gName j) t te vs) σ H (((ns.filter p).map f).map V.int) := by
  have at_ : ∀ (i : Nat) (x : V), (ns.map V.int)[i]? = some x → x = .int (ns.getD i 0) ∧ ns.getD i 0 ∈ ns := fun i x hi => by
    rw [List.getElem?_map] at hi
    cases hg : ns[i]? with
    | none => rw [hg] at hi; cases hi
    | some y =>
      rw [hg] at hi
      have e2 : ns.getD i 0 = y := by rw [List.getD_eq_getElem?_getD, hg]; rfl
      rw [e2]
      exact ⟨(Option.some.inj hi).symm, List.mem_of_getElem? hg⟩
  have z := el_lcL (K := K) (te := te) (t := t) (tl := tl) (j := j) (vs := vs) (σ := σ) (H := H) (fun i => p (ns.getD i 0)) (fun i => .int (f (ns.getD i 0))) h hx (by rw [List.length_map]; exact hz) hw (fun i x H1 e hi => by
    obtain ⟨rfl, hm⟩ := at_ i x hi
    exact ht _ H1 e hm) (fun i x H1 e hi _ => by
    obtain ⟨rfl, hm⟩ := at_ i x hi
    exact he _ H1 e hm)
  have e : given (ns.map V.int).length (fun i => p (ns.getD i 0)) (fun i => .int (f (ns.getD i 0))) = ((ns.filter p).map f).map V.int := by
    unfold given
    rw [List.length_map]
    have w : ns = (List.range ns.length).map fun i => ns.getD i 0 := by
      apply List.ext_getElem
      · simp
      · intro i h1 h2
        rw [List.getElem_map, List.getElem_range, List.getD_eq_getElem?_getD, List.getElem?_eq_getElem h1]
        rfl
    have w2 : ns.filter p = ((List.range ns.length).filter fun i => p (ns.getD i 0)).map fun i => ns.getD i 0 := by
      conv => lhs; rw [w]
      rw [List.filter_map]
      rfl
    rw [w2, List.map_map, List.map_map]
    rfl
  rw [e] at z
  exact z
end
end TB

namespace TB
open PySem PySem.Spec PyProof.Rows L2 Evl
def top (i : Nat) : Stmt := PySem.Challenge.pw_tossbook_k14_all_patterns.main.body.getD i (.Pass ⟨0, 0, 0, 0⟩)
abbrev s_is_whole : Stmt := (top 4)
abbrev s_within : Stmt := (top 5)
abbrev s_longer : Stmt := (top 7)
abbrev s_patterns : Stmt := (top 8)
abbrev s__law_cell_at : Stmt := (top 10)
abbrev s__law_mixed : Stmt := (top 11)
abbrev s__law_size_by : Stmt := (top 12)
abbrev s__law_spots_by : Stmt := (top 13)
abbrev s__law_whole : Stmt := (top 14)
abbrev s__law_fits : Stmt := (top 15)
abbrev s__law_power : Stmt := (top 16)
abbrev s__law_drawn : Stmt := (top 17)
abbrev s_law : Stmt := (top 18)
def fn : List He.DefD := [
  ⟨("is_whole", none), "is_whole", "is_whole", defArgs s_is_whole, defBody s_is_whole, defScope s_is_whole, [], []⟩,
  ⟨("within", none), "within", "within", defArgs s_within, defBody s_within, defScope s_within, [], []⟩,
  ⟨("longer", none), "longer", "longer", defArgs s_longer, defBody s_longer, defScope s_longer, [], []⟩,
  ⟨("patterns", none), "patterns", "patterns", defArgs s_patterns, defBody s_patterns, defScope s_patterns, [], []⟩,
  ⟨("_law_cell_at", none), "_law_cell_at", "_law_cell_at", defArgs s__law_cell_at, defBody s__law_cell_at, defScope s__law_cell_at, [], []⟩,
  ⟨("_law_mixed", none), "_law_mixed", "_law_mixed", defArgs s__law_mixed, defBody s__law_mixed, defScope s__law_mixed, [], []⟩,
  ⟨("_law_size_by", none), "_law_size_by", "_law_size_by", defArgs s__law_size_by, defBody s__law_size_by, defScope s__law_size_by, [], []⟩,
  ⟨("_law_spots_by", none), "_law_spots_by", "_law_spots_by", defArgs s__law_spots_by, defBody s__law_spots_by, defScope s__law_spots_by, [], []⟩,
  ⟨("_law_whole", none), "_law_whole", "_law_whole", defArgs s__law_whole, defBody s__law_whole, defScope s__law_whole, [], []⟩,
  ⟨("_law_fits", none), "_law_fits", "_law_fits", defArgs s__law_fits, defBody s__law_fits, defScope s__law_fits, [], []⟩,
  ⟨("_law_power", none), "_law_power", "_law_power", defArgs s__law_power, defBody s__law_power, defScope s__law_power, [], []⟩,
  ⟨("_law_drawn", none), "_law_drawn", "_law_drawn", defArgs s__law_drawn, defBody s__law_drawn, defScope s__law_drawn, [], []⟩,
  ⟨("law", none), "law", "law", defArgs s_law, defBody s_law, defScope s_law, [], []⟩]
def fa : List He.Fa := [.glo "is_whole", .glo "within", .glo "longer", .glo "patterns", .glo "_law_cell_at", .glo "_law_mixed", .glo "_law_size_by", .glo "_law_spots_by", .glo "_law_whole", .glo "_law_fits", .glo "_law_power", .glo "_law_drawn", .glo "law", .glo "TossError", .glo "OutOfBounds", .free "all", .free "bool", .free "int", .free "isinstance", .free "len", .free "list", .free "max", .free "min", .free "range", .free "sorted", .free "sum", .exc "TossError", .exc "OutOfBounds"]
def exs : List (Str × List (Str × Bool)) := []
def ex (K : PySem.W.Frag) : Bool := true && exB K exs
abbrev TXT (K : PySem.W.Frag) (mg : Str → Option Value) : Prop := TX fa fn ex K mg
theorem tx_exs {K : PySem.W.Frag} {mg : Str → Option Value} (T : TXT K mg) : exB K exs = true := (Bool.and_eq_true_iff.mp T.c.2).2
end TB


/-! ### all patterns, as data -/
namespace TB
open PySem PySem.Spec PyProof.Rows
abbrev It := List Nat × Nat × Nat
def longT (l : Nat) (it : It) (t : Nat) : Option It := if it.2.1 / 2 ^ ((it.1.length + t) % l) % 2 = 0 ∧ (it.1.length + 1 < l ∨ t = it.2.2) then some (it.1 ++ [t], it.2.1 ||| 2 ^ ((it.1.length + t) % l), it.2.2 - t) else none
def longN (l : Nat) (it : It) : List It := (List.range (it.2.2 + 1)).filterMap (longT l it)
def begunN (l b : Nat) : Nat → List It
  | 0 => [([], 0, b * l)]
  | i + 1 => (begunN l b i).flatMap (longN l)
def patN (l b : Nat) : List (List Nat) := (begunN l b l).map (·.1)
def landN (l : Nat) (r : List Nat) (k : Nat) : Nat := (k + r.getD k 0) % l
theorem sum_take {r : List Nat} {i : Nat} (h : i < r.length) : (r.take (i + 1)).sum = (r.take i).sum + r.getD i 0 := by
  rw [List.take_add_one, List.sum_append, List.getD_eq_getElem?_getD, List.getElem?_eq_getElem h]
  simp
theorem sum_take_le (r : List Nat) (i : Nat) : (r.take i).sum ≤ r.sum := by
  have e : r.sum = (r.take i).sum + (r.drop i).sum := by rw [← List.sum_append, List.take_append_drop]
  omega
theorem begun_mem {l b : Nat} {r : List Nat} (hl : r.length = l) (hs : r.sum = b * l) (hd : ∀ i j, i < l → j < l → landN l r i = landN l r j → i = j) :
    ∀ i, i ≤ l → ∃ m, (r.take i, m, b * l - (r.take i).sum) ∈ begunN l b i ∧ ∀ j, m.testBit j = true → ∃ k, k < i ∧ landN l r k = j
  | 0, _ => ⟨0, by simp [begunN], fun j h => by simp at h⟩
  | i + 1, hi => by
    obtain ⟨m, h1, h2⟩ := begun_mem hl hs hd i (by omega)
    have hlen : (r.take i).length = i := by rw [List.length_take]; omega
    have hir : i < r.length := by omega
    have st := sum_take hir
    have sl := sum_take_le r (i + 1)
    have land : (i + r.getD i 0) % l = landN l r i := rfl
    refine ⟨m ||| 2 ^ landN l r i, ?_, fun j hj => ?_⟩
    · unfold begunN
      rw [List.mem_flatMap]
      refine ⟨_, h1, ?_⟩
      unfold longN
      rw [List.mem_filterMap]
      refine ⟨r.getD i 0, List.mem_range.mpr (by dsimp only; omega), ?_⟩
      unfold longT
      dsimp only
      rw [hlen, land]
      have hb : m / 2 ^ landN l r i % 2 = 0 := by
        have hf : m.testBit (landN l r i) = false := by
          cases e : m.testBit (landN l r i) with
          | false => rfl
          | true =>
            obtain ⟨k, hk, ek⟩ := h2 _ e
            have := hd k i (by omega) (by omega) ek
            omega
        rw [Nat.testBit_eq_decide_div_mod_eq, decide_eq_false_iff_not] at hf
        omega
      have hc : i + 1 < l ∨ r.getD i 0 = b * l - (r.take i).sum := by
        rcases Nat.lt_or_ge (i + 1) l with c | c
        · exact .inl c
        · refine .inr ?_
          have e : r.take (i + 1) = r := List.take_of_length_le (by omega)
          rw [e] at st
          omega
      rw [if_pos ⟨hb, hc⟩]
      congr 2
      · rw [List.take_add_one, List.getD_eq_getElem?_getD, List.getElem?_eq_getElem hir]
        rfl
      · congr 1
        omega
    · rw [Nat.testBit_or, Bool.or_eq_true, Nat.testBit_two_pow, decide_eq_true_iff] at hj
      rcases hj with hj | hj
      · obtain ⟨k, hk, ek⟩ := h2 j hj
        exact ⟨k, by omega, ek⟩
      · exact ⟨i, by omega, hj⟩
theorem pat_mem {l b : Nat} {r : List Nat} (hl : r.length = l) (hs : r.sum = b * l) (hd : ∀ i j, i < l → j < l → landN l r i = landN l r j → i = j) : r ∈ patN l b := by
  obtain ⟨m, h, _⟩ := begun_mem hl hs hd l (Nat.le_refl _)
  rw [List.take_of_length_le (by omega)] at h
  exact List.mem_map.mpr ⟨_, h, rfl⟩
/-! the order of lists -/
def ltB : List Nat → List Nat → Bool
  | _, [] => false
  | [], _ :: _ => true
  | x :: xs, y :: ys => if x = y then ltB xs ys else decide (x < y)
def ascB : List (List Nat) → Bool
  | x :: y :: r => ltB x y && ascB (y :: r)
  | _ => true
theorem asc_at : ∀ {l : List (List Nat)} {k : Nat} {x y : List Nat}, ascB l = true → l[k]? = some x → l[k + 1]? = some y → ltB x y = true
  | [], k, x, y, _, h, _ => by simp at h
  | [a], k, x, y, _, _, h => by simp at h
  | a :: c :: r, 0, x, y, h, h1, h2 => by
    unfold ascB at h
    rw [Bool.and_eq_true] at h
    simp at h1 h2
    subst h1 h2
    exact h.1
  | a :: c :: r, k + 1, x, y, h, h1, h2 => by
    unfold ascB at h
    rw [Bool.and_eq_true] at h
    exact asc_at (l := c :: r) h.2 (by simpa using h1) (by simpa using h2)
theorem lt_of_ltB : ∀ {xs ys : List Nat}, ltB xs ys = true → xs.map (fun k : Nat => (k : Int)) < ys.map (fun k : Nat => (k : Int))
  | _, [], h => by cases ‹List Nat› <;> simp [ltB] at h
  | [], y :: ys, _ => by simp
  | x :: xs, y :: ys, h => by
    unfold ltB at h
    rw [List.map_cons, List.map_cons, List.cons_lt_cons_iff]
    split at h
    · rename_i e
      exact .inr ⟨by rw [e], lt_of_ltB h⟩
    · have := of_decide_eq_true h
      exact .inl (by omega)
def fitB (l b : Nat) (r : List Nat) : Bool := decide (r.length = l) && (decide (r.sum = b * l) && (List.range l).isPerm ((List.range l).map (landN l r)))
def sizeB (l b : Nat) : Bool := (List.range (l + 1)).all fun i => decide ((begunN l b i).length ≤ 1000)
def goodB (l b : Nat) : Bool := sizeB l b && (decide ((patN l b).length + b ^ l = (b + 1) ^ l) && ((patN l b).all (fitB l b) && ascB (patN l b)))
theorem good_all : ((List.range 4).all fun l => (List.range 4).all fun b => goodB (l + 1) b) = true := by decide +kernel
theorem good_more : ((List.range 6).all fun l => (List.range 3).all fun b => goodB (l + 1) b) = true := by decide +kernel
structure GoodP (l b : Nat) : Prop where
  size : ∀ i, i ≤ l → (begunN l b i).length ≤ 1000
  count : (patN l b).length + b ^ l = (b + 1) ^ l
  fits : ∀ r ∈ patN l b, r.length = l ∧ r.sum = b * l ∧ (List.range l).Perm ((List.range l).map (landN l r))
  asc : ascB (patN l b) = true
theorem good_of {l b : Nat} (h : goodB l b = true) : GoodP l b := by
  unfold goodB at h
  rw [Bool.and_eq_true, Bool.and_eq_true, Bool.and_eq_true, decide_eq_true_iff] at h
  obtain ⟨h1, h2, h3, h4⟩ := h
  refine ⟨fun i hi => ?_, h2, fun r hr => ?_, h4⟩
  · unfold sizeB at h1
    exact of_decide_eq_true (List.all_eq_true.mp h1 i (List.mem_range.mpr (by omega)))
  · have z := List.all_eq_true.mp h3 r hr
    unfold fitB at z
    rw [Bool.and_eq_true, Bool.and_eq_true, decide_eq_true_iff, decide_eq_true_iff] at z
    exact ⟨z.1, z.2.1, List.isPerm_iff.mp z.2.2⟩
theorem good_pair {l b : Nat} (h : (1 ≤ l ∧ l ≤ 4 ∧ b ≤ 3) ∨ (1 ≤ l ∧ l ≤ 6 ∧ b ≤ 2)) : GoodP l b := by
  rcases h with ⟨h1, h2, h3⟩ | ⟨h1, h2, h3⟩
  · have z := List.all_eq_true.mp (List.all_eq_true.mp good_all (l - 1) (List.mem_range.mpr (by omega))) b (List.mem_range.mpr (by omega))
    rw [show l - 1 + 1 = l by omega] at z
    exact good_of z
  · have z := List.all_eq_true.mp (List.all_eq_true.mp good_more (l - 1) (List.mem_range.mpr (by omega))) b (List.mem_range.mpr (by omega))
    rw [show l - 1 + 1 = l by omega] at z
    exact good_of z
/-- what is left never grows -/
theorem begun_ok {l b : Nat} : ∀ {i : Nat} {it : It}, it ∈ begunN l b i → it.1.length = i ∧ it.2.2 ≤ b * l ∧ (0 < l → it.2.1 < 2 ^ l)
  | 0, it, h => by
    simp [begunN] at h
    subst h
    exact ⟨rfl, Nat.le_refl _, fun _ => Nat.two_pow_pos _⟩
  | i + 1, it, h => by
    unfold begunN at h
    obtain ⟨it0, h0, h1⟩ := List.mem_flatMap.mp h
    obtain ⟨a1, a2, a3⟩ := begun_ok h0
    unfold longN at h1
    obtain ⟨t, ht, e⟩ := List.mem_filterMap.mp h1
    unfold longT at e
    split at e
    · injection e with e
      subst e
      refine ⟨by rw [List.length_append, a1]; rfl, by dsimp only; omega, fun hl => ?_⟩
      exact Nat.or_lt_two_pow (a3 hl) (Nat.pow_lt_pow_right (by decide) (Nat.mod_lt _ hl))
    · cases e
theorem long_len (l : Nat) (it : It) : (longN l it).length ≤ it.2.2 + 1 := by
  unfold longN
  have := List.length_filterMap_le (longT l it) (List.range (it.2.2 + 1))
  rw [List.length_range] at this
  exact this
theorem begun_take_len {l b i j : Nat} (h : j ≤ (begunN l b i).length) : (((begunN l b i).take j).flatMap (longN l)).length ≤ (begunN l b (i + 1)).length := by
  show _ ≤ ((begunN l b i).flatMap (longN l)).length
  conv => rhs; rw [← List.take_append_drop j (begunN l b i)]
  rw [List.flatMap_append, List.length_append]
  omega
end TB

/-! ### rows: is_whole, within, check_row, Clash -/
namespace TB
open PySem PySem.Spec PyProof.Rows L2 Evl
def inB (v : V) (lo hi : Int) : Bool := match v with
  | .int i => decide (lo ≤ i) && decide (i ≤ hi)
  | _ => false
def sp_is_whole : Sp := fun vs H Q E => ∃ v, vs = [v] ∧ Kd H v ∧ RetV (.bl (isI v)) H Q
def sp_within : Sp := fun vs H Q E => ∃ v lo hi, vs = [v, .int lo, .int hi] ∧ Kd H v ∧ RetV (.bl (inB v lo hi)) H Q
theorem sv_is_whole {H : Hp} {v : V} (hk : Kd H v) : SpV sp_is_whole [v] H (.bl (isI v)) := spv_of fun H1 e Q E k => ⟨v, rfl, hk.mono e, k⟩
theorem sv_within {H : Hp} {v : V} {lo hi : Int} (hk : Kd H v) : SpV sp_within [v, .int lo, .int hi] H (.bl (inB v lo hi)) := spv_of fun H1 e Q E k => ⟨v, lo, hi, rfl, hk.mono e, k⟩
theorem sc_is_whole : FnScope ["number"] ["number"] (defScope s_is_whole) := ⟨rfl, rfl, rfl, by decide +kernel, rfl, by decide +kernel, by decide +kernel⟩
theorem ok_is_whole {P : Program} {w : World} {K : PySem.W.Frag} {mg : Str → Option Value} {base : Heap} (T : TXT K mg) : OK P w K mg base "is_whole" ["number"] 1 (sp_is_whole) := by
  obtain ⟨fd, F⟩ := T.def_ 0
  refine ⟨_, fd, T.glo 0, F.kp, F.bindsN (fun _ _ _ _ _ _ us hl => match us, hl with | [_], _ => rfl), F.ok sc_is_whole (fun vs H Q E h => ?_) (fun cdv A outer s H vs Q E hr h => ?_), F.bindsA (fun _ _ _ _ _ _ us hl => match us, hl with | [_], _ => rfl)⟩
  · first | (obtain ⟨rfl, _⟩ := h; rfl) | (obtain ⟨_, rfl, _⟩ := h; rfl) | (obtain ⟨_, _, rfl, _⟩ := h; rfl) | (obtain ⟨_, _, _, rfl, _⟩ := h; rfl) | (obtain ⟨_, _, _, _, rfl, _⟩ := h; rfl) | (obtain ⟨_, _, _, _, _, rfl, _⟩ := h; rfl) | (obtain ⟨_, _, _, _, _, _, rfl, _⟩ := h; rfl) | (obtain ⟨_, _, _, _, _, _, _, rfl, _⟩ := h; rfl) | (obtain ⟨_, _, _, _, _, _, _, _, rfl, _⟩ := h; rfl)
  · replace F : FunD K "is_whole" "is_whole" (defArgs s_is_whole) (defBody s_is_whole) (defScope s_is_whole) [] [] (He.ga K "is_whole") fd := F
    refine ⟨_, (pss_one (ps_ret (pe_and (pe_callB (id := "isinstance") (k_isi K) (by rfl) (T.free 18) (by decide +kernel) (pa_cons (pv 0) (pa_cons (pe_ty (T := "int") (T.free 17) (by decide +kernel)) pa_nil))) (pe_one (pe_not (pe_callB (id := "isinstance") (k_isi K) (by rfl) (T.free 18) (by decide +kernel) (pa_cons (pv 0) (pa_cons (pe_ty (T := "bool") (T.free 16) (by decide +kernel)) pa_nil)))))))), ?_⟩
    obtain ⟨v, rfl, hk, q⟩ := h
    dsimp only [cxOf, L2.start, List.map_cons, List.map_nil, List.length_cons, List.length_nil, Nat.reduceAdd, Nat.reduceSub, List.replicate_succ, List.replicate_zero, List.cons_append, List.nil_append, Nat.zero_add, List.reduceReplicate, List.map]
    refine s_ret ?_ q
    apply ev_is
    · (repeat' (first | with_reducible exact ev_c | ((with_reducible show Ev (tVar _) _ _ _); exact ev_var rfl) | with_reducible exact ea_nil | with_reducible exact eo_none | with_reducible refine' ea_cons ?_ ?_ | with_reducible refine' eo_some ?_ | with_reducible refine' ev_and2 ?_ ?_ | with_reducible refine' ev_or2 ?_ ?_ | with_reducible refine' ev_notV ?_ | with_reducible exact ru_I | with_reducible refine' ev_un ?_ ?_ | with_reducible exact rv_I0 | with_reducible exact rv_isN | with_reducible exact rv_notN | with_reducible refine' rv_I ?_ | with_reducible refine' rv_eq ?_ | with_reducible refine' rv_ne ?_ | with_reducible refine' ev_op ?_ ?_ ?_ | with_reducible refine' ev_chain2 ?_ ?_ ?_ ?_ ?_ | with_reducible refine' et_B ?_ | with_reducible refine' et_test ?_ | with_reducible refine' et_and2 ?_ ?_ | with_reducible refine' et_or2 ?_ ?_ | with_reducible refine' et_not ?_ | with_reducible refine' ev_call ?_ ?_ | with_reducible refine' ev_callS ?_ ?_ | with_reducible refine' ev_cb ?_ ?_ | with_reducible exact isi_bool (by assumption) | with_reducible exact isi_int (by assumption) | with_reducible exact isi_list (by assumption) | with_reducible exact rc_len (by assumption) | with_reducible exact rc_sum (by assumption) | with_reducible exact rc_abs | with_reducible exact isi_listL (by assumption) | with_reducible exact isi_intI | with_reducible exact isi_boolI | with_reducible exact rc_lenT (by assumption) | with_reducible exact isi_tup (by assumption) | with_reducible exact rv_eqL (by assumption) (by assumption) | with_reducible exact rv_neL (by assumption) (by assumption) | with_reducible exact rv_neT (by assumption) (by assumption) | with_reducible exact rv_ixL (by assumption) (by assumption) | with_reducible exact rv_ixT (by assumption) (by assumption) | with_reducible refine' ev_din ?_ ?_ (by assumption) | with_reducible refine' ev_dnotin ?_ ?_ (by assumption) | with_reducible refine' ev_dget ?_ ?_ (by assumption) (by assumption) | ((with_reducible show SpV _ _ _ _); assumption) | ((with_reducible show RV _ _ _ _ _); assumption) | ((with_reducible show RC _ _ _ _); assumption) | ((with_reducible show CDiv _ _); exact ⟨by omega, by omega⟩) | ((with_reducible show CMul _ _); first | exact .inl ⟨by omega, by omega⟩ | exact .inr ⟨by omega, by omega⟩) | ((with_reducible show CPow _ _); exact ⟨by omega, by omega, by first | decide | assumption | omega⟩) | ((with_reducible show (0 : Int) < _); omega) | ((with_reducible show (0 : Int) ≤ _); omega) | ((with_reducible show scal _ _ = true); rfl)))
    · cases v <;> rfl

theorem sc_within : FnScope ["number", "low", "high"] ["number", "low", "high"] (defScope s_within) := ⟨rfl, rfl, rfl, by decide +kernel, rfl, by decide +kernel, by decide +kernel⟩
theorem ok_within {P : Program} {w : World} {K : PySem.W.Frag} {mg : Str → Option Value} {base : Heap} (T : TXT K mg) : OK P w K mg base "within" ["number", "low", "high"] 2 (sp_within) := by
  have O_is_whole := ok_is_whole (P := P) (w := w) (base := base) T
  obtain ⟨fd, F⟩ := T.def_ 1
  refine ⟨_, fd, T.glo 1, F.kp, F.bindsN (fun _ _ _ _ _ _ us hl => match us, hl with | [_, _, _], _ => rfl), F.ok sc_within (fun vs H Q E h => ?_) (fun cdv A outer s H vs Q E hr h => ?_), F.bindsA (fun _ _ _ _ _ _ us hl => match us, hl with | [_, _, _], _ => rfl)⟩
  · first | (obtain ⟨rfl, _⟩ := h; rfl) | (obtain ⟨_, rfl, _⟩ := h; rfl) | (obtain ⟨_, _, rfl, _⟩ := h; rfl) | (obtain ⟨_, _, _, rfl, _⟩ := h; rfl) | (obtain ⟨_, _, _, _, rfl, _⟩ := h; rfl) | (obtain ⟨_, _, _, _, _, rfl, _⟩ := h; rfl) | (obtain ⟨_, _, _, _, _, _, rfl, _⟩ := h; rfl) | (obtain ⟨_, _, _, _, _, _, _, rfl, _⟩ := h; rfl) | (obtain ⟨_, _, _, _, _, _, _, _, rfl, _⟩ := h; rfl)
  · replace F : FunD K "within" "within" (defArgs s_within) (defBody s_within) (defScope s_within) [] [] (He.ga K "within") fd := F
    refine ⟨_, (pss_one (ps_ret (pe_and (pe_own O_is_whole (hr.mono (by decide)) (by rfl) (passes_call (takes_of rfl rfl rfl rfl) (fun _ _ _ _ h => h)) (pa_cons (pv 0) pa_nil)) (pe_one (pe_chain op_le op_le (pv 1) (pv 0) (pv 2)))))), ?_⟩
    obtain ⟨v, lo, hi, rfl, hk, q⟩ := h
    dsimp only [cxOf, L2.start, List.map_cons, List.map_nil, List.length_cons, List.length_nil, Nat.reduceAdd, Nat.reduceSub, List.replicate_succ, List.replicate_zero, List.cons_append, List.nil_append, Nat.zero_add, List.reduceReplicate, List.map]
    have hw := sv_is_whole hk
    refine s_ret ?_ q
    cases v with
    | int i =>
      refine ev_andV (a := true) (b := decide (lo ≤ i) && decide (i ≤ hi)) ?_ (fun _ => ?_)
      · (repeat' (first | with_reducible exact ev_c | ((with_reducible show Ev (tVar _) _ _ _); exact ev_var rfl) | with_reducible exact ea_nil | with_reducible exact eo_none | with_reducible refine' ea_cons ?_ ?_ | with_reducible refine' eo_some ?_ | with_reducible refine' ev_and2 ?_ ?_ | with_reducible refine' ev_or2 ?_ ?_ | with_reducible refine' ev_notV ?_ | with_reducible exact ru_I | with_reducible refine' ev_un ?_ ?_ | with_reducible exact rv_I0 | with_reducible exact rv_isN | with_reducible exact rv_notN | with_reducible refine' rv_I ?_ | with_reducible refine' rv_eq ?_ | with_reducible refine' rv_ne ?_ | with_reducible refine' ev_op ?_ ?_ ?_ | with_reducible refine' ev_chain2 ?_ ?_ ?_ ?_ ?_ | with_reducible refine' et_B ?_ | with_reducible refine' et_test ?_ | with_reducible refine' et_and2 ?_ ?_ | with_reducible refine' et_or2 ?_ ?_ | with_reducible refine' et_not ?_ | with_reducible refine' ev_call ?_ ?_ | with_reducible refine' ev_callS ?_ ?_ | with_reducible refine' ev_cb ?_ ?_ | with_reducible exact isi_bool (by assumption) | with_reducible exact isi_int (by assumption) | with_reducible exact isi_list (by assumption) | with_reducible exact rc_len (by assumption) | with_reducible exact rc_sum (by assumption) | with_reducible exact rc_abs | with_reducible exact isi_listL (by assumption) | with_reducible exact isi_intI | with_reducible exact isi_boolI | with_reducible exact rc_lenT (by assumption) | with_reducible exact isi_tup (by assumption) | with_reducible exact rv_eqL (by assumption) (by assumption) | with_reducible exact rv_neL (by assumption) (by assumption) | with_reducible exact rv_neT (by assumption) (by assumption) | with_reducible exact rv_ixL (by assumption) (by assumption) | with_reducible exact rv_ixT (by assumption) (by assumption) | with_reducible refine' ev_din ?_ ?_ (by assumption) | with_reducible refine' ev_dnotin ?_ ?_ (by assumption) | with_reducible refine' ev_dget ?_ ?_ (by assumption) (by assumption) | ((with_reducible show SpV _ _ _ _); assumption) | ((with_reducible show RV _ _ _ _ _); assumption) | ((with_reducible show RC _ _ _ _); assumption) | ((with_reducible show CDiv _ _); exact ⟨by omega, by omega⟩) | ((with_reducible show CMul _ _); first | exact .inl ⟨by omega, by omega⟩ | exact .inr ⟨by omega, by omega⟩) | ((with_reducible show CPow _ _); exact ⟨by omega, by omega, by first | decide | assumption | omega⟩) | ((with_reducible show (0 : Int) < _); omega) | ((with_reducible show (0 : Int) ≤ _); omega) | ((with_reducible show scal _ _ = true); rfl)))
      · (repeat' (first | with_reducible exact ev_c | ((with_reducible show Ev (tVar _) _ _ _); exact ev_var rfl) | with_reducible exact ea_nil | with_reducible exact eo_none | with_reducible refine' ea_cons ?_ ?_ | with_reducible refine' eo_some ?_ | with_reducible refine' ev_and2 ?_ ?_ | with_reducible refine' ev_or2 ?_ ?_ | with_reducible refine' ev_notV ?_ | with_reducible exact ru_I | with_reducible refine' ev_un ?_ ?_ | with_reducible exact rv_I0 | with_reducible exact rv_isN | with_reducible exact rv_notN | with_reducible refine' rv_I ?_ | with_reducible refine' rv_eq ?_ | with_reducible refine' rv_ne ?_ | with_reducible refine' ev_op ?_ ?_ ?_ | with_reducible refine' ev_chain2 ?_ ?_ ?_ ?_ ?_ | with_reducible refine' et_B ?_ | with_reducible refine' et_test ?_ | with_reducible refine' et_and2 ?_ ?_ | with_reducible refine' et_or2 ?_ ?_ | with_reducible refine' et_not ?_ | with_reducible refine' ev_call ?_ ?_ | with_reducible refine' ev_callS ?_ ?_ | with_reducible refine' ev_cb ?_ ?_ | with_reducible exact isi_bool (by assumption) | with_reducible exact isi_int (by assumption) | with_reducible exact isi_list (by assumption) | with_reducible exact rc_len (by assumption) | with_reducible exact rc_sum (by assumption) | with_reducible exact rc_abs | with_reducible exact isi_listL (by assumption) | with_reducible exact isi_intI | with_reducible exact isi_boolI | with_reducible exact rc_lenT (by assumption) | with_reducible exact isi_tup (by assumption) | with_reducible exact rv_eqL (by assumption) (by assumption) | with_reducible exact rv_neL (by assumption) (by assumption) | with_reducible exact rv_neT (by assumption) (by assumption) | with_reducible exact rv_ixL (by assumption) (by assumption) | with_reducible exact rv_ixT (by assumption) (by assumption) | with_reducible refine' ev_din ?_ ?_ (by assumption) | with_reducible refine' ev_dnotin ?_ ?_ (by assumption) | with_reducible refine' ev_dget ?_ ?_ (by assumption) (by assumption) | ((with_reducible show SpV _ _ _ _); assumption) | ((with_reducible show RV _ _ _ _ _); assumption) | ((with_reducible show RC _ _ _ _); assumption) | ((with_reducible show CDiv _ _); exact ⟨by omega, by omega⟩) | ((with_reducible show CMul _ _); first | exact .inl ⟨by omega, by omega⟩ | exact .inr ⟨by omega, by omega⟩) | ((with_reducible show CPow _ _); exact ⟨by omega, by omega, by first | decide | assumption | omega⟩) | ((with_reducible show (0 : Int) < _); omega) | ((with_reducible show (0 : Int) ≤ _); omega) | ((with_reducible show scal _ _ = true); rfl)))
    | _ =>
      refine ev_andV (a := false) (b := false) ?_ (fun h => nomatch h)
      (repeat' (first | with_reducible exact ev_c | ((with_reducible show Ev (tVar _) _ _ _); exact ev_var rfl) | with_reducible exact ea_nil | with_reducible exact eo_none | with_reducible refine' ea_cons ?_ ?_ | with_reducible refine' eo_some ?_ | with_reducible refine' ev_and2 ?_ ?_ | with_reducible refine' ev_or2 ?_ ?_ | with_reducible refine' ev_notV ?_ | with_reducible exact ru_I | with_reducible refine' ev_un ?_ ?_ | with_reducible exact rv_I0 | with_reducible exact rv_isN | with_reducible exact rv_notN | with_reducible refine' rv_I ?_ | with_reducible refine' rv_eq ?_ | with_reducible refine' rv_ne ?_ | with_reducible refine' ev_op ?_ ?_ ?_ | with_reducible refine' ev_chain2 ?_ ?_ ?_ ?_ ?_ | with_reducible refine' et_B ?_ | with_reducible refine' et_test ?_ | with_reducible refine' et_and2 ?_ ?_ | with_reducible refine' et_or2 ?_ ?_ | with_reducible refine' et_not ?_ | with_reducible refine' ev_call ?_ ?_ | with_reducible refine' ev_callS ?_ ?_ | with_reducible refine' ev_cb ?_ ?_ | with_reducible exact isi_bool (by assumption) | with_reducible exact isi_int (by assumption) | with_reducible exact isi_list (by assumption) | with_reducible exact rc_len (by assumption) | with_reducible exact rc_sum (by assumption) | with_reducible exact rc_abs | with_reducible exact isi_listL (by assumption) | with_reducible exact isi_intI | with_reducible exact isi_boolI | with_reducible exact rc_lenT (by assumption) | with_reducible exact isi_tup (by assumption) | with_reducible exact rv_eqL (by assumption) (by assumption) | with_reducible exact rv_neL (by assumption) (by assumption) | with_reducible exact rv_neT (by assumption) (by assumption) | with_reducible exact rv_ixL (by assumption) (by assumption) | with_reducible exact rv_ixT (by assumption) (by assumption) | with_reducible refine' ev_din ?_ ?_ (by assumption) | with_reducible refine' ev_dnotin ?_ ?_ (by assumption) | with_reducible refine' ev_dget ?_ ?_ (by assumption) (by assumption) | ((with_reducible show SpV _ _ _ _); assumption) | ((with_reducible show RV _ _ _ _ _); assumption) | ((with_reducible show RC _ _ _ _); assumption) | ((with_reducible show CDiv _ _); exact ⟨by omega, by omega⟩) | ((with_reducible show CMul _ _); first | exact .inl ⟨by omega, by omega⟩ | exact .inr ⟨by omega, by omega⟩) | ((with_reducible show CPow _ _); exact ⟨by omega, by omega, by first | decide | assumption | omega⟩) | ((with_reducible show (0 : Int) < _); omega) | ((with_reducible show (0 : Int) ≤ _); omega) | ((with_reducible show scal _ _ = true); rfl)))

/-- a row as it is handed in: what kind of thing, what it holds -/
structure Row (H : Hp) (v : V) (o : Option (List V)) : Prop where
  ls : Ls H v o
  kd : ∀ xs, o = some xs → ∀ x ∈ xs, Kd H x
theorem Row.mono {H H' : Hp} {v : V} {o : Option (List V)} (e : Ex H H') (h : Row H v o) : Row H' v o := ⟨h.ls.mono e, fun xs q x hx => (h.kd xs q x hx).mono e⟩
def rowOk (o : Option (List V)) : Bool := match o with
  | some xs => decide (1 ≤ xs.length) && decide (xs.length ≤ 60) && xs.all fun x => inB x (-1000000) 1000000
  | none => false
def RowI (ns : List Int) : Prop := 1 ≤ ns.length ∧ ns.length ≤ 60 ∧ ∀ n ∈ ns, -1000000 ≤ n ∧ n ≤ 1000000
theorem ints_of : ∀ {xs : List V} {lo hi : Int}, (xs.all fun x => inB x lo hi) = true → ∃ ns : List Int, xs = ns.map V.int ∧ ∀ n ∈ ns, lo ≤ n ∧ n ≤ hi
  | [], _, _, _ => ⟨[], rfl, fun _ h => nomatch h⟩
  | x :: r, lo, hi, h => by
    simp only [List.all_cons, Bool.and_eq_true] at h
    obtain ⟨h1, h2⟩ := h
    obtain ⟨ns, rfl, hn⟩ := ints_of h2
    cases x with
    | int i =>
      simp only [inB, Bool.and_eq_true, decide_eq_true_eq] at h1
      refine ⟨i :: ns, rfl, fun n hm => ?_⟩
      rcases List.mem_cons.mp hm with rfl | hm
      · exact h1
      · exact hn n hm
    | _ => cases h1
theorem row_ints {o : Option (List V)} (h : rowOk o = true) : ∃ ns : List Int, o = some (ns.map V.int) ∧ RowI ns := by
  cases o with
  | none => cases h
  | some xs =>
    simp only [rowOk, Bool.and_eq_true, decide_eq_true_eq] at h
    obtain ⟨⟨h1, h2⟩, h3⟩ := h
    obtain ⟨ns, rfl, hn⟩ := ints_of h3
    rw [List.length_map] at h1 h2
    exact ⟨ns, rfl, h1, h2, hn⟩
theorem rowOk_of {ns : List Int} (h : RowI ns) : rowOk (some (ns.map V.int)) = true := by
  obtain ⟨h1, h2, h3⟩ := h
  simp only [rowOk, Bool.and_eq_true, decide_eq_true_eq, List.length_map]
  refine ⟨⟨h1, h2⟩, ?_⟩
  rw [List.all_eq_true]
  intro x hx
  obtain ⟨n, hn, rfl⟩ := List.mem_map.mp hx
  simp only [inB, Bool.and_eq_true, decide_eq_true_eq]
  exact h3 n hn
theorem Row.of {H : Hp} {a : Addr} {ns : List Int} (h : H a = some (.lst (ns.map V.int))) : Row H (.ref a) (some (ns.map V.int)) := ⟨.lst h, fun xs q x hx => by
  cases q
  obtain ⟨n, _, rfl⟩ := List.mem_map.mp hx
  exact .int n⟩
def sp_check_number (K : PySem.W.Frag) : Sp := fun vs H Q E => ∃ v, vs = [v] ∧ Kd H v ∧ Give K (if inB v (-1000000) 1000000 then .val .non else .err "OutOfBounds") H Q E
def sp_check_row (K : PySem.W.Frag) : Sp := fun vs H Q E => ∃ v o, vs = [v] ∧ Row H v o ∧ Give K (if rowOk o then .val .non else .err "NotARow") H Q E

/-! the first two beats that land together -/
def land (ns : List Int) (j : Nat) : Int := ((j : Int) + ns.getD j 0) % (ns.length : Int)
def seenAt (ns : List Int) (j : Nat) : Option Nat := (List.range j).find? fun i => decide (land ns i = land ns j)
def clashOf (ns : List Int) : Option (Nat × Nat) := (List.range ns.length).findSome? fun j => (seenAt ns j).map fun i => (i, j)
def kvAt (ns : List Int) (j : Nat) : List (Key × V) := (List.range j).map fun i => (Sum.inl (land ns i), V.int (i : Int))
theorem kvAt_val (ns : List Int) (j k : Nat) : valV (kvAt ns j) (Sum.inl (land ns k) : Key) = ((List.range j).find? fun i => decide (land ns i = land ns k)).map fun i => V.int (i : Int) := by
  unfold valV kvAt
  rw [List.find?_map]
  have e : ((fun kv : Key × V => decide (kv.1 = Sum.inl (land ns k))) ∘ fun i => ((Sum.inl (land ns i) : Key), V.int (i : Int))) = fun i => decide (land ns i = land ns k) := by
    funext i
    show decide ((Sum.inl (land ns i) : Key) = Sum.inl (land ns k)) = _
    rw [decide_eq_decide]
    exact ⟨fun z => Sum.inl.inj z, fun z => by rw [z]⟩
  rw [e]
  cases (List.range j).find? fun i => decide (land ns i = land ns k) <;> rfl
theorem kvAt_len (ns : List Int) (j : Nat) : (kvAt ns j).length = j := by simp [kvAt]
theorem kvAt_put {ns : List Int} {j : Nat} (h : seenAt ns j = none) : putK (kvAt ns j) (Sum.inl (land ns j) : Key) (V.int (j : Int)) = kvAt ns (j + 1) := by
  rw [putK_new]
  · unfold kvAt
    rw [List.range_succ, List.map_append]
    rfl
  · rw [kvAt_val]
    unfold seenAt at h
    rw [h]
    rfl
theorem findSome_at {α : Type} {f : Nat → Option α} {n j : Nat} {x : α} (hj : j < n) (h : ∀ i, i < j → f i = none) (hx : f j = some x) : (List.range n).findSome? f = some x := by
  induction n with
  | zero => omega
  | succ n ih =>
    rw [List.range_succ, List.findSome?_append]
    by_cases e : j < n
    · rw [ih e]
      rfl
    · have e2 : j = n := by omega
      subst e2
      have h0 : (List.range j).findSome? f = none := by
        rw [List.findSome?_eq_none_iff]
        intro i hi
        exact h i (List.mem_range.mp hi)
      rw [h0]
      simp [hx]
theorem findSome_none {α : Type} {f : Nat → Option α} {n : Nat} (h : ∀ i, i < n → f i = none) : (List.range n).findSome? f = none := by
  rw [List.findSome?_eq_none_iff]
  intro i hi
  exact h i (List.mem_range.mp hi)
def clashRe (ns : List Int) : Re := match clashOf ns with
  | some (i, j) => .tup [.int (i : Int), .int (j : Int)]
  | none => .val .non
def rowsOf (o : Option (List V)) : List Int := (o.getD []).map fun v => match v with
  | .int i => i
  | _ => 0
theorem rowsOf_some (ns : List Int) : rowsOf (some (ns.map V.int)) = ns := by
  simp only [rowsOf, Option.getD, List.map_map]
  have e : ((fun v : V => match v with | .int i => i | _ => 0) ∘ V.int) = id := by
    funext i
    rfl
  rw [e, List.map_id]
def sp_clash_of (K : PySem.W.Frag) : Sp := fun vs H Q E => ∃ v o, vs = [v] ∧ Row H v o ∧ Give K (if rowOk o then clashRe (rowsOf o) else .err "NotARow") H Q E
theorem sv_check_row {K : PySem.W.Frag} {H : Hp} {v : V} {o : Option (List V)} (hk : Row H v o) (h : rowOk o = true) : SpV (sp_check_row K) [v] H .non := spv_of fun H1 e Q E k => ⟨v, o, rfl, hk.mono e, by
  rw [h]
  exact k⟩
theorem sx_check_row {K : PySem.W.Frag} {H : Hp} {v : V} {o : Option (List V)} {E : XK} (hk : Row H v o) (h : rowOk o = false) (he : ∀ H2, Ex H H2 → E (.ref (He.ga K "NotARow")) none H2) : ∀ H1, Ex H H1 → ∀ Q : VK, sp_check_row K [v] H1 Q E := fun H1 e Q => ⟨v, o, rfl, hk.mono e, by
  rw [h]
  exact fun H2 e2 => he H2 (e.trans e2)⟩
end TB

/-! ### lists of whole numbers in the order of lists; not in a list of lists -/
namespace TB
open PySem PySem.Spec PyProof.Rows L2 Evl
section
variable {X : Cx}
theorem k_notInD (K : PySem.W.Frag) (hu : X.A.units + 65 < cLine) (h : X.K = K := by rfl) : OpR X (compareOp .NotIn) (rNotInD K) := by
  subst h
  exact op_notInD hu
def rGeD (K : PySem.W.Frag) : R2 := fun x y H Q => ∃ d e, Dp K H x d ∧ Dp K H y e ∧ PySem.W.alike d e = true ∧ d ≠ .none ∧ d.depth ≤ 60 ∧ Q (.bl (!PySem.W.dataLt d e)) H
theorem op_geD (hu : X.A.units + 64 < cLine) : OpR X (compareOp .GtE) (rGeD X.K) := by
  intro pins s σ H x y v u Q I rx ry h
  obtain ⟨d, e, hd, he, ha, hn, hz, q⟩ := h
  obtain ⟨as, r1⟩ := Dp.reads I d x v hd rx
  obtain ⟨bs, r2⟩ := Dp.reads I e y u he ry
  exact PySem.W.ge_data r1 r2 ha hn (by omega) ⟨.bl _, H, I, rfl, q⟩
theorem k_geD (K : PySem.W.Frag) (hu : X.A.units + 64 < cLine) (h : X.K = K := by rfl) : OpR X (compareOp .GtE) (rGeD K) := by
  subst h
  exact op_geD hu
theorem units65 {A : Around} {k : Nat} (hr : Room k A) : A.units + 65 < cLine := by
  have h := hr.un
  omega
end
theorem alike_ints : ∀ xs ys : List Int, PySem.W.alikeAll (dInts xs) (dInts ys) = true
  | [], [] => rfl
  | [], _ :: _ => rfl
  | _ :: _, [] => rfl
  | x :: xs, y :: ys => by
    show (PySem.W.alike (.int x) (.int y) && PySem.W.alikeAll (dInts xs) (dInts ys)) = true
    rw [alike_ints xs ys]
    rfl
theorem lt_ints (xs ys : List Int) : PySem.W.dataLt (.list (dInts xs)) (.list (dInts ys)) = decide (xs < ys) := PySem.W.dataLt_ints xs ys
section
variable {K : PySem.W.Frag} {H : Hp}
theorem rv_geD {p r : Addr} {xs ys : List Int} (h1 : SqL K H p (xs.map V.int)) (h2 : SqL K H r (ys.map V.int)) : RV (rGeD K) (.ref p) (.ref r) H (.bl (!decide (xs < ys))) := fun H1 e Q q =>
  ⟨.list (dInts xs), .list (dInts ys), .lst (ex_l e h1) (dp_ints xs), .lst (ex_l e h2) (dp_ints ys), by
    show PySem.W.alikeAll _ _ = true
    exact alike_ints xs ys, fun h => (by cases h), by
    show PyData.depthAll (dInts xs) + 1 ≤ 60
    rw [dep_ints]
    omega, by
    rw [lt_ints]
    exact q H1 (Ex.refl H1)⟩
end
end TB

/-! ### longer, patterns -/
namespace TB
open PySem PySem.Spec PyProof.Rows L2 Evl
def ntV (l : List Nat) : List V := l.map fun k : Nat => V.int (k : Int)
def HeldT (H0 H : Hp) (ds : List (Addr × Addr)) (its : List It) : Prop := ds.length = its.length ∧ ∀ (i : Nat) (d : Addr × Addr) (it : It), ds[i]? = some d → its[i]? = some it → H0 d.2 = none ∧ H d.1 = some (.tup [.ref d.2, .int (it.2.1 : Int), .int (it.2.2 : Int)]) ∧ H d.2 = some (.lst (ntV it.1))
section
variable {H0 H1 H H2 : Hp} {ds ds2 : List (Addr × Addr)} {its its2 : List It}
theorem HeldT.nil : HeldT H0 H [] [] := ⟨rfl, fun i d it h => by simp at h⟩
theorem HeldT.mono (h : HeldT H0 H ds its) (k1 : ∀ x u, H x = some (.tup u) → H2 x = some (.tup u)) (k2 : ∀ x u, H0 x = none → H x = some u → H2 x = some u) : HeldT H0 H2 ds its :=
  ⟨h.1, fun i d it hd hi => ⟨(h.2 i d it hd hi).1, k1 _ _ (h.2 i d it hd hi).2.1, k2 _ _ (h.2 i d it hd hi).1 (h.2 i d it hd hi).2.2⟩⟩
theorem HeldT.ex (h : HeldT H0 H ds its) (e : Ex H H2) : HeldT H0 H2 ds its := h.mono (fun _ _ z => e _ _ z) (fun _ _ _ z => e _ _ z)
theorem HeldT.weak (h : HeldT H0 H ds its) (e : Ex H1 H0) : HeldT H1 H ds its := ⟨h.1, fun i d it hd hi => ⟨fresh_back e (h.2 i d it hd hi).1, (h.2 i d it hd hi).2⟩⟩
theorem HeldT.put {f : Addr} {xs ys : List V} (h : HeldT H0 H ds its) (h0 : H0 f = some (.lst ys)) (hf : H f = some (.lst xs)) (zs : List V) : HeldT H0 (upd H f (.lst zs)) ds its := h.mono (fun x u hu => by
  rw [upd_ne fun z => by rw [z, hf] at hu; cases hu]
  exact hu) (fun x u hx hu => by
  rw [upd_ne fun z => by rw [z, h0] at hx; cases hx]
  exact hu)
theorem HeldT.app (h : HeldT H0 H ds its) (h2 : HeldT H0 H ds2 its2) : HeldT H0 H (ds ++ ds2) (its ++ its2) := by
  refine ⟨by rw [List.length_append, List.length_append, h.1, h2.1], fun i d it hd hi => ?_⟩
  rcases Nat.lt_or_ge i ds.length with c | c
  · rw [List.getElem?_append_left c] at hd
    rw [List.getElem?_append_left (by rw [← h.1]; exact c)] at hi
    exact h.2 i d it hd hi
  · rw [List.getElem?_append_right c] at hd
    rw [List.getElem?_append_right (by rw [← h.1]; exact c), ← h.1] at hi
    exact h2.2 _ d it hd hi
theorem HeldT.one {d : Addr × Addr} {it : It} (h1 : H0 d.2 = none) (h2 : H d.1 = some (.tup [.ref d.2, .int (it.2.1 : Int), .int (it.2.2 : Int)])) (h3 : H d.2 = some (.lst (ntV it.1))) : HeldT H0 H [d] [it] := by
  refine ⟨rfl, fun i e jt he hj => ?_⟩
  cases i with
  | zero =>
    injection he with he
    injection hj with hj
    subst he hj
    exact ⟨h1, h2, h3⟩
  | succ i => simp at he
end
def RetT (its : List It) (H : Hp) (Q : VK) : Prop := ∀ q ds H2, H q = none → Ex H H2 → H2 q = some (.lst (ds.map fun d : Addr × Addr => V.ref d.1)) → HeldT H H2 ds its → Q (.ref q) H2
section
variable {K : PySem.W.Frag} {σ : L2.St} {H H' : Hp} {t1 t2 t3 te tl ta : TE} {tz : TS} {D : Ends}
/-- xs.append((a new list, a value, a value)) -/
theorem s_appLVV {l : Addr} {xs ys : List V} {v w : V} (hl : H l = some (.lst xs)) (ha : Ev ta σ H (.ref l)) (h1 : EvL t1 σ H ys) (h2 : Ev t2 σ H v) (h3 : Ev t3 σ H w) (hz : xs.length < 100000)
    (k : ∀ d e H1, H d = none → H e = none → Ex H H1 → H1 d = some (.tup [.ref e, v, w]) → H1 e = some (.lst ys) → D.nx σ (upd H1 l (.lst (xs ++ [.ref d])))) :
    tDrop (tBM K "list" rAppend ta (tCons (tTup (tCons t1 (tCons t2 (tCons t3 tNil)))) tNil)) D σ H := ha H (Ex.refl H) _ fun H1 e1 =>
  ⟨Or.inl ⟨rfl, xs, sq_of (e1 l _ hl)⟩, h1 H1 e1 _ fun e H2 he e2 g2 => h2 H2 (e1.trans e2) _ fun H3 e3 => h3 H3 ((e1.trans e2).trans e3) _ fun H4 e4 => ⟨sz_of (by simp), fun d hd =>
    have ee := ((e1.trans e2).trans e3).trans e4
    ⟨l, xs, .ref d, rfl, rfl, by
      rw [upd_ne (ne_of_none (ee l _ hl) hd)]
      exact ee l _ hl, sz_lt hz, k d e _ (fresh_back ee hd) (fresh_back e1 he) (ee.trans (Ex.new hd)) upd_same (by
      rw [upd_ne (ne_of_none ((e3.trans e4) _ _ g2) hd)]
      exact (e3.trans e4) _ _ g2)⟩⟩⟩
end
theorem el_catVN {σ : L2.St} {H : Hp} {t1 t2 : TE} {a : Addr} {xs ys : List V} (h1 : Ev t1 σ H (.ref a)) (h2 : EvL t2 σ H ys) (ha : H a = some (.lst xs)) (hl : xs.length + ys.length ≤ 100000) : EvL (tOp rCat t1 t2) σ H (xs ++ ys) := fun H1 e Q q =>
  h1 H1 e _ fun H2 e2 => h2 H2 (e.trans e2) _ fun b H3 _ e3 g3 => ⟨a, b, xs, ys, rfl, rfl, ((e.trans e2).trans e3) _ _ ha, g3, sz_of hl, fun u hu => q u _ (fresh_back (e2.trans e3) hu) ((e2.trans e3).trans (Ex.new hu)) upd_same⟩
theorem bits_truth (m s : Nat) : (Builtin.bitAnd ((m : Int) / 2 ^ (s : Int).toNat) 1 != 0) = !decide (m / 2 ^ s % 2 = 0) := by
  rw [bitAnd_m1, Int.toNat_natCast]
  have e : (m : Int) / 2 ^ s % 2 = ((m / 2 ^ s % 2 : Nat) : Int) := by
    rw [Int.natCast_emod, Int.natCast_ediv, Int.natCast_pow]
    rfl
  rw [e, Bool.eq_iff_iff, bne_iff_ne, Bool.not_eq_true', decide_eq_false_iff_not]
  omega
def sp_longer (K : PySem.W.Frag) : Sp := fun vs H Q E => ∃ (p : Addr) (it : It) (l : Nat), vs = [.ref p, .int (it.2.1 : Int), .int (l : Int), .int (it.2.2 : Int)] ∧ H p = some (.lst (ntV it.1)) ∧ it.1.length < l ∧ l ≤ 6 ∧ it.2.1 < 2 ^ l ∧ it.2.2 ≤ 36 ∧ RetT (longN l it) H Q
theorem sc_longer : FnScope ["row", "taken", "length", "left", "beat", "found", "throw", "spot"] ["row", "taken", "length", "left"] (defScope s_longer) := ⟨rfl, rfl, rfl, by decide +kernel, rfl, by decide +kernel, by decide +kernel⟩
theorem ok_longer {P : Program} {w : World} {K : PySem.W.Frag} {mg : Str → Option Value} {base : Heap} (T : TXT K mg) : OK P w K mg base "longer" ["row", "taken", "length", "left"] 1 (sp_longer K) := by
  obtain ⟨fd, F⟩ := T.def_ 2
  refine ⟨_, fd, T.glo 2, F.kp, F.bindsN (fun _ _ _ _ _ _ us hl => match us, hl with | [_, _, _, _], _ => rfl), F.ok sc_longer (fun vs H Q E h => ?_) (fun cdv A outer s H vs Q E hr h => ?_), F.bindsA (fun _ _ _ _ _ _ us hl => match us, hl with | [_, _, _, _], _ => rfl)⟩
  · first | (obtain ⟨rfl, _⟩ := h; rfl) | (obtain ⟨_, rfl, _⟩ := h; rfl) | (obtain ⟨_, _, rfl, _⟩ := h; rfl) | (obtain ⟨_, _, _, rfl, _⟩ := h; rfl) | (obtain ⟨_, _, _, _, rfl, _⟩ := h; rfl) | (obtain ⟨_, _, _, _, _, rfl, _⟩ := h; rfl) | (obtain ⟨_, _, _, _, _, _, rfl, _⟩ := h; rfl) | (obtain ⟨_, _, _, _, _, _, _, rfl, _⟩ := h; rfl) | (obtain ⟨_, _, _, _, _, _, _, _, rfl, _⟩ := h; rfl)
  · replace F : FunD K "longer" "longer" (defArgs s_longer) (defBody s_longer) (defScope s_longer) [] [] (He.ga K "longer") fd := F
    refine ⟨_, (pss_cons (ps_set (i := 4) sc_longer.nd rfl (Or.inl rfl) (pe_callB (id := "len") (k_len K) (by rfl) (T.free 19) (by decide +kernel) (pa_cons (pv 0) pa_nil)))
      (pss_cons (ps_set (i := 5) sc_longer.nd rfl (Or.inl rfl) (pe_lst pa_nil))
      (pss_cons (ps_for (passes_of rfl) rfl (pi_range1 (by rfl) (T.free 23) (pa_cons (pe_op op_add (pv 3) pe_int) pa_nil)) (pg_name (i := 6) sc_longer.nd rfl (Or.inl rfl))
        (pss_cons (ps_set (i := 7) sc_longer.nd rfl (Or.inl rfl) (pe_op op_mod (pe_op op_add (pv 4) (pv 6)) (pv 2)))
      (pss_one (ps_if (PW.pt (pw_and (pt_not (pt_truth (pe_op op_and (pe_op op_shr (pv 1) (pv 7)) pe_int) (by intro _; rfl))) (pw_and1 (PW.pt (pw_or (pt_cmpR op_lt (pe_op op_add (pv 4) pe_int) (pv 2) (nomark _)) (pw_or1 (pt_cmpR op_eq (pv 6) (pv 3) (nomark _))))))))
        (pss_one (ps_expr (pe_bm PySem.F.plainAttrs_list PySem.F.slot_list_append PySem.F.type_list_append mt_append (pv 5) (pa_cons (pe_tup (pa_cons (pe_op op_cat (pv 0) (pe_lst (pa_cons (pv 6) pa_nil))) (pa_cons (pe_op op_or (pv 1) (pe_op op_shl pe_int (pv 7))) (pa_cons (pe_op op_sub (pv 3) (pv 6)) pa_nil)))) pa_nil))))
        pss_nil))))
      (pss_one (ps_ret (pv 5)))))), ?_⟩
    obtain ⟨p, it, l, rfl, hp, hl, h6, hm, hlf, q⟩ := h
    dsimp only [cxOf, L2.start, List.map_cons, List.map_nil, List.length_cons, List.length_nil, Nat.reduceAdd, Nat.reduceSub, List.replicate_succ, List.replicate_zero, List.cons_append, List.nil_append, Nat.zero_add, List.reduceReplicate, List.map]
    have sp := sq_of (K := K) hp
    refine q_asg (v := .int (it.1.length : Int)) (ev_is (v := .int ((ntV it.1).length : Int)) (by (repeat' (first | with_reducible exact ev_c | ((with_reducible show Ev (tVar _) _ _ _); exact ev_var rfl) | with_reducible exact ea_nil | with_reducible exact eo_none | with_reducible refine' ea_cons ?_ ?_ | with_reducible refine' eo_some ?_ | with_reducible refine' ev_and2 ?_ ?_ | with_reducible refine' ev_or2 ?_ ?_ | with_reducible refine' ev_notV ?_ | with_reducible exact ru_I | with_reducible refine' ev_un ?_ ?_ | with_reducible exact rv_I0 | with_reducible exact rv_isN | with_reducible exact rv_notN | with_reducible refine' rv_I ?_ | with_reducible refine' rv_eq ?_ | with_reducible refine' rv_ne ?_ | with_reducible refine' ev_op ?_ ?_ ?_ | with_reducible refine' ev_chain2 ?_ ?_ ?_ ?_ ?_ | with_reducible refine' et_B ?_ | with_reducible refine' et_test ?_ | with_reducible refine' et_and2 ?_ ?_ | with_reducible refine' et_or2 ?_ ?_ | with_reducible refine' et_not ?_ | with_reducible refine' ev_call ?_ ?_ | with_reducible refine' ev_callS ?_ ?_ | with_reducible refine' ev_cb ?_ ?_ | with_reducible exact isi_bool (by assumption) | with_reducible exact isi_int (by assumption) | with_reducible exact isi_list (by assumption) | with_reducible exact rc_len (by assumption) | with_reducible exact rc_sum (by assumption) | with_reducible exact rc_abs | with_reducible exact isi_listL (by assumption) | with_reducible exact isi_intI | with_reducible exact isi_boolI | with_reducible exact rc_lenT (by assumption) | with_reducible exact isi_tup (by assumption) | with_reducible exact rv_eqL (by assumption) (by assumption) | with_reducible exact rv_neL (by assumption) (by assumption) | with_reducible exact rv_neT (by assumption) (by assumption) | with_reducible exact rv_ixL (by assumption) (by assumption) | with_reducible exact rv_ixT (by assumption) (by assumption) | with_reducible refine' ev_din ?_ ?_ (by assumption) | with_reducible refine' ev_dnotin ?_ ?_ (by assumption) | with_reducible refine' ev_dget ?_ ?_ (by assumption) (by assumption) | ((with_reducible show SpV _ _ _ _); assumption) | ((with_reducible show RV _ _ _ _ _); assumption) | ((with_reducible show RC _ _ _ _); assumption) | ((with_reducible show CDiv _ _); exact ⟨by omega, by omega⟩) | ((with_reducible show CMul _ _); first | exact .inl ⟨by omega, by omega⟩ | exact .inr ⟨by omega, by omega⟩) | ((with_reducible show CPow _ _); exact ⟨by omega, by omega, by first | decide | assumption | omega⟩) | ((with_reducible show (0 : Int) < _); omega) | ((with_reducible show (0 : Int) ≤ _); omega) | ((with_reducible show scal _ _ = true); rfl)))) (by rw [ntV, List.length_map])) fun H1 e1 => ?_
    refine q_asgL (xs := []) (el_lst ea_nil (by decide)) fun f H2 hf e2 h2 => ?_
    have p6 : 2 ^ l ≤ 2 ^ 6 := Nat.pow_le_pow_right (by decide) h6
    have mb : it.2.1 < 64 := by omega
    have hH2 := e1.trans e2
    have hf0 : H f = none := fresh_back e1 hf
    refine q_forR1 (n := (it.2.2 : Int) + 1) (by (repeat' (first | with_reducible exact ev_c | ((with_reducible show Ev (tVar _) _ _ _); exact ev_var rfl) | with_reducible exact ea_nil | with_reducible exact eo_none | with_reducible refine' ea_cons ?_ ?_ | with_reducible refine' eo_some ?_ | with_reducible refine' ev_and2 ?_ ?_ | with_reducible refine' ev_or2 ?_ ?_ | with_reducible refine' ev_notV ?_ | with_reducible exact ru_I | with_reducible refine' ev_un ?_ ?_ | with_reducible exact rv_I0 | with_reducible exact rv_isN | with_reducible exact rv_notN | with_reducible refine' rv_I ?_ | with_reducible refine' rv_eq ?_ | with_reducible refine' rv_ne ?_ | with_reducible refine' ev_op ?_ ?_ ?_ | with_reducible refine' ev_chain2 ?_ ?_ ?_ ?_ ?_ | with_reducible refine' et_B ?_ | with_reducible refine' et_test ?_ | with_reducible refine' et_and2 ?_ ?_ | with_reducible refine' et_or2 ?_ ?_ | with_reducible refine' et_not ?_ | with_reducible refine' ev_call ?_ ?_ | with_reducible refine' ev_callS ?_ ?_ | with_reducible refine' ev_cb ?_ ?_ | with_reducible exact isi_bool (by assumption) | with_reducible exact isi_int (by assumption) | with_reducible exact isi_list (by assumption) | with_reducible exact rc_len (by assumption) | with_reducible exact rc_sum (by assumption) | with_reducible exact rc_abs | with_reducible exact isi_listL (by assumption) | with_reducible exact isi_intI | with_reducible exact isi_boolI | with_reducible exact rc_lenT (by assumption) | with_reducible exact isi_tup (by assumption) | with_reducible exact rv_eqL (by assumption) (by assumption) | with_reducible exact rv_neL (by assumption) (by assumption) | with_reducible exact rv_neT (by assumption) (by assumption) | with_reducible exact rv_ixL (by assumption) (by assumption) | with_reducible exact rv_ixT (by assumption) (by assumption) | with_reducible refine' ev_din ?_ ?_ (by assumption) | with_reducible refine' ev_dnotin ?_ ?_ (by assumption) | with_reducible refine' ev_dget ?_ ?_ (by assumption) (by assumption) | ((with_reducible show SpV _ _ _ _); assumption) | ((with_reducible show RV _ _ _ _ _); assumption) | ((with_reducible show RC _ _ _ _); assumption) | ((with_reducible show CDiv _ _); exact ⟨by omega, by omega⟩) | ((with_reducible show CMul _ _); first | exact .inl ⟨by omega, by omega⟩ | exact .inr ⟨by omega, by omega⟩) | ((with_reducible show CPow _ _); exact ⟨by omega, by omega, by first | decide | assumption | omega⟩) | ((with_reducible show (0 : Int) < _); omega) | ((with_reducible show (0 : Int) ≤ _); omega) | ((with_reducible show scal _ _ = true); rfl)))) (by omega) (fun n σ' H' => ∃ (y6 y7 : Option V) (ds : List (Addr × Addr)), σ' = [some (V.ref p), some (V.int (it.2.1 : Int)), some (V.int (l : Int)), some (V.int (it.2.2 : Int)), some (V.int (it.1.length : Int)), some (V.ref f), y6, y7] ∧ Ex H1 H' ∧ H' f = some (.lst (ds.map fun d : Addr × Addr => V.ref d.1)) ∧ HeldT H2 H' ds ((List.range n).filterMap (longT l it)) ∧ ds.length ≤ n ∧ ∀ x, H' x = none → H2 x = none) (fun H3 e3 => ⟨_, _, [], rfl, e2.trans e3, e3 _ _ h2, HeldT.nil, Nat.le_refl _, fun x hx => fresh_back e3 hx⟩) ?_ ?_
    · rintro n σ' H3 hn ⟨y6, y7, ds, rfl, e3, h3, hh, hz, hw⟩
      have hn' : n ≤ it.2.2 := by omega
      have l0 : (0 : Int) < (l : Int) := by omega
      refine q_asg (v := .int (((it.1.length + n) % l : Nat) : Int)) (ev_is (v := .int (((it.1.length : Int) + (n : Int)) % (l : Int))) (by (repeat' (first | with_reducible exact ev_c | ((with_reducible show Ev (tVar _) _ _ _); exact ev_var rfl) | with_reducible exact ea_nil | with_reducible exact eo_none | with_reducible refine' ea_cons ?_ ?_ | with_reducible refine' eo_some ?_ | with_reducible refine' ev_and2 ?_ ?_ | with_reducible refine' ev_or2 ?_ ?_ | with_reducible refine' ev_notV ?_ | with_reducible exact ru_I | with_reducible refine' ev_un ?_ ?_ | with_reducible exact rv_I0 | with_reducible exact rv_isN | with_reducible exact rv_notN | with_reducible refine' rv_I ?_ | with_reducible refine' rv_eq ?_ | with_reducible refine' rv_ne ?_ | with_reducible refine' ev_op ?_ ?_ ?_ | with_reducible refine' ev_chain2 ?_ ?_ ?_ ?_ ?_ | with_reducible refine' et_B ?_ | with_reducible refine' et_test ?_ | with_reducible refine' et_and2 ?_ ?_ | with_reducible refine' et_or2 ?_ ?_ | with_reducible refine' et_not ?_ | with_reducible refine' ev_call ?_ ?_ | with_reducible refine' ev_callS ?_ ?_ | with_reducible refine' ev_cb ?_ ?_ | with_reducible exact isi_bool (by assumption) | with_reducible exact isi_int (by assumption) | with_reducible exact isi_list (by assumption) | with_reducible exact rc_len (by assumption) | with_reducible exact rc_sum (by assumption) | with_reducible exact rc_abs | with_reducible exact isi_listL (by assumption) | with_reducible exact isi_intI | with_reducible exact isi_boolI | with_reducible exact rc_lenT (by assumption) | with_reducible exact isi_tup (by assumption) | with_reducible exact rv_eqL (by assumption) (by assumption) | with_reducible exact rv_neL (by assumption) (by assumption) | with_reducible exact rv_neT (by assumption) (by assumption) | with_reducible exact rv_ixL (by assumption) (by assumption) | with_reducible exact rv_ixT (by assumption) (by assumption) | with_reducible refine' ev_din ?_ ?_ (by assumption) | with_reducible refine' ev_dnotin ?_ ?_ (by assumption) | with_reducible refine' ev_dget ?_ ?_ (by assumption) (by assumption) | ((with_reducible show SpV _ _ _ _); assumption) | ((with_reducible show RV _ _ _ _ _); assumption) | ((with_reducible show RC _ _ _ _); assumption) | ((with_reducible show CDiv _ _); exact ⟨by omega, by omega⟩) | ((with_reducible show CMul _ _); first | exact .inl ⟨by omega, by omega⟩ | exact .inr ⟨by omega, by omega⟩) | ((with_reducible show CPow _ _); exact ⟨by omega, by omega, by first | decide | assumption | omega⟩) | ((with_reducible show (0 : Int) < _); omega) | ((with_reducible show (0 : Int) ≤ _); omega) | ((with_reducible show scal _ _ = true); rfl)))) (congrArg V.int (by
        rw [Int.natCast_emod, Int.natCast_add]))) fun H4 e4 => ?_
      have hs6 : (it.1.length + n) % l < l := Nat.mod_lt _ (by omega)
      have hT : longT l it n = if it.2.1 / 2 ^ ((it.1.length + n) % l) % 2 = 0 ∧ (it.1.length + 1 < l ∨ n = it.2.2) then some (it.1 ++ [n], it.2.1 ||| 2 ^ ((it.1.length + n) % l), it.2.2 - n) else none := rfl
      generalize (it.1.length + n) % l = s at *
      have bt := bits_truth it.2.1 s
      have hr : (List.range (n + 1)).filterMap (longT l it) = (List.range n).filterMap (longT l it) ++ (match longT l it n with
        | some x => [x]
        | none => []) := by
        rw [List.range_succ, List.filterMap_append]
        congr 1
        rw [List.filterMap_cons, List.filterMap_nil]
        cases longT l it n <;> rfl
      refine s_when (b := !(!decide (it.2.1 / 2 ^ s % 2 = 0)) && (decide ((it.1.length : Int) + 1 < (l : Int)) || decide (V.int (n : Int) = V.int (it.2.2 : Int)))) (et_and2 (et_not (et_tru (v := .int (Builtin.bitAnd ((it.2.1 : Int) / 2 ^ (s : Int).toNat) 1)) (by (repeat' (first | with_reducible exact ev_c | ((with_reducible show Ev (tVar _) _ _ _); exact ev_var rfl) | with_reducible exact ea_nil | with_reducible exact eo_none | with_reducible refine' ea_cons ?_ ?_ | with_reducible refine' eo_some ?_ | with_reducible refine' ev_and2 ?_ ?_ | with_reducible refine' ev_or2 ?_ ?_ | with_reducible refine' ev_notV ?_ | with_reducible exact ru_I | with_reducible refine' ev_un ?_ ?_ | with_reducible exact rv_I0 | with_reducible exact rv_isN | with_reducible exact rv_notN | with_reducible refine' rv_I ?_ | with_reducible refine' rv_eq ?_ | with_reducible refine' rv_ne ?_ | with_reducible refine' ev_op ?_ ?_ ?_ | with_reducible refine' ev_chain2 ?_ ?_ ?_ ?_ ?_ | with_reducible refine' et_B ?_ | with_reducible refine' et_test ?_ | with_reducible refine' et_and2 ?_ ?_ | with_reducible refine' et_or2 ?_ ?_ | with_reducible refine' et_not ?_ | with_reducible refine' ev_call ?_ ?_ | with_reducible refine' ev_callS ?_ ?_ | with_reducible refine' ev_cb ?_ ?_ | with_reducible exact isi_bool (by assumption) | with_reducible exact isi_int (by assumption) | with_reducible exact isi_list (by assumption) | with_reducible exact rc_len (by assumption) | with_reducible exact rc_sum (by assumption) | with_reducible exact rc_abs | with_reducible exact isi_listL (by assumption) | with_reducible exact isi_intI | with_reducible exact isi_boolI | with_reducible exact rc_lenT (by assumption) | with_reducible exact isi_tup (by assumption) | with_reducible exact rv_eqL (by assumption) (by assumption) | with_reducible exact rv_neL (by assumption) (by assumption) | with_reducible exact rv_neT (by assumption) (by assumption) | with_reducible exact rv_ixL (by assumption) (by assumption) | with_reducible exact rv_ixT (by assumption) (by assumption) | with_reducible refine' ev_din ?_ ?_ (by assumption) | with_reducible refine' ev_dnotin ?_ ?_ (by assumption) | with_reducible refine' ev_dget ?_ ?_ (by assumption) (by assumption) | ((with_reducible show SpV _ _ _ _); assumption) | ((with_reducible show RV _ _ _ _ _); assumption) | ((with_reducible show RC _ _ _ _); assumption) | ((with_reducible show CDiv _ _); exact ⟨by omega, by omega⟩) | ((with_reducible show CMul _ _); first | exact .inl ⟨by omega, by omega⟩ | exact .inr ⟨by omega, by omega⟩) | ((with_reducible show CPow _ _); exact ⟨by omega, by omega, by first | decide | assumption | omega⟩) | ((with_reducible show (0 : Int) < _); omega) | ((with_reducible show (0 : Int) ≤ _); omega) | ((with_reducible show scal _ _ = true); rfl)))) (fun _ _ => bt.symm))) (by (repeat' (first | with_reducible exact ev_c | ((with_reducible show Ev (tVar _) _ _ _); exact ev_var rfl) | with_reducible exact ea_nil | with_reducible exact eo_none | with_reducible refine' ea_cons ?_ ?_ | with_reducible refine' eo_some ?_ | with_reducible refine' ev_and2 ?_ ?_ | with_reducible refine' ev_or2 ?_ ?_ | with_reducible refine' ev_notV ?_ | with_reducible exact ru_I | with_reducible refine' ev_un ?_ ?_ | with_reducible exact rv_I0 | with_reducible exact rv_isN | with_reducible exact rv_notN | with_reducible refine' rv_I ?_ | with_reducible refine' rv_eq ?_ | with_reducible refine' rv_ne ?_ | with_reducible refine' ev_op ?_ ?_ ?_ | with_reducible refine' ev_chain2 ?_ ?_ ?_ ?_ ?_ | with_reducible refine' et_B ?_ | with_reducible refine' et_test ?_ | with_reducible refine' et_and2 ?_ ?_ | with_reducible refine' et_or2 ?_ ?_ | with_reducible refine' et_not ?_ | with_reducible refine' ev_call ?_ ?_ | with_reducible refine' ev_callS ?_ ?_ | with_reducible refine' ev_cb ?_ ?_ | with_reducible exact isi_bool (by assumption) | with_reducible exact isi_int (by assumption) | with_reducible exact isi_list (by assumption) | with_reducible exact rc_len (by assumption) | with_reducible exact rc_sum (by assumption) | with_reducible exact rc_abs | with_reducible exact isi_listL (by assumption) | with_reducible exact isi_intI | with_reducible exact isi_boolI | with_reducible exact rc_lenT (by assumption) | with_reducible exact isi_tup (by assumption) | with_reducible exact rv_eqL (by assumption) (by assumption) | with_reducible exact rv_neL (by assumption) (by assumption) | with_reducible exact rv_neT (by assumption) (by assumption) | with_reducible exact rv_ixL (by assumption) (by assumption) | with_reducible exact rv_ixT (by assumption) (by assumption) | with_reducible refine' ev_din ?_ ?_ (by assumption) | with_reducible refine' ev_dnotin ?_ ?_ (by assumption) | with_reducible refine' ev_dget ?_ ?_ (by assumption) (by assumption) | ((with_reducible show SpV _ _ _ _); assumption) | ((with_reducible show RV _ _ _ _ _); assumption) | ((with_reducible show RC _ _ _ _); assumption) | ((with_reducible show CDiv _ _); exact ⟨by omega, by omega⟩) | ((with_reducible show CMul _ _); first | exact .inl ⟨by omega, by omega⟩ | exact .inr ⟨by omega, by omega⟩) | ((with_reducible show CPow _ _); exact ⟨by omega, by omega, by first | decide | assumption | omega⟩) | ((with_reducible show (0 : Int) < _); omega) | ((with_reducible show (0 : Int) ≤ _); omega) | ((with_reducible show scal _ _ = true); rfl))))) (fun hb H5 e5 => ?_) (fun hb H5 e5 => ?_)
      · rw [Bool.not_not, Bool.and_eq_true, Bool.or_eq_true, decide_eq_true_iff, decide_eq_true_iff, decide_eq_true_iff] at hb
        have hc : it.2.1 / 2 ^ s % 2 = 0 ∧ (it.1.length + 1 < l ∨ n = it.2.2) := ⟨hb.1, by
          rcases hb.2 with z | z
          · exact .inl (by omega)
          · injection z with z
            exact .inr (by omega)⟩
        rw [if_pos hc] at hT
        rw [hT] at hr
        have x1 : Builtin.bitOr (it.2.1 : Int) (1 * 2 ^ (s : Int).toNat) = ((it.2.1 ||| 2 ^ s : Nat) : Int) := by
          rw [show (1 : Int) * 2 ^ (s : Int).toNat = ((2 ^ s : Nat) : Int) by rw [Int.one_mul, Int.toNat_natCast, Int.natCast_pow]; rfl, Bits.bitOr_pp (Int.natCast_nonneg _) (Int.natCast_nonneg _), Int.toNat_natCast, Int.toNat_natCast]
        have h5 := (e4.trans e5) _ _ h3
        have hp5 : H5 p = some (.lst (ntV it.1)) := (e1.trans (e3.trans (e4.trans e5))) _ _ hp
        refine s_appLVV (v := .int ((it.2.1 ||| 2 ^ s : Nat) : Int)) (w := .int ((it.2.2 - n : Nat) : Int)) h5 (by (repeat' (first | with_reducible exact ev_c | ((with_reducible show Ev (tVar _) _ _ _); exact ev_var rfl) | with_reducible exact ea_nil | with_reducible exact eo_none | with_reducible refine' ea_cons ?_ ?_ | with_reducible refine' eo_some ?_ | with_reducible refine' ev_and2 ?_ ?_ | with_reducible refine' ev_or2 ?_ ?_ | with_reducible refine' ev_notV ?_ | with_reducible exact ru_I | with_reducible refine' ev_un ?_ ?_ | with_reducible exact rv_I0 | with_reducible exact rv_isN | with_reducible exact rv_notN | with_reducible refine' rv_I ?_ | with_reducible refine' rv_eq ?_ | with_reducible refine' rv_ne ?_ | with_reducible refine' ev_op ?_ ?_ ?_ | with_reducible refine' ev_chain2 ?_ ?_ ?_ ?_ ?_ | with_reducible refine' et_B ?_ | with_reducible refine' et_test ?_ | with_reducible refine' et_and2 ?_ ?_ | with_reducible refine' et_or2 ?_ ?_ | with_reducible refine' et_not ?_ | with_reducible refine' ev_call ?_ ?_ | with_reducible refine' ev_callS ?_ ?_ | with_reducible refine' ev_cb ?_ ?_ | with_reducible exact isi_bool (by assumption) | with_reducible exact isi_int (by assumption) | with_reducible exact isi_list (by assumption) | with_reducible exact rc_len (by assumption) | with_reducible exact rc_sum (by assumption) | with_reducible exact rc_abs | with_reducible exact isi_listL (by assumption) | with_reducible exact isi_intI | with_reducible exact isi_boolI | with_reducible exact rc_lenT (by assumption) | with_reducible exact isi_tup (by assumption) | with_reducible exact rv_eqL (by assumption) (by assumption) | with_reducible exact rv_neL (by assumption) (by assumption) | with_reducible exact rv_neT (by assumption) (by assumption) | with_reducible exact rv_ixL (by assumption) (by assumption) | with_reducible exact rv_ixT (by assumption) (by assumption) | with_reducible refine' ev_din ?_ ?_ (by assumption) | with_reducible refine' ev_dnotin ?_ ?_ (by assumption) | with_reducible refine' ev_dget ?_ ?_ (by assumption) (by assumption) | ((with_reducible show SpV _ _ _ _); assumption) | ((with_reducible show RV _ _ _ _ _); assumption) | ((with_reducible show RC _ _ _ _); assumption) | ((with_reducible show CDiv _ _); exact ⟨by omega, by omega⟩) | ((with_reducible show CMul _ _); first | exact .inl ⟨by omega, by omega⟩ | exact .inr ⟨by omega, by omega⟩) | ((with_reducible show CPow _ _); exact ⟨by omega, by omega, by first | decide | assumption | omega⟩) | ((with_reducible show (0 : Int) < _); omega) | ((with_reducible show (0 : Int) ≤ _); omega) | ((with_reducible show scal _ _ = true); rfl)))) (xs := ds.map fun d : Addr × Addr => V.ref d.1) (ys := ntV (it.1 ++ [n])) ?_ (ev_is (by (repeat' (first | with_reducible exact ev_c | ((with_reducible show Ev (tVar _) _ _ _); exact ev_var rfl) | with_reducible exact ea_nil | with_reducible exact eo_none | with_reducible refine' ea_cons ?_ ?_ | with_reducible refine' eo_some ?_ | with_reducible refine' ev_and2 ?_ ?_ | with_reducible refine' ev_or2 ?_ ?_ | with_reducible refine' ev_notV ?_ | with_reducible exact ru_I | with_reducible refine' ev_un ?_ ?_ | with_reducible exact rv_I0 | with_reducible exact rv_isN | with_reducible exact rv_notN | with_reducible refine' rv_I ?_ | with_reducible refine' rv_eq ?_ | with_reducible refine' rv_ne ?_ | with_reducible refine' ev_op ?_ ?_ ?_ | with_reducible refine' ev_chain2 ?_ ?_ ?_ ?_ ?_ | with_reducible refine' et_B ?_ | with_reducible refine' et_test ?_ | with_reducible refine' et_and2 ?_ ?_ | with_reducible refine' et_or2 ?_ ?_ | with_reducible refine' et_not ?_ | with_reducible refine' ev_call ?_ ?_ | with_reducible refine' ev_callS ?_ ?_ | with_reducible refine' ev_cb ?_ ?_ | with_reducible exact isi_bool (by assumption) | with_reducible exact isi_int (by assumption) | with_reducible exact isi_list (by assumption) | with_reducible exact rc_len (by assumption) | with_reducible exact rc_sum (by assumption) | with_reducible exact rc_abs | with_reducible exact isi_listL (by assumption) | with_reducible exact isi_intI | with_reducible exact isi_boolI | with_reducible exact rc_lenT (by assumption) | with_reducible exact isi_tup (by assumption) | with_reducible exact rv_eqL (by assumption) (by assumption) | with_reducible exact rv_neL (by assumption) (by assumption) | with_reducible exact rv_neT (by assumption) (by assumption) | with_reducible exact rv_ixL (by assumption) (by assumption) | with_reducible exact rv_ixT (by assumption) (by assumption) | with_reducible refine' ev_din ?_ ?_ (by assumption) | with_reducible refine' ev_dnotin ?_ ?_ (by assumption) | with_reducible refine' ev_dget ?_ ?_ (by assumption) (by assumption) | ((with_reducible show SpV _ _ _ _); assumption) | ((with_reducible show RV _ _ _ _ _); assumption) | ((with_reducible show RC _ _ _ _); assumption) | ((with_reducible show CDiv _ _); exact ⟨by omega, by omega⟩) | ((with_reducible show CMul _ _); first | exact .inl ⟨by omega, by omega⟩ | exact .inr ⟨by omega, by omega⟩) | ((with_reducible show CPow _ _); exact ⟨by omega, by omega, by first | decide | assumption | omega⟩) | ((with_reducible show (0 : Int) < _); omega) | ((with_reducible show (0 : Int) ≤ _); omega) | ((with_reducible show scal _ _ = true); rfl)))) (congrArg V.int x1)) (ev_is (v := .int ((it.2.2 : Int) - (n : Int))) (by (repeat' (first | with_reducible exact ev_c | ((with_reducible show Ev (tVar _) _ _ _); exact ev_var rfl) | with_reducible exact ea_nil | with_reducible exact eo_none | with_reducible refine' ea_cons ?_ ?_ | with_reducible refine' eo_some ?_ | with_reducible refine' ev_and2 ?_ ?_ | with_reducible refine' ev_or2 ?_ ?_ | with_reducible refine' ev_notV ?_ | with_reducible exact ru_I | with_reducible refine' ev_un ?_ ?_ | with_reducible exact rv_I0 | with_reducible exact rv_isN | with_reducible exact rv_notN | with_reducible refine' rv_I ?_ | with_reducible refine' rv_eq ?_ | with_reducible refine' rv_ne ?_ | with_reducible refine' ev_op ?_ ?_ ?_ | with_reducible refine' ev_chain2 ?_ ?_ ?_ ?_ ?_ | with_reducible refine' et_B ?_ | with_reducible refine' et_test ?_ | with_reducible refine' et_and2 ?_ ?_ | with_reducible refine' et_or2 ?_ ?_ | with_reducible refine' et_not ?_ | with_reducible refine' ev_call ?_ ?_ | with_reducible refine' ev_callS ?_ ?_ | with_reducible refine' ev_cb ?_ ?_ | with_reducible exact isi_bool (by assumption) | with_reducible exact isi_int (by assumption) | with_reducible exact isi_list (by assumption) | with_reducible exact rc_len (by assumption) | with_reducible exact rc_sum (by assumption) | with_reducible exact rc_abs | with_reducible exact isi_listL (by assumption) | with_reducible exact isi_intI | with_reducible exact isi_boolI | with_reducible exact rc_lenT (by assumption) | with_reducible exact isi_tup (by assumption) | with_reducible exact rv_eqL (by assumption) (by assumption) | with_reducible exact rv_neL (by assumption) (by assumption) | with_reducible exact rv_neT (by assumption) (by assumption) | with_reducible exact rv_ixL (by assumption) (by assumption) | with_reducible exact rv_ixT (by assumption) (by assumption) | with_reducible refine' ev_din ?_ ?_ (by assumption) | with_reducible refine' ev_dnotin ?_ ?_ (by assumption) | with_reducible refine' ev_dget ?_ ?_ (by assumption) (by assumption) | ((with_reducible show SpV _ _ _ _); assumption) | ((with_reducible show RV _ _ _ _ _); assumption) | ((with_reducible show RC _ _ _ _); assumption) | ((with_reducible show CDiv _ _); exact ⟨by omega, by omega⟩) | ((with_reducible show CMul _ _); first | exact .inl ⟨by omega, by omega⟩ | exact .inr ⟨by omega, by omega⟩) | ((with_reducible show CPow _ _); exact ⟨by omega, by omega, by first | decide | assumption | omega⟩) | ((with_reducible show (0 : Int) < _); omega) | ((with_reducible show (0 : Int) ≤ _); omega) | ((with_reducible show scal _ _ = true); rfl)))) (congrArg V.int (by omega))) (by rw [List.length_map]; omega) fun d e H6 hd he e6 g1 g2 => ?_
        · have ee : ntV (it.1 ++ [n]) = ntV it.1 ++ [V.int (n : Int)] := by rw [ntV, List.map_append]; rfl
          rw [ee]
          exact el_catVN (ev_var rfl) (el_lst (ea_cons (by (repeat' (first | with_reducible exact ev_c | ((with_reducible show Ev (tVar _) _ _ _); exact ev_var rfl) | with_reducible exact ea_nil | with_reducible exact eo_none | with_reducible refine' ea_cons ?_ ?_ | with_reducible refine' eo_some ?_ | with_reducible refine' ev_and2 ?_ ?_ | with_reducible refine' ev_or2 ?_ ?_ | with_reducible refine' ev_notV ?_ | with_reducible exact ru_I | with_reducible refine' ev_un ?_ ?_ | with_reducible exact rv_I0 | with_reducible exact rv_isN | with_reducible exact rv_notN | with_reducible refine' rv_I ?_ | with_reducible refine' rv_eq ?_ | with_reducible refine' rv_ne ?_ | with_reducible refine' ev_op ?_ ?_ ?_ | with_reducible refine' ev_chain2 ?_ ?_ ?_ ?_ ?_ | with_reducible refine' et_B ?_ | with_reducible refine' et_test ?_ | with_reducible refine' et_and2 ?_ ?_ | with_reducible refine' et_or2 ?_ ?_ | with_reducible refine' et_not ?_ | with_reducible refine' ev_call ?_ ?_ | with_reducible refine' ev_callS ?_ ?_ | with_reducible refine' ev_cb ?_ ?_ | with_reducible exact isi_bool (by assumption) | with_reducible exact isi_int (by assumption) | with_reducible exact isi_list (by assumption) | with_reducible exact rc_len (by assumption) | with_reducible exact rc_sum (by assumption) | with_reducible exact rc_abs | with_reducible exact isi_listL (by assumption) | with_reducible exact isi_intI | with_reducible exact isi_boolI | with_reducible exact rc_lenT (by assumption) | with_reducible exact isi_tup (by assumption) | with_reducible exact rv_eqL (by assumption) (by assumption) | with_reducible exact rv_neL (by assumption) (by assumption) | with_reducible exact rv_neT (by assumption) (by assumption) | with_reducible exact rv_ixL (by assumption) (by assumption) | with_reducible exact rv_ixT (by assumption) (by assumption) | with_reducible refine' ev_din ?_ ?_ (by assumption) | with_reducible refine' ev_dnotin ?_ ?_ (by assumption) | with_reducible refine' ev_dget ?_ ?_ (by assumption) (by assumption) | ((with_reducible show SpV _ _ _ _); assumption) | ((with_reducible show RV _ _ _ _ _); assumption) | ((with_reducible show RC _ _ _ _); assumption) | ((with_reducible show CDiv _ _); exact ⟨by omega, by omega⟩) | ((with_reducible show CMul _ _); first | exact .inl ⟨by omega, by omega⟩ | exact .inr ⟨by omega, by omega⟩) | ((with_reducible show CPow _ _); exact ⟨by omega, by omega, by first | decide | assumption | omega⟩) | ((with_reducible show (0 : Int) < _); omega) | ((with_reducible show (0 : Int) ≤ _); omega) | ((with_reducible show scal _ _ = true); rfl)))) ea_nil) (by simp)) hp5 (by rw [ntV, List.length_map]; simp; omega)
        · refine ⟨some (V.int (n : Int)), some (V.int (s : Int)), ds ++ [(d, e)], rfl, Ex.mut (((e3.trans e4).trans e5).trans e6) hf, ?_, ?_, by rw [List.length_append]; simp; omega, fun x hx => ?_⟩
          · rw [upd_same, List.map_append]
            rfl
          · rw [hr]
            have e36 := (e4.trans e5).trans e6
            exact HeldT.put ((hh.ex e36).app (HeldT.one (d := (d, e)) (it := (it.1 ++ [n], it.2.1 ||| 2 ^ s, it.2.2 - n)) (hw _ (fresh_back (e4.trans e5) he)) g1 g2)) h2 (e36 _ _ h3) _
          · have hne : x ≠ f := fun z => by rw [z, upd_same] at hx; cases hx
            rw [upd_ne hne] at hx
            exact hw x (fresh_back ((e4.trans e5).trans e6) hx)
      · have ha : longT l it n = none := by
          rw [hT, if_neg]
          rintro ⟨z1, z2⟩
          rw [Bool.not_not, Bool.and_eq_false_iff, Bool.or_eq_false_iff, decide_eq_false_iff_not, decide_eq_false_iff_not, decide_eq_false_iff_not] at hb
          rcases hb with c | ⟨c1, c2⟩
          · exact c z1
          · rcases z2 with z | z
            · omega
            · exact c2 (by rw [z])
        rw [ha, List.append_nil] at hr
        refine ⟨some (V.int (n : Int)), some (V.int (s : Int)), ds, rfl, (e3.trans e4).trans e5, (e4.trans e5) _ _ h3, ?_, by omega, fun x hx => hw x (fresh_back (e4.trans e5) hx)⟩
        rw [hr]
        exact hh.ex (e4.trans e5)
    · rintro σ' H3 ⟨y6, y7, ds, rfl, e3, h3, hh, hz, hw⟩
      rw [show ((it.2.2 : Int) + 1).toNat = it.2.2 + 1 by omega] at hh
      exact s_ret (v := .ref f) (by (repeat' (first | with_reducible exact ev_c | ((with_reducible show Ev (tVar _) _ _ _); exact ev_var rfl) | with_reducible exact ea_nil | with_reducible exact eo_none | with_reducible refine' ea_cons ?_ ?_ | with_reducible refine' eo_some ?_ | with_reducible refine' ev_and2 ?_ ?_ | with_reducible refine' ev_or2 ?_ ?_ | with_reducible refine' ev_notV ?_ | with_reducible exact ru_I | with_reducible refine' ev_un ?_ ?_ | with_reducible exact rv_I0 | with_reducible exact rv_isN | with_reducible exact rv_notN | with_reducible refine' rv_I ?_ | with_reducible refine' rv_eq ?_ | with_reducible refine' rv_ne ?_ | with_reducible refine' ev_op ?_ ?_ ?_ | with_reducible refine' ev_chain2 ?_ ?_ ?_ ?_ ?_ | with_reducible refine' et_B ?_ | with_reducible refine' et_test ?_ | with_reducible refine' et_and2 ?_ ?_ | with_reducible refine' et_or2 ?_ ?_ | with_reducible refine' et_not ?_ | with_reducible refine' ev_call ?_ ?_ | with_reducible refine' ev_callS ?_ ?_ | with_reducible refine' ev_cb ?_ ?_ | with_reducible exact isi_bool (by assumption) | with_reducible exact isi_int (by assumption) | with_reducible exact isi_list (by assumption) | with_reducible exact rc_len (by assumption) | with_reducible exact rc_sum (by assumption) | with_reducible exact rc_abs | with_reducible exact isi_listL (by assumption) | with_reducible exact isi_intI | with_reducible exact isi_boolI | with_reducible exact rc_lenT (by assumption) | with_reducible exact isi_tup (by assumption) | with_reducible exact rv_eqL (by assumption) (by assumption) | with_reducible exact rv_neL (by assumption) (by assumption) | with_reducible exact rv_neT (by assumption) (by assumption) | with_reducible exact rv_ixL (by assumption) (by assumption) | with_reducible exact rv_ixT (by assumption) (by assumption) | with_reducible refine' ev_din ?_ ?_ (by assumption) | with_reducible refine' ev_dnotin ?_ ?_ (by assumption) | with_reducible refine' ev_dget ?_ ?_ (by assumption) (by assumption) | ((with_reducible show SpV _ _ _ _); assumption) | ((with_reducible show RV _ _ _ _ _); assumption) | ((with_reducible show RC _ _ _ _); assumption) | ((with_reducible show CDiv _ _); exact ⟨by omega, by omega⟩) | ((with_reducible show CMul _ _); first | exact .inl ⟨by omega, by omega⟩ | exact .inr ⟨by omega, by omega⟩) | ((with_reducible show CPow _ _); exact ⟨by omega, by omega, by first | decide | assumption | omega⟩) | ((with_reducible show (0 : Int) < _); omega) | ((with_reducible show (0 : Int) ≤ _); omega) | ((with_reducible show scal _ _ = true); rfl)))) fun H4 e4 => q f ds H4 hf0 ((e1.trans e3).trans e4) (e4 _ _ h3) ((hh.ex e4).weak hH2)

theorem HeldT.weakD {H0 H1 H : Hp} {ds : List (Addr × Addr)} {its : List It} (h : HeldT H0 H ds its) (w : ∀ x, H0 x = none → H1 x = none) : HeldT H1 H ds its := ⟨h.1, fun i d it hd hi => ⟨w _ (h.2 i d it hd hi).1, (h.2 i d it hd hi).2⟩⟩
section
variable {K : PySem.W.Frag} {σ : L2.St} {H H' : Hp} {t1 t2 t3 te tl ta ta2 : TE} {ts : TA} {tz : TS} {D : Ends}
/-- xs = [(a new list, a value, a value)] -/
theorem q_asgOne {i : Nat} {ys : List V} {v w : V} (h1 : EvL t1 σ H ys) (h2 : Ev t2 σ H v) (h3 : Ev t3 σ H w)
    (k : ∀ p d e H1, H p = none → H d = none → H e = none → Ex H H1 → H1 p = some (.lst [.ref d]) → H1 d = some (.tup [.ref e, v, w]) → H1 e = some (.lst ys) → tz D (σ.set i (some (.ref p))) H1) : tSeq (tAsg (tLst (tCons (tTup (tCons t1 (tCons t2 (tCons t3 tNil)))) tNil)) (gName i)) tz D σ H :=
  h1 H (Ex.refl H) _ fun e H1 he e1 g1 => h2 H1 e1 _ fun H2 e2 => h3 H2 (e1.trans e2) _ fun H3 e3 => ⟨sz_of (by simp), fun d hd => ⟨sz_of (by simp), fun p hp =>
    have ee := (e1.trans e2).trans e3
    have f1 := Ex.new (o := .tup [.ref e, v, w]) hd
    have f2 := Ex.new (o := .lst [.ref d]) hp
    k p d e _ (fresh_back (ee.trans f1) hp) (fresh_back ee hd) he ((ee.trans f1).trans f2) upd_same (f2 _ _ upd_same) (f2 _ _ (f1 _ _ ((e2.trans e3) _ _ g1)))⟩⟩
/-- xs.extend(a call) -/
theorem s_extC {sp : Sp} {dvs vs xs : List V} {E : XK} {l : Addr} (hl : H l = some (.lst xs)) (ha : Ev ta σ H (.ref l)) (h : EvA ts σ H vs)
    (k : ∀ H1, Ex H H1 → sp (vs ++ dvs) H1 (fun v H2 => rExtend (.ref l) [v] H2 fun _ H3 => D.nx σ H3) E) : tDrop (tBM K "list" rExtend ta (tCons (tCall sp dvs E ts) tNil)) D σ H :=
  ha H (Ex.refl H) _ fun H1 e1 => ⟨Or.inl ⟨rfl, xs, sq_of (e1 l _ hl)⟩, h H1 e1 _ fun H2 e2 => k H2 (e1.trans e2)⟩
end
def HeldR (H : Hp) (rs : List Addr) (rows : List (List Nat)) : Prop := rs.length = rows.length ∧ ∀ (i : Nat) (r : Addr) (row : List Nat), rs[i]? = some r → rows[i]? = some row → H r = some (.lst (ntV row))
def RetR (rows : List (List Nat)) (H : Hp) (Q : VK) : Prop := ∀ q rs H2, H q = none → Ex H H2 → H2 q = some (.lst (rs.map V.ref)) → HeldR H2 rs rows → Q (.ref q) H2
theorem inB_int' {v : V} {lo hi : Int} (h : inB v lo hi = true) : ∃ x, v = .int x ∧ lo ≤ x ∧ x ≤ hi := by
  cases v with
  | int x =>
    refine ⟨x, rfl, ?_⟩
    simpa [inB] using h
  | _ => cases h
def patOk (a b : V) : Bool := inB a 1 6 && inB b 0 6
def sp_patterns (K : PySem.W.Frag) : Sp := fun vs H Q E => ∃ a b, vs = [a, b] ∧ Kd H a ∧ Kd H b ∧ (patOk a b = false → Give K (.err "OutOfBounds") H Q E) ∧ (∀ l k : Nat, a = .int (l : Int) → b = .int (k : Int) → 1 ≤ l → l ≤ 6 → k ≤ 6 → (∀ i, i ≤ l → (begunN l k i).length ≤ 1000) ∧ RetR (patN l k) H Q)
theorem sc_patterns : FnScope ["length", "balls", "begun", "beat", "more", "row", "taken", "left", "one"] ["length", "balls"] (defScope s_patterns) := ⟨rfl, rfl, rfl, by decide +kernel, rfl, by decide +kernel, by decide +kernel⟩
theorem ok_patterns {P : Program} {w : World} {K : PySem.W.Frag} {mg : Str → Option Value} {base : Heap} (T : TXT K mg) : OK P w K mg base "patterns" ["length", "balls"] 3 (sp_patterns K) := by
  have O_within := ok_within (P := P) (w := w) (base := base) T
  have O_longer := ok_longer (P := P) (w := w) (base := base) T
  obtain ⟨fd, F⟩ := T.def_ 3
  refine ⟨_, fd, T.glo 3, F.kp, F.bindsN (fun _ _ _ _ _ _ us hl => match us, hl with | [_, _], _ => rfl), F.ok sc_patterns (fun vs H Q E h => ?_) (fun cdv A outer s H vs Q E hr h => ?_), F.bindsA (fun _ _ _ _ _ _ us hl => match us, hl with | [_, _], _ => rfl)⟩
  · first | (obtain ⟨rfl, _⟩ := h; rfl) | (obtain ⟨_, rfl, _⟩ := h; rfl) | (obtain ⟨_, _, rfl, _⟩ := h; rfl) | (obtain ⟨_, _, _, rfl, _⟩ := h; rfl) | (obtain ⟨_, _, _, _, rfl, _⟩ := h; rfl) | (obtain ⟨_, _, _, _, _, rfl, _⟩ := h; rfl) | (obtain ⟨_, _, _, _, _, _, rfl, _⟩ := h; rfl) | (obtain ⟨_, _, _, _, _, _, _, rfl, _⟩ := h; rfl) | (obtain ⟨_, _, _, _, _, _, _, _, rfl, _⟩ := h; rfl)
  · replace F : FunD K "patterns" "patterns" (defArgs s_patterns) (defBody s_patterns) (defScope s_patterns) [] [] (He.ga K "patterns") fd := F
    refine ⟨_, (pss_cons (ps_if (PW.pt (pw_or (pt_not (pt_val (pe_own O_within (hr.mono (by decide)) (by rfl) (passes_call (takes_of rfl rfl rfl rfl) (fun _ _ _ _ h => h)) (pa_cons (pv 0) (pa_cons pe_int (pa_cons pe_int pa_nil)))))) (pw_or1 (pt_not (pt_val (pe_own O_within (hr.mono (by decide)) (by rfl) (passes_call (takes_of rfl rfl rfl rfl) (fun _ _ _ _ h => h)) (pa_cons (pv 1) (pa_cons pe_int (pa_cons pe_int pa_nil)))))))))
        (pss_one (ps_raise rfl (takes_of rfl rfl rfl rfl) (pmk_ex (T.fact 27) (T.glo 14))))
        pss_nil)
      (pss_cons (ps_set (i := 2) sc_patterns.nd rfl (Or.inl rfl) (pe_lst (pa_cons (pe_tup (pa_cons (pe_lst pa_nil) (pa_cons pe_int (pa_cons (pe_op op_mul (pv 1) (pv 0)) pa_nil)))) pa_nil)))
      (pss_cons (ps_for (passes_of rfl) rfl (pi_range1 (by rfl) (T.free 23) (pa_cons (pv 0) pa_nil)) (pg_name (i := 3) sc_patterns.nd rfl (Or.inl rfl))
        (pss_cons (ps_set (i := 4) sc_patterns.nd rfl (Or.inl rfl) (pe_lst pa_nil))
      (pss_cons (ps_for (passes_of rfl) rfl (k_piL K (pv 2)) (pg_tup rfl (pgs_cons (pg_name (i := 5) sc_patterns.nd rfl (Or.inl rfl)) (pgs_cons (pg_name (i := 6) sc_patterns.nd rfl (Or.inl rfl)) (pgs_cons (pg_name (i := 7) sc_patterns.nd rfl (Or.inl rfl)) pgs_nil))))
        (pss_one (ps_expr (pe_bm PySem.F.plainAttrs_list PySem.F.slot_list_extend PySem.F.type_list_extend mt_extend (pv 4) (pa_cons (pe_own O_longer (hr.mono (by decide)) (by rfl) (passes_call (takes_of rfl rfl rfl rfl) (fun _ _ _ _ h => h)) (pa_cons (pv 5) (pa_cons (pv 6) (pa_cons (pv 0) (pa_cons (pv 7) pa_nil))))) pa_nil)))))
      (pss_one (ps_set (i := 2) sc_patterns.nd rfl (Or.inl rfl) (pv 4))))))
      (pss_one (ps_ret (pe_lc (own := [("one", 8)]) (g := gName 8) (tt := tYes) rfl sc_patterns.nd (k_piL K (pv 2)) (blkOk_by (N := ["length", "balls", "begun", "beat", "more", "row", "taken", "left", "one"]) (sc := defScope s_patterns) (by decide +kernel)) (fun _ _ _ _ _ => pg_name (i := 8) sc_patterns.nd rfl (Or.inl rfl)) (fun _ _ _ _ _ => pts_nil) (fun _ _ _ _ _ => (pe_ix (k_ixT K) (pv 8) pe_int (fun _ _ => rfl))))))))), ?_⟩
    obtain ⟨a, b, rfl, ha, hb, qe, q⟩ := h
    dsimp only [cxOf, L2.start, List.map_cons, List.map_nil, List.length_cons, List.length_nil, Nat.reduceAdd, Nat.reduceSub, List.replicate_succ, List.replicate_zero, List.cons_append, List.nil_append, Nat.zero_add, List.reduceReplicate, List.map]
    have wa := sv_within (lo := 1) (hi := 6) ha
    have wb := sv_within (lo := 0) (hi := 6) hb
    refine q_when (b := !inB a 1 6 || !inB b 0 6) (by (repeat' (first | with_reducible exact ev_c | ((with_reducible show Ev (tVar _) _ _ _); exact ev_var rfl) | with_reducible exact ea_nil | with_reducible exact eo_none | with_reducible refine' ea_cons ?_ ?_ | with_reducible refine' eo_some ?_ | with_reducible refine' ev_and2 ?_ ?_ | with_reducible refine' ev_or2 ?_ ?_ | with_reducible refine' ev_notV ?_ | with_reducible exact ru_I | with_reducible refine' ev_un ?_ ?_ | with_reducible exact rv_I0 | with_reducible exact rv_isN | with_reducible exact rv_notN | with_reducible refine' rv_I ?_ | with_reducible refine' rv_eq ?_ | with_reducible refine' rv_ne ?_ | with_reducible refine' ev_op ?_ ?_ ?_ | with_reducible refine' ev_chain2 ?_ ?_ ?_ ?_ ?_ | with_reducible refine' et_B ?_ | with_reducible refine' et_test ?_ | with_reducible refine' et_and2 ?_ ?_ | with_reducible refine' et_or2 ?_ ?_ | with_reducible refine' et_not ?_ | with_reducible refine' ev_call ?_ ?_ | with_reducible refine' ev_callS ?_ ?_ | with_reducible refine' ev_cb ?_ ?_ | with_reducible exact isi_bool (by assumption) | with_reducible exact isi_int (by assumption) | with_reducible exact isi_list (by assumption) | with_reducible exact rc_len (by assumption) | with_reducible exact rc_sum (by assumption) | with_reducible exact rc_abs | with_reducible exact isi_listL (by assumption) | with_reducible exact isi_intI | with_reducible exact isi_boolI | with_reducible exact rc_lenT (by assumption) | with_reducible exact isi_tup (by assumption) | with_reducible exact rv_eqL (by assumption) (by assumption) | with_reducible exact rv_neL (by assumption) (by assumption) | with_reducible exact rv_neT (by assumption) (by assumption) | with_reducible exact rv_ixL (by assumption) (by assumption) | with_reducible exact rv_ixT (by assumption) (by assumption) | with_reducible refine' ev_din ?_ ?_ (by assumption) | with_reducible refine' ev_dnotin ?_ ?_ (by assumption) | with_reducible refine' ev_dget ?_ ?_ (by assumption) (by assumption) | ((with_reducible show SpV _ _ _ _); assumption) | ((with_reducible show RV _ _ _ _ _); assumption) | ((with_reducible show RC _ _ _ _); assumption) | ((with_reducible show CDiv _ _); exact ⟨by omega, by omega⟩) | ((with_reducible show CMul _ _); first | exact .inl ⟨by omega, by omega⟩ | exact .inr ⟨by omega, by omega⟩) | ((with_reducible show CPow _ _); exact ⟨by omega, by omega, by first | decide | assumption | omega⟩) | ((with_reducible show (0 : Int) < _); omega) | ((with_reducible show (0 : Int) ≤ _); omega) | ((with_reducible show scal _ _ = true); rfl)))) (fun hc H2 e2 => ?_) (fun hc H2 e2 => ?_)
    · refine qe ?_ H2 e2
      unfold patOk
      cases h1 : inB a 1 6 <;> cases h2 : inB b 0 6 <;> simp_all
    have hc2 : inB a 1 6 = true ∧ inB b 0 6 = true := by
      cases h1 : inB a 1 6 <;> cases h2 : inB b 0 6 <;> simp_all
    obtain ⟨x, rfl, x1, x6⟩ := inB_int' hc2.1
    obtain ⟨y, rfl, y0, y6⟩ := inB_int' hc2.2
    obtain ⟨l, rfl⟩ : ∃ l : Nat, x = (l : Int) := ⟨x.toNat, by omega⟩
    obtain ⟨k, rfl⟩ : ∃ k : Nat, y = (k : Int) := ⟨y.toNat, by omega⟩
    obtain ⟨hz, q⟩ := q l k rfl rfl (by omega) (by omega) (by omega)
    have kl : k * l ≤ 36 := by
      have := Nat.mul_le_mul (show k ≤ 6 by omega) (show l ≤ 6 by omega)
      exact this
    refine q_asgOne (ys := []) (v := .int 0) (w := .int ((k * l : Nat) : Int)) (el_lst ea_nil (by decide)) ev_c (ev_is (v := .int ((k : Int) * (l : Int))) (by (repeat' (first | with_reducible exact ev_c | ((with_reducible show Ev (tVar _) _ _ _); exact ev_var rfl) | with_reducible exact ea_nil | with_reducible exact eo_none | with_reducible refine' ea_cons ?_ ?_ | with_reducible refine' eo_some ?_ | with_reducible refine' ev_and2 ?_ ?_ | with_reducible refine' ev_or2 ?_ ?_ | with_reducible refine' ev_notV ?_ | with_reducible exact ru_I | with_reducible refine' ev_un ?_ ?_ | with_reducible exact rv_I0 | with_reducible exact rv_isN | with_reducible exact rv_notN | with_reducible refine' rv_I ?_ | with_reducible refine' rv_eq ?_ | with_reducible refine' rv_ne ?_ | with_reducible refine' ev_op ?_ ?_ ?_ | with_reducible refine' ev_chain2 ?_ ?_ ?_ ?_ ?_ | with_reducible refine' et_B ?_ | with_reducible refine' et_test ?_ | with_reducible refine' et_and2 ?_ ?_ | with_reducible refine' et_or2 ?_ ?_ | with_reducible refine' et_not ?_ | with_reducible refine' ev_call ?_ ?_ | with_reducible refine' ev_callS ?_ ?_ | with_reducible refine' ev_cb ?_ ?_ | with_reducible exact isi_bool (by assumption) | with_reducible exact isi_int (by assumption) | with_reducible exact isi_list (by assumption) | with_reducible exact rc_len (by assumption) | with_reducible exact rc_sum (by assumption) | with_reducible exact rc_abs | with_reducible exact isi_listL (by assumption) | with_reducible exact isi_intI | with_reducible exact isi_boolI | with_reducible exact rc_lenT (by assumption) | with_reducible exact isi_tup (by assumption) | with_reducible exact rv_eqL (by assumption) (by assumption) | with_reducible exact rv_neL (by assumption) (by assumption) | with_reducible exact rv_neT (by assumption) (by assumption) | with_reducible exact rv_ixL (by assumption) (by assumption) | with_reducible exact rv_ixT (by assumption) (by assumption) | with_reducible refine' ev_din ?_ ?_ (by assumption) | with_reducible refine' ev_dnotin ?_ ?_ (by assumption) | with_reducible refine' ev_dget ?_ ?_ (by assumption) (by assumption) | ((with_reducible show SpV _ _ _ _); assumption) | ((with_reducible show RV _ _ _ _ _); assumption) | ((with_reducible show RC _ _ _ _); assumption) | ((with_reducible show CDiv _ _); exact ⟨by omega, by omega⟩) | ((with_reducible show CMul _ _); first | exact .inl ⟨by omega, by omega⟩ | exact .inr ⟨by omega, by omega⟩) | ((with_reducible show CPow _ _); exact ⟨by omega, by omega, by first | decide | assumption | omega⟩) | ((with_reducible show (0 : Int) < _); omega) | ((with_reducible show (0 : Int) ≤ _); omega) | ((with_reducible show scal _ _ = true); rfl)))) (congrArg V.int (by rw [Int.natCast_mul]))) fun p0 d0 r0 H3 hp0 hd0 hr0 e3 g1 g2 g3 => ?_
    refine q_forR1 (n := (l : Int)) (by (repeat' (first | with_reducible exact ev_c | ((with_reducible show Ev (tVar _) _ _ _); exact ev_var rfl) | with_reducible exact ea_nil | with_reducible exact eo_none | with_reducible refine' ea_cons ?_ ?_ | with_reducible refine' eo_some ?_ | with_reducible refine' ev_and2 ?_ ?_ | with_reducible refine' ev_or2 ?_ ?_ | with_reducible refine' ev_notV ?_ | with_reducible exact ru_I | with_reducible refine' ev_un ?_ ?_ | with_reducible exact rv_I0 | with_reducible exact rv_isN | with_reducible exact rv_notN | with_reducible refine' rv_I ?_ | with_reducible refine' rv_eq ?_ | with_reducible refine' rv_ne ?_ | with_reducible refine' ev_op ?_ ?_ ?_ | with_reducible refine' ev_chain2 ?_ ?_ ?_ ?_ ?_ | with_reducible refine' et_B ?_ | with_reducible refine' et_test ?_ | with_reducible refine' et_and2 ?_ ?_ | with_reducible refine' et_or2 ?_ ?_ | with_reducible refine' et_not ?_ | with_reducible refine' ev_call ?_ ?_ | with_reducible refine' ev_callS ?_ ?_ | with_reducible refine' ev_cb ?_ ?_ | with_reducible exact isi_bool (by assumption) | with_reducible exact isi_int (by assumption) | with_reducible exact isi_list (by assumption) | with_reducible exact rc_len (by assumption) | with_reducible exact rc_sum (by assumption) | with_reducible exact rc_abs | with_reducible exact isi_listL (by assumption) | with_reducible exact isi_intI | with_reducible exact isi_boolI | with_reducible exact rc_lenT (by assumption) | with_reducible exact isi_tup (by assumption) | with_reducible exact rv_eqL (by assumption) (by assumption) | with_reducible exact rv_neL (by assumption) (by assumption) | with_reducible exact rv_neT (by assumption) (by assumption) | with_reducible exact rv_ixL (by assumption) (by assumption) | with_reducible exact rv_ixT (by assumption) (by assumption) | with_reducible refine' ev_din ?_ ?_ (by assumption) | with_reducible refine' ev_dnotin ?_ ?_ (by assumption) | with_reducible refine' ev_dget ?_ ?_ (by assumption) (by assumption) | ((with_reducible show SpV _ _ _ _); assumption) | ((with_reducible show RV _ _ _ _ _); assumption) | ((with_reducible show RC _ _ _ _); assumption) | ((with_reducible show CDiv _ _); exact ⟨by omega, by omega⟩) | ((with_reducible show CMul _ _); first | exact .inl ⟨by omega, by omega⟩ | exact .inr ⟨by omega, by omega⟩) | ((with_reducible show CPow _ _); exact ⟨by omega, by omega, by first | decide | assumption | omega⟩) | ((with_reducible show (0 : Int) < _); omega) | ((with_reducible show (0 : Int) ≤ _); omega) | ((with_reducible show scal _ _ = true); rfl)))) (by omega) (fun i σ' H' => ∃ (b : Addr) (y3 y4 y5 y6 y7 : Option V) (ds : List (Addr × Addr)), σ' = [some (V.int (l : Int)), some (V.int (k : Int)), some (V.ref b), y3, y4, y5, y6, y7, none] ∧ Ex H H' ∧ H' b = some (.lst (ds.map fun d : Addr × Addr => V.ref d.1)) ∧ HeldT H H' ds (begunN l k i)) (fun H4 e4 => ⟨p0, _, _, _, _, _, [(d0, r0)], rfl, (e2.trans e3).trans e4, e4 _ _ g1, HeldT.one (fresh_back e2 hr0) (e4 _ _ g2) (e4 _ _ g3)⟩) ?_ ?_
    · rintro i σ' H4 hi ⟨b, y3, y4, y5, y6, y7, ds, rfl, e4, h4, hh⟩
      have hi' : i < l := by omega
      refine q_asgL (xs := []) (el_lst ea_nil (by decide)) fun m H5 hm e5 g5 => ?_
      have hlen : ds.length = (begunN l k i).length := hh.1
      have hzi := hz i (by omega)
      have hzi1 := hz (i + 1) (by omega)
      have h5 := e5 _ _ h4
      have hbm : b ≠ m := ne_of_none h4 hm
      refine q_forL (a := b) (xs := ds.map fun d : Addr × Addr => V.ref d.1) (by (repeat' (first | with_reducible exact ev_c | ((with_reducible show Ev (tVar _) _ _ _); exact ev_var rfl) | with_reducible exact ea_nil | with_reducible exact eo_none | with_reducible refine' ea_cons ?_ ?_ | with_reducible refine' eo_some ?_ | with_reducible refine' ev_and2 ?_ ?_ | with_reducible refine' ev_or2 ?_ ?_ | with_reducible refine' ev_notV ?_ | with_reducible exact ru_I | with_reducible refine' ev_un ?_ ?_ | with_reducible exact rv_I0 | with_reducible exact rv_isN | with_reducible exact rv_notN | with_reducible refine' rv_I ?_ | with_reducible refine' rv_eq ?_ | with_reducible refine' rv_ne ?_ | with_reducible refine' ev_op ?_ ?_ ?_ | with_reducible refine' ev_chain2 ?_ ?_ ?_ ?_ ?_ | with_reducible refine' et_B ?_ | with_reducible refine' et_test ?_ | with_reducible refine' et_and2 ?_ ?_ | with_reducible refine' et_or2 ?_ ?_ | with_reducible refine' et_not ?_ | with_reducible refine' ev_call ?_ ?_ | with_reducible refine' ev_callS ?_ ?_ | with_reducible refine' ev_cb ?_ ?_ | with_reducible exact isi_bool (by assumption) | with_reducible exact isi_int (by assumption) | with_reducible exact isi_list (by assumption) | with_reducible exact rc_len (by assumption) | with_reducible exact rc_sum (by assumption) | with_reducible exact rc_abs | with_reducible exact isi_listL (by assumption) | with_reducible exact isi_intI | with_reducible exact isi_boolI | with_reducible exact rc_lenT (by assumption) | with_reducible exact isi_tup (by assumption) | with_reducible exact rv_eqL (by assumption) (by assumption) | with_reducible exact rv_neL (by assumption) (by assumption) | with_reducible exact rv_neT (by assumption) (by assumption) | with_reducible exact rv_ixL (by assumption) (by assumption) | with_reducible exact rv_ixT (by assumption) (by assumption) | with_reducible refine' ev_din ?_ ?_ (by assumption) | with_reducible refine' ev_dnotin ?_ ?_ (by assumption) | with_reducible refine' ev_dget ?_ ?_ (by assumption) (by assumption) | ((with_reducible show SpV _ _ _ _); assumption) | ((with_reducible show RV _ _ _ _ _); assumption) | ((with_reducible show RC _ _ _ _); assumption) | ((with_reducible show CDiv _ _); exact ⟨by omega, by omega⟩) | ((with_reducible show CMul _ _); first | exact .inl ⟨by omega, by omega⟩ | exact .inr ⟨by omega, by omega⟩) | ((with_reducible show CPow _ _); exact ⟨by omega, by omega, by first | decide | assumption | omega⟩) | ((with_reducible show (0 : Int) < _); omega) | ((with_reducible show (0 : Int) ≤ _); omega) | ((with_reducible show scal _ _ = true); rfl)))) (sq_of h5) (fun j σ' H' => ∃ (y5 y6 y7 : Option V) (es : List (Addr × Addr)), σ' = [some (V.int (l : Int)), some (V.int (k : Int)), some (V.ref b), some (V.int (i : Int)), some (V.ref m), y5, y6, y7, none] ∧ Ex H4 H' ∧ H' m = some (.lst (es.map fun d : Addr × Addr => V.ref d.1)) ∧ HeldT H5 H' es (((begunN l k i).take j).flatMap (longN l)) ∧ ∀ x, H' x = none → H5 x = none) (fun H6 e6 => ⟨_, _, _, [], rfl, e5.trans e6, e6 _ _ g5, HeldT.nil, fun x hx => fresh_back e6 hx⟩) (fun j σ' H6 _ h => by
        obtain ⟨_, _, _, _, _, h, _⟩ := h
        exact sq_of (h _ _ h4)) ?_ ?_
      · rintro j x σ' H6 hj ⟨y5, y6, y7, es, rfl, e6, h6, hes, hw⟩
        rw [List.getElem?_map] at hj
        obtain ⟨d, hd, rfl⟩ := Option.map_eq_some_iff.mp hj
        have hjl : j < (begunN l k i).length := by
          have := (List.getElem?_eq_some_iff.mp hd).1
          omega
        obtain ⟨_, t1, t2⟩ := hh.2 j d _ hd (List.getElem?_eq_getElem hjl)
        have hmem : (begunN l k i)[j] ∈ begunN l k i := List.getElem_mem hjl
        have htk : (begunN l k i).take (j + 1) = (begunN l k i).take j ++ [(begunN l k i)[j]] := by
          rw [List.take_add_one, List.getElem?_eq_getElem hjl]
          rfl
        obtain ⟨a1, a2, a3⟩ := begun_ok hmem
        have ll := long_len l (begunN l k i)[j]
        have hle := begun_take_len (l := l) (b := k) (i := i) (j := j) (by omega)
        have hel := hes.1
        generalize (begunN l k i)[j] = it at *
        refine ⟨d.1, _, rfl, st_of (e6 _ _ t1), rfl, _, _, rfl, _, _, rfl, _, _, rfl, rfl, ?_⟩
        refine s_extC (xs := es.map fun d : Addr × Addr => V.ref d.1) (vs := [.ref d.2, .int (it.2.1 : Int), .int (l : Int), .int (it.2.2 : Int)]) h6 (by (repeat' (first | with_reducible exact ev_c | ((with_reducible show Ev (tVar _) _ _ _); exact ev_var rfl) | with_reducible exact ea_nil | with_reducible exact eo_none | with_reducible refine' ea_cons ?_ ?_ | with_reducible refine' eo_some ?_ | with_reducible refine' ev_and2 ?_ ?_ | with_reducible refine' ev_or2 ?_ ?_ | with_reducible refine' ev_notV ?_ | with_reducible exact ru_I | with_reducible refine' ev_un ?_ ?_ | with_reducible exact rv_I0 | with_reducible exact rv_isN | with_reducible exact rv_notN | with_reducible refine' rv_I ?_ | with_reducible refine' rv_eq ?_ | with_reducible refine' rv_ne ?_ | with_reducible refine' ev_op ?_ ?_ ?_ | with_reducible refine' ev_chain2 ?_ ?_ ?_ ?_ ?_ | with_reducible refine' et_B ?_ | with_reducible refine' et_test ?_ | with_reducible refine' et_and2 ?_ ?_ | with_reducible refine' et_or2 ?_ ?_ | with_reducible refine' et_not ?_ | with_reducible refine' ev_call ?_ ?_ | with_reducible refine' ev_callS ?_ ?_ | with_reducible refine' ev_cb ?_ ?_ | with_reducible exact isi_bool (by assumption) | with_reducible exact isi_int (by assumption) | with_reducible exact isi_list (by assumption) | with_reducible exact rc_len (by assumption) | with_reducible exact rc_sum (by assumption) | with_reducible exact rc_abs | with_reducible exact isi_listL (by assumption) | with_reducible exact isi_intI | with_reducible exact isi_boolI | with_reducible exact rc_lenT (by assumption) | with_reducible exact isi_tup (by assumption) | with_reducible exact rv_eqL (by assumption) (by assumption) | with_reducible exact rv_neL (by assumption) (by assumption) | with_reducible exact rv_neT (by assumption) (by assumption) | with_reducible exact rv_ixL (by assumption) (by assumption) | with_reducible exact rv_ixT (by assumption) (by assumption) | with_reducible refine' ev_din ?_ ?_ (by assumption) | with_reducible refine' ev_dnotin ?_ ?_ (by assumption) | with_reducible refine' ev_dget ?_ ?_ (by assumption) (by assumption) | ((with_reducible show SpV _ _ _ _); assumption) | ((with_reducible show RV _ _ _ _ _); assumption) | ((with_reducible show RC _ _ _ _); assumption) | ((with_reducible show CDiv _ _); exact ⟨by omega, by omega⟩) | ((with_reducible show CMul _ _); first | exact .inl ⟨by omega, by omega⟩ | exact .inr ⟨by omega, by omega⟩) | ((with_reducible show CPow _ _); exact ⟨by omega, by omega, by first | decide | assumption | omega⟩) | ((with_reducible show (0 : Int) < _); omega) | ((with_reducible show (0 : Int) ≤ _); omega) | ((with_reducible show scal _ _ = true); rfl)))) (by (repeat' (first | with_reducible exact ev_c | ((with_reducible show Ev (tVar _) _ _ _); exact ev_var rfl) | with_reducible exact ea_nil | with_reducible exact eo_none | with_reducible refine' ea_cons ?_ ?_ | with_reducible refine' eo_some ?_ | with_reducible refine' ev_and2 ?_ ?_ | with_reducible refine' ev_or2 ?_ ?_ | with_reducible refine' ev_notV ?_ | with_reducible exact ru_I | with_reducible refine' ev_un ?_ ?_ | with_reducible exact rv_I0 | with_reducible exact rv_isN | with_reducible exact rv_notN | with_reducible refine' rv_I ?_ | with_reducible refine' rv_eq ?_ | with_reducible refine' rv_ne ?_ | with_reducible refine' ev_op ?_ ?_ ?_ | with_reducible refine' ev_chain2 ?_ ?_ ?_ ?_ ?_ | with_reducible refine' et_B ?_ | with_reducible refine' et_test ?_ | with_reducible refine' et_and2 ?_ ?_ | with_reducible refine' et_or2 ?_ ?_ | with_reducible refine' et_not ?_ | with_reducible refine' ev_call ?_ ?_ | with_reducible refine' ev_callS ?_ ?_ | with_reducible refine' ev_cb ?_ ?_ | with_reducible exact isi_bool (by assumption) | with_reducible exact isi_int (by assumption) | with_reducible exact isi_list (by assumption) | with_reducible exact rc_len (by assumption) | with_reducible exact rc_sum (by assumption) | with_reducible exact rc_abs | with_reducible exact isi_listL (by assumption) | with_reducible exact isi_intI | with_reducible exact isi_boolI | with_reducible exact rc_lenT (by assumption) | with_reducible exact isi_tup (by assumption) | with_reducible exact rv_eqL (by assumption) (by assumption) | with_reducible exact rv_neL (by assumption) (by assumption) | with_reducible exact rv_neT (by assumption) (by assumption) | with_reducible exact rv_ixL (by assumption) (by assumption) | with_reducible exact rv_ixT (by assumption) (by assumption) | with_reducible refine' ev_din ?_ ?_ (by assumption) | with_reducible refine' ev_dnotin ?_ ?_ (by assumption) | with_reducible refine' ev_dget ?_ ?_ (by assumption) (by assumption) | ((with_reducible show SpV _ _ _ _); assumption) | ((with_reducible show RV _ _ _ _ _); assumption) | ((with_reducible show RC _ _ _ _); assumption) | ((with_reducible show CDiv _ _); exact ⟨by omega, by omega⟩) | ((with_reducible show CMul _ _); first | exact .inl ⟨by omega, by omega⟩ | exact .inr ⟨by omega, by omega⟩) | ((with_reducible show CPow _ _); exact ⟨by omega, by omega, by first | decide | assumption | omega⟩) | ((with_reducible show (0 : Int) < _); omega) | ((with_reducible show (0 : Int) ≤ _); omega) | ((with_reducible show scal _ _ = true); rfl)))) fun H7 e7 => ?_
        refine ⟨d.2, it, l, rfl, (e6.trans e7) _ _ t2, by omega, by omega, a3 (by omega), by omega, fun q fs H8 hq e8 h8 hfs => ?_⟩
        refine ⟨m, q, _, _, rfl, rfl, (e7.trans e8) _ _ h6, h8, sz_of ?_, ?_⟩
        · rw [List.length_map, List.length_map]
          have := hfs.1
          omega
        · have e78 := e7.trans e8
          refine ⟨some (V.ref d.2), some (V.int (it.2.1 : Int)), some (V.int (it.2.2 : Int)), es ++ fs, rfl, Ex.mut (e6.trans e78) hm, ?_, ?_, fun x hx => ?_⟩
          · rw [upd_same, List.map_append]
          · rw [htk, List.flatMap_append, List.flatMap_singleton]
            exact HeldT.put ((hes.ex e78).app (hfs.weakD fun x hx => hw x (fresh_back e7 hx))) g5 (e78 _ _ h6) _
          · have hne : x ≠ m := fun z => by rw [z, upd_same] at hx; cases hx
            rw [upd_ne hne] at hx
            exact hw x (fresh_back e78 hx)
      · rintro σ' H6 ⟨y5, y6, y7, es, rfl, e6, h6, hes, hw⟩
        rw [List.length_map, hlen, List.take_length] at hes
        refine s_asg (v := .ref m) (by (repeat' (first | with_reducible exact ev_c | ((with_reducible show Ev (tVar _) _ _ _); exact ev_var rfl) | with_reducible exact ea_nil | with_reducible exact eo_none | with_reducible refine' ea_cons ?_ ?_ | with_reducible refine' eo_some ?_ | with_reducible refine' ev_and2 ?_ ?_ | with_reducible refine' ev_or2 ?_ ?_ | with_reducible refine' ev_notV ?_ | with_reducible exact ru_I | with_reducible refine' ev_un ?_ ?_ | with_reducible exact rv_I0 | with_reducible exact rv_isN | with_reducible exact rv_notN | with_reducible refine' rv_I ?_ | with_reducible refine' rv_eq ?_ | with_reducible refine' rv_ne ?_ | with_reducible refine' ev_op ?_ ?_ ?_ | with_reducible refine' ev_chain2 ?_ ?_ ?_ ?_ ?_ | with_reducible refine' et_B ?_ | with_reducible refine' et_test ?_ | with_reducible refine' et_and2 ?_ ?_ | with_reducible refine' et_or2 ?_ ?_ | with_reducible refine' et_not ?_ | with_reducible refine' ev_call ?_ ?_ | with_reducible refine' ev_callS ?_ ?_ | with_reducible refine' ev_cb ?_ ?_ | with_reducible exact isi_bool (by assumption) | with_reducible exact isi_int (by assumption) | with_reducible exact isi_list (by assumption) | with_reducible exact rc_len (by assumption) | with_reducible exact rc_sum (by assumption) | with_reducible exact rc_abs | with_reducible exact isi_listL (by assumption) | with_reducible exact isi_intI | with_reducible exact isi_boolI | with_reducible exact rc_lenT (by assumption) | with_reducible exact isi_tup (by assumption) | with_reducible exact rv_eqL (by assumption) (by assumption) | with_reducible exact rv_neL (by assumption) (by assumption) | with_reducible exact rv_neT (by assumption) (by assumption) | with_reducible exact rv_ixL (by assumption) (by assumption) | with_reducible exact rv_ixT (by assumption) (by assumption) | with_reducible refine' ev_din ?_ ?_ (by assumption) | with_reducible refine' ev_dnotin ?_ ?_ (by assumption) | with_reducible refine' ev_dget ?_ ?_ (by assumption) (by assumption) | ((with_reducible show SpV _ _ _ _); assumption) | ((with_reducible show RV _ _ _ _ _); assumption) | ((with_reducible show RC _ _ _ _); assumption) | ((with_reducible show CDiv _ _); exact ⟨by omega, by omega⟩) | ((with_reducible show CMul _ _); first | exact .inl ⟨by omega, by omega⟩ | exact .inr ⟨by omega, by omega⟩) | ((with_reducible show CPow _ _); exact ⟨by omega, by omega, by first | decide | assumption | omega⟩) | ((with_reducible show (0 : Int) < _); omega) | ((with_reducible show (0 : Int) ≤ _); omega) | ((with_reducible show scal _ _ = true); rfl)))) fun H7 e7 => ⟨m, _, _, _, _, _, es, rfl, (e4.trans e6).trans e7, e7 _ _ h6, ?_⟩
        exact (hes.weak (e4.trans e5)).ex e7
    · rintro σ' H4 ⟨b, y3, y4, y5, y6, y7, ds, rfl, e4, h4, hh⟩
      rw [show ((l : Int)).toNat = l by omega] at hh
      have hlen : ds.length = (begunN l k l).length := hh.1
      have hzl := hz l (Nat.le_refl _)
      have z := el_lcL (K := K) (σ := [some (V.int (l : Int)), some (V.int (k : Int)), some (V.ref b), y3, y4, y5, y6, y7, none]) (H := H4) (tl := tVar 2) (te := tOp (rIxT K) (tVar 8) (tC (.int 0))) (t := tYes) (j := 8) (vs := [8]) (xs := ds.map fun d : Addr × Addr => V.ref d.1) (fun _ => true) (fun i => V.ref (ds.getD i (0, 0)).2) (ev_var rfl) (sq_of h4) (by rw [List.length_map]; omega) (fun _ => rfl) (fun _ _ _ _ _ => et_yes) (fun i x H5 e5 hi _ => by
        rw [List.getElem?_map] at hi
        obtain ⟨d, hd, rfl⟩ := Option.map_eq_some_iff.mp hi
        have hil : i < (begunN l k l).length := by
          have := (List.getElem?_eq_some_iff.mp hd).1
          omega
        obtain ⟨_, t1, t2⟩ := hh.2 i d _ hd (List.getElem?_eq_getElem hil)
        have e2 : ds.getD i (0, 0) = d := by rw [List.getD_eq_getElem?_getD, hd]; rfl
        rw [e2]
        exact ev_op (ev_var rfl) ev_c (rv_ixT (st_of (e5 _ _ t1)) rfl))
      have eg : given (ds.map fun d : Addr × Addr => V.ref d.1).length (fun _ => true) (fun i => V.ref (ds.getD i (0, 0)).2) = (ds.map fun d : Addr × Addr => d.2).map V.ref := by
        rw [given_all, List.length_map]
        apply List.ext_getElem
        · simp
        · intro i h1 h2
          have h3 : i < ds.length := by simpa using h2
          simp only [List.getElem_map, List.getElem_range]
          rw [List.getD_eq_getElem?_getD, List.getElem?_eq_getElem h3]
          rfl
      rw [eg] at z
      refine s_retL z fun p H5 hp e5 h5 => q p _ H5 (fresh_back e4 hp) (e4.trans e5) h5 ⟨by rw [List.length_map, patN, List.length_map, hlen], fun i r row hr hrow => ?_⟩
      rw [List.getElem?_map] at hr
      obtain ⟨d, hd, rfl⟩ := Option.map_eq_some_iff.mp hr
      unfold patN at hrow
      rw [List.getElem?_map] at hrow
      obtain ⟨it, hit, rfl⟩ := Option.map_eq_some_iff.mp hrow
      exact e5 _ _ (hh.2 i d it hd hit).2.2

end TB

/-! ### the laws' own makers: cells, sizes, spots, throws -/
namespace TB
open PySem PySem.Spec PyProof.Rows L2 Evl
def sp_cell (K : PySem.W.Frag) : Sp := fun vs H Q E => ∃ (a : Addr) (ns : List Int) (k : Nat), vs = [.ref a, .int (k : Int)] ∧ SqL K H a (ns.map V.int) ∧ RetV (.int (ns.getD k 0)) H Q
theorem sv_cell {K : PySem.W.Frag} {H : Hp} {a : Addr} {ns : List Int} {k : Nat} (h : SqL K H a (ns.map V.int)) : SpV (sp_cell K) [.ref a, .int (k : Int)] H (.int (ns.getD k 0)) := spv_of fun H1 e Q E q => ⟨a, ns, k, rfl, ex_l e h, q⟩
theorem sc__law_cell_at : FnScope ["_law_script", "_law_k"] ["_law_script", "_law_k"] (defScope s__law_cell_at) := ⟨rfl, rfl, rfl, by decide +kernel, rfl, by decide +kernel, by decide +kernel⟩
theorem ok__law_cell_at {P : Program} {w : World} {K : PySem.W.Frag} {mg : Str → Option Value} {base : Heap} (T : TXT K mg) : OK P w K mg base "_law_cell_at" ["_law_script", "_law_k"] 1 (sp_cell K) := by
  obtain ⟨fd, F⟩ := T.def_ 4
  refine ⟨_, fd, T.glo 4, F.kp, F.bindsN (fun _ _ _ _ _ _ us hl => match us, hl with | [_, _], _ => rfl), F.ok sc__law_cell_at (fun vs H Q E h => ?_) (fun cdv A outer s H vs Q E hr h => ?_), F.bindsA (fun _ _ _ _ _ _ us hl => match us, hl with | [_, _], _ => rfl)⟩
  · first | (obtain ⟨rfl, _⟩ := h; rfl) | (obtain ⟨_, rfl, _⟩ := h; rfl) | (obtain ⟨_, _, rfl, _⟩ := h; rfl) | (obtain ⟨_, _, _, rfl, _⟩ := h; rfl) | (obtain ⟨_, _, _, _, rfl, _⟩ := h; rfl) | (obtain ⟨_, _, _, _, _, rfl, _⟩ := h; rfl) | (obtain ⟨_, _, _, _, _, _, rfl, _⟩ := h; rfl) | (obtain ⟨_, _, _, _, _, _, _, rfl, _⟩ := h; rfl) | (obtain ⟨_, _, _, _, _, _, _, _, rfl, _⟩ := h; rfl)
  · replace F : FunD K "_law_cell_at" "_law_cell_at" (defArgs s__law_cell_at) (defBody s__law_cell_at) (defScope s__law_cell_at) [] [] (He.ga K "_law_cell_at") fd := F
    refine ⟨_, (pss_cons (ps_if (pt_cmpR op_lt (pv 1) (pe_callB (id := "len") (k_len K) (by rfl) (T.free 19) (by decide +kernel) (pa_cons (pv 0) pa_nil)) (nomark _))
        (pss_one (ps_ret (pe_ix (k_ixL K) (pv 0) (pv 1) (fun _ _ => rfl))))
        pss_nil)
      (pss_one (ps_ret pe_int))), ?_⟩
    obtain ⟨a, ns, k, rfl, hs, q⟩ := h
    dsimp only [cxOf, L2.start, List.map_cons, List.map_nil, List.length_cons, List.length_nil, Nat.reduceAdd, Nat.reduceSub, List.replicate_succ, List.replicate_zero, List.cons_append, List.nil_append, Nat.zero_add, List.reduceReplicate, List.map]
    refine q_when (b := decide ((k : Int) < (ns.length : Int))) ?_ (fun hb H1 e1 => ?_) (fun hb H1 e1 => ?_)
    · apply et_is
      · (repeat' (first | with_reducible exact ev_c | ((with_reducible show Ev (tVar _) _ _ _); exact ev_var rfl) | with_reducible exact ea_nil | with_reducible exact eo_none | with_reducible refine' ea_cons ?_ ?_ | with_reducible refine' eo_some ?_ | with_reducible refine' ev_and2 ?_ ?_ | with_reducible refine' ev_or2 ?_ ?_ | with_reducible refine' ev_notV ?_ | with_reducible exact ru_I | with_reducible refine' ev_un ?_ ?_ | with_reducible exact rv_I0 | with_reducible exact rv_isN | with_reducible exact rv_notN | with_reducible refine' rv_I ?_ | with_reducible refine' rv_eq ?_ | with_reducible refine' rv_ne ?_ | with_reducible refine' ev_op ?_ ?_ ?_ | with_reducible refine' ev_chain2 ?_ ?_ ?_ ?_ ?_ | with_reducible refine' et_B ?_ | with_reducible refine' et_test ?_ | with_reducible refine' et_and2 ?_ ?_ | with_reducible refine' et_or2 ?_ ?_ | with_reducible refine' et_not ?_ | with_reducible refine' ev_call ?_ ?_ | with_reducible refine' ev_callS ?_ ?_ | with_reducible refine' ev_cb ?_ ?_ | with_reducible exact isi_bool (by assumption) | with_reducible exact isi_int (by assumption) | with_reducible exact isi_list (by assumption) | with_reducible exact rc_len (by assumption) | with_reducible exact rc_sum (by assumption) | with_reducible exact rc_abs | with_reducible exact isi_listL (by assumption) | with_reducible exact isi_intI | with_reducible exact isi_boolI | with_reducible exact rc_lenT (by assumption) | with_reducible exact isi_tup (by assumption) | with_reducible exact rv_eqL (by assumption) (by assumption) | with_reducible exact rv_neL (by assumption) (by assumption) | with_reducible exact rv_neT (by assumption) (by assumption) | with_reducible exact rv_ixL (by assumption) (by assumption) | with_reducible exact rv_ixT (by assumption) (by assumption) | with_reducible refine' ev_din ?_ ?_ (by assumption) | with_reducible refine' ev_dnotin ?_ ?_ (by assumption) | with_reducible refine' ev_dget ?_ ?_ (by assumption) (by assumption) | ((with_reducible show SpV _ _ _ _); assumption) | ((with_reducible show RV _ _ _ _ _); assumption) | ((with_reducible show RC _ _ _ _); assumption) | ((with_reducible show CDiv _ _); exact ⟨by omega, by omega⟩) | ((with_reducible show CMul _ _); first | exact .inl ⟨by omega, by omega⟩ | exact .inr ⟨by omega, by omega⟩) | ((with_reducible show CPow _ _); exact ⟨by omega, by omega, by first | decide | assumption | omega⟩) | ((with_reducible show (0 : Int) < _); omega) | ((with_reducible show (0 : Int) ≤ _); omega) | ((with_reducible show scal _ _ = true); rfl)))
      · rw [List.length_map]
    · have hk : k < ns.length := by
        have := of_decide_eq_true hb
        omega
      have hs1 := ex_l e1 hs
      have g := atI_int hk
      exact s_ret (by (repeat' (first | with_reducible exact ev_c | ((with_reducible show Ev (tVar _) _ _ _); exact ev_var rfl) | with_reducible exact ea_nil | with_reducible exact eo_none | with_reducible refine' ea_cons ?_ ?_ | with_reducible refine' eo_some ?_ | with_reducible refine' ev_and2 ?_ ?_ | with_reducible refine' ev_or2 ?_ ?_ | with_reducible refine' ev_notV ?_ | with_reducible exact ru_I | with_reducible refine' ev_un ?_ ?_ | with_reducible exact rv_I0 | with_reducible exact rv_isN | with_reducible exact rv_notN | with_reducible refine' rv_I ?_ | with_reducible refine' rv_eq ?_ | with_reducible refine' rv_ne ?_ | with_reducible refine' ev_op ?_ ?_ ?_ | with_reducible refine' ev_chain2 ?_ ?_ ?_ ?_ ?_ | with_reducible refine' et_B ?_ | with_reducible refine' et_test ?_ | with_reducible refine' et_and2 ?_ ?_ | with_reducible refine' et_or2 ?_ ?_ | with_reducible refine' et_not ?_ | with_reducible refine' ev_call ?_ ?_ | with_reducible refine' ev_callS ?_ ?_ | with_reducible refine' ev_cb ?_ ?_ | with_reducible exact isi_bool (by assumption) | with_reducible exact isi_int (by assumption) | with_reducible exact isi_list (by assumption) | with_reducible exact rc_len (by assumption) | with_reducible exact rc_sum (by assumption) | with_reducible exact rc_abs | with_reducible exact isi_listL (by assumption) | with_reducible exact isi_intI | with_reducible exact isi_boolI | with_reducible exact rc_lenT (by assumption) | with_reducible exact isi_tup (by assumption) | with_reducible exact rv_eqL (by assumption) (by assumption) | with_reducible exact rv_neL (by assumption) (by assumption) | with_reducible exact rv_neT (by assumption) (by assumption) | with_reducible exact rv_ixL (by assumption) (by assumption) | with_reducible exact rv_ixT (by assumption) (by assumption) | with_reducible refine' ev_din ?_ ?_ (by assumption) | with_reducible refine' ev_dnotin ?_ ?_ (by assumption) | with_reducible refine' ev_dget ?_ ?_ (by assumption) (by assumption) | ((with_reducible show SpV _ _ _ _); assumption) | ((with_reducible show RV _ _ _ _ _); assumption) | ((with_reducible show RC _ _ _ _); assumption) | ((with_reducible show CDiv _ _); exact ⟨by omega, by omega⟩) | ((with_reducible show CMul _ _); first | exact .inl ⟨by omega, by omega⟩ | exact .inr ⟨by omega, by omega⟩) | ((with_reducible show CPow _ _); exact ⟨by omega, by omega, by first | decide | assumption | omega⟩) | ((with_reducible show (0 : Int) < _); omega) | ((with_reducible show (0 : Int) ≤ _); omega) | ((with_reducible show scal _ _ = true); rfl)))) fun H2 e2 => q H2 (e1.trans e2)
    · have hk : ¬ k < ns.length := by
        have := of_decide_eq_false hb
        omega
      have z : ns.getD k 0 = 0 := by
        rw [List.getD_eq_getElem?_getD, List.getElem?_eq_none (by omega)]
        rfl
      rw [z] at q
      exact s_ret (by (repeat' (first | with_reducible exact ev_c | ((with_reducible show Ev (tVar _) _ _ _); exact ev_var rfl) | with_reducible exact ea_nil | with_reducible exact eo_none | with_reducible refine' ea_cons ?_ ?_ | with_reducible refine' eo_some ?_ | with_reducible refine' ev_and2 ?_ ?_ | with_reducible refine' ev_or2 ?_ ?_ | with_reducible refine' ev_notV ?_ | with_reducible exact ru_I | with_reducible refine' ev_un ?_ ?_ | with_reducible exact rv_I0 | with_reducible exact rv_isN | with_reducible exact rv_notN | with_reducible refine' rv_I ?_ | with_reducible refine' rv_eq ?_ | with_reducible refine' rv_ne ?_ | with_reducible refine' ev_op ?_ ?_ ?_ | with_reducible refine' ev_chain2 ?_ ?_ ?_ ?_ ?_ | with_reducible refine' et_B ?_ | with_reducible refine' et_test ?_ | with_reducible refine' et_and2 ?_ ?_ | with_reducible refine' et_or2 ?_ ?_ | with_reducible refine' et_not ?_ | with_reducible refine' ev_call ?_ ?_ | with_reducible refine' ev_callS ?_ ?_ | with_reducible refine' ev_cb ?_ ?_ | with_reducible exact isi_bool (by assumption) | with_reducible exact isi_int (by assumption) | with_reducible exact isi_list (by assumption) | with_reducible exact rc_len (by assumption) | with_reducible exact rc_sum (by assumption) | with_reducible exact rc_abs | with_reducible exact isi_listL (by assumption) | with_reducible exact isi_intI | with_reducible exact isi_boolI | with_reducible exact rc_lenT (by assumption) | with_reducible exact isi_tup (by assumption) | with_reducible exact rv_eqL (by assumption) (by assumption) | with_reducible exact rv_neL (by assumption) (by assumption) | with_reducible exact rv_neT (by assumption) (by assumption) | with_reducible exact rv_ixL (by assumption) (by assumption) | with_reducible exact rv_ixT (by assumption) (by assumption) | with_reducible refine' ev_din ?_ ?_ (by assumption) | with_reducible refine' ev_dnotin ?_ ?_ (by assumption) | with_reducible refine' ev_dget ?_ ?_ (by assumption) (by assumption) | ((with_reducible show SpV _ _ _ _); assumption) | ((with_reducible show RV _ _ _ _ _); assumption) | ((with_reducible show RC _ _ _ _); assumption) | ((with_reducible show CDiv _ _); exact ⟨by omega, by omega⟩) | ((with_reducible show CMul _ _); first | exact .inl ⟨by omega, by omega⟩ | exact .inr ⟨by omega, by omega⟩) | ((with_reducible show CPow _ _); exact ⟨by omega, by omega, by first | decide | assumption | omega⟩) | ((with_reducible show (0 : Int) < _); omega) | ((with_reducible show (0 : Int) ≤ _); omega) | ((with_reducible show scal _ _ = true); rfl)))) fun H2 e2 => q H2 (e1.trans e2)

def mixed (c k : Int) : Int := ((c + 977 * k + 31) * 48271 % 2147483647) * ((c + 977 * k + 31) * 48271 % 2147483647) % 2147483629
theorem mixed_nn (c k : Int) : 0 ≤ mixed c k := Int.emod_nonneg _ (by decide)
theorem mixed_lt (c k : Int) : mixed c k < 2147483629 := Int.emod_lt_of_pos _ (by decide)
def sp_mixed : Sp := fun vs H Q E => ∃ (c k : Int), vs = [.int c, .int k] ∧ RetV (.int (mixed c k)) H Q
theorem sv_mixed {H : Hp} {c k : Int} : SpV sp_mixed [.int c, .int k] H (.int (mixed c k)) := spv_of fun H1 e Q E q => ⟨c, k, rfl, q⟩
theorem sc__law_mixed : FnScope ["_law_cell", "_law_k", "_law_found"] ["_law_cell", "_law_k"] (defScope s__law_mixed) := ⟨rfl, rfl, rfl, by decide +kernel, rfl, by decide +kernel, by decide +kernel⟩
theorem ok__law_mixed {P : Program} {w : World} {K : PySem.W.Frag} {mg : Str → Option Value} {base : Heap} (T : TXT K mg) : OK P w K mg base "_law_mixed" ["_law_cell", "_law_k"] 1 (sp_mixed) := by
  obtain ⟨fd, F⟩ := T.def_ 5
  refine ⟨_, fd, T.glo 5, F.kp, F.bindsN (fun _ _ _ _ _ _ us hl => match us, hl with | [_, _], _ => rfl), F.ok sc__law_mixed (fun vs H Q E h => ?_) (fun cdv A outer s H vs Q E hr h => ?_), F.bindsA (fun _ _ _ _ _ _ us hl => match us, hl with | [_, _], _ => rfl)⟩
  · first | (obtain ⟨rfl, _⟩ := h; rfl) | (obtain ⟨_, rfl, _⟩ := h; rfl) | (obtain ⟨_, _, rfl, _⟩ := h; rfl) | (obtain ⟨_, _, _, rfl, _⟩ := h; rfl) | (obtain ⟨_, _, _, _, rfl, _⟩ := h; rfl) | (obtain ⟨_, _, _, _, _, rfl, _⟩ := h; rfl) | (obtain ⟨_, _, _, _, _, _, rfl, _⟩ := h; rfl) | (obtain ⟨_, _, _, _, _, _, _, rfl, _⟩ := h; rfl) | (obtain ⟨_, _, _, _, _, _, _, _, rfl, _⟩ := h; rfl)
  · replace F : FunD K "_law_mixed" "_law_mixed" (defArgs s__law_mixed) (defBody s__law_mixed) (defScope s__law_mixed) [] [] (He.ga K "_law_mixed") fd := F
    refine ⟨_, (pss_cons (ps_set (i := 2) sc__law_mixed.nd rfl (Or.inl rfl) (pe_op op_mod (pe_op op_mul (pe_op op_add (pe_op op_add (pv 0) (pe_op op_mul pe_int (pv 1))) pe_int) pe_int) pe_int))
      (pss_one (ps_ret (pe_op op_mod (pe_op op_mul (pv 2) (pv 2)) pe_int)))), ?_⟩
    obtain ⟨c, k, rfl, q⟩ := h
    dsimp only [cxOf, L2.start, List.map_cons, List.map_nil, List.length_cons, List.length_nil, Nat.reduceAdd, Nat.reduceSub, List.replicate_succ, List.replicate_zero, List.cons_append, List.nil_append, Nat.zero_add, List.reduceReplicate, List.map]
    refine q_asg (v := .int ((c + 977 * k + 31) * 48271 % 2147483647)) ?_ fun H1 e1 => ?_
    · (repeat' (first | with_reducible exact ev_c | ((with_reducible show Ev (tVar _) _ _ _); exact ev_var rfl) | with_reducible exact ea_nil | with_reducible exact eo_none | with_reducible refine' ea_cons ?_ ?_ | with_reducible refine' eo_some ?_ | with_reducible refine' ev_and2 ?_ ?_ | with_reducible refine' ev_or2 ?_ ?_ | with_reducible refine' ev_notV ?_ | with_reducible exact ru_I | with_reducible refine' ev_un ?_ ?_ | with_reducible exact rv_I0 | with_reducible exact rv_isN | with_reducible exact rv_notN | with_reducible refine' rv_I ?_ | with_reducible refine' rv_eq ?_ | with_reducible refine' rv_ne ?_ | with_reducible refine' ev_op ?_ ?_ ?_ | with_reducible refine' ev_chain2 ?_ ?_ ?_ ?_ ?_ | with_reducible refine' et_B ?_ | with_reducible refine' et_test ?_ | with_reducible refine' et_and2 ?_ ?_ | with_reducible refine' et_or2 ?_ ?_ | with_reducible refine' et_not ?_ | with_reducible refine' ev_call ?_ ?_ | with_reducible refine' ev_callS ?_ ?_ | with_reducible refine' ev_cb ?_ ?_ | with_reducible exact isi_bool (by assumption) | with_reducible exact isi_int (by assumption) | with_reducible exact isi_list (by assumption) | with_reducible exact rc_len (by assumption) | with_reducible exact rc_sum (by assumption) | with_reducible exact rc_abs | with_reducible exact isi_listL (by assumption) | with_reducible exact isi_intI | with_reducible exact isi_boolI | with_reducible exact rc_lenT (by assumption) | with_reducible exact isi_tup (by assumption) | with_reducible exact rv_eqL (by assumption) (by assumption) | with_reducible exact rv_neL (by assumption) (by assumption) | with_reducible exact rv_neT (by assumption) (by assumption) | with_reducible exact rv_ixL (by assumption) (by assumption) | with_reducible exact rv_ixT (by assumption) (by assumption) | with_reducible refine' ev_din ?_ ?_ (by assumption) | with_reducible refine' ev_dnotin ?_ ?_ (by assumption) | with_reducible refine' ev_dget ?_ ?_ (by assumption) (by assumption) | ((with_reducible show SpV _ _ _ _); assumption) | ((with_reducible show RV _ _ _ _ _); assumption) | ((with_reducible show RC _ _ _ _); assumption) | ((with_reducible show CDiv _ _); exact ⟨by omega, by omega⟩) | ((with_reducible show CMul _ _); first | exact .inl ⟨by omega, by omega⟩ | exact .inr ⟨by omega, by omega⟩) | ((with_reducible show CPow _ _); exact ⟨by omega, by omega, by first | decide | assumption | omega⟩) | ((with_reducible show (0 : Int) < _); omega) | ((with_reducible show (0 : Int) ≤ _); omega) | ((with_reducible show scal _ _ = true); rfl)))
    · have h1 : 0 ≤ (c + 977 * k + 31) * 48271 % 2147483647 := Int.emod_nonneg _ (by decide)
      have h2 : (c + 977 * k + 31) * 48271 % 2147483647 < 2147483647 := Int.emod_lt_of_pos _ (by decide)
      refine s_ret (v := .int (mixed c k)) ?_ fun H2 e2 => q H2 (e1.trans e2)
      apply ev_is
      · (repeat' (first | with_reducible exact ev_c | ((with_reducible show Ev (tVar _) _ _ _); exact ev_var rfl) | with_reducible exact ea_nil | with_reducible exact eo_none | with_reducible refine' ea_cons ?_ ?_ | with_reducible refine' eo_some ?_ | with_reducible refine' ev_and2 ?_ ?_ | with_reducible refine' ev_or2 ?_ ?_ | with_reducible refine' ev_notV ?_ | with_reducible exact ru_I | with_reducible refine' ev_un ?_ ?_ | with_reducible exact rv_I0 | with_reducible exact rv_isN | with_reducible exact rv_notN | with_reducible refine' rv_I ?_ | with_reducible refine' rv_eq ?_ | with_reducible refine' rv_ne ?_ | with_reducible refine' ev_op ?_ ?_ ?_ | with_reducible refine' ev_chain2 ?_ ?_ ?_ ?_ ?_ | with_reducible refine' et_B ?_ | with_reducible refine' et_test ?_ | with_reducible refine' et_and2 ?_ ?_ | with_reducible refine' et_or2 ?_ ?_ | with_reducible refine' et_not ?_ | with_reducible refine' ev_call ?_ ?_ | with_reducible refine' ev_callS ?_ ?_ | with_reducible refine' ev_cb ?_ ?_ | with_reducible exact isi_bool (by assumption) | with_reducible exact isi_int (by assumption) | with_reducible exact isi_list (by assumption) | with_reducible exact rc_len (by assumption) | with_reducible exact rc_sum (by assumption) | with_reducible exact rc_abs | with_reducible exact isi_listL (by assumption) | with_reducible exact isi_intI | with_reducible exact isi_boolI | with_reducible exact rc_lenT (by assumption) | with_reducible exact isi_tup (by assumption) | with_reducible exact rv_eqL (by assumption) (by assumption) | with_reducible exact rv_neL (by assumption) (by assumption) | with_reducible exact rv_neT (by assumption) (by assumption) | with_reducible exact rv_ixL (by assumption) (by assumption) | with_reducible exact rv_ixT (by assumption) (by assumption) | with_reducible refine' ev_din ?_ ?_ (by assumption) | with_reducible refine' ev_dnotin ?_ ?_ (by assumption) | with_reducible refine' ev_dget ?_ ?_ (by assumption) (by assumption) | ((with_reducible show SpV _ _ _ _); assumption) | ((with_reducible show RV _ _ _ _ _); assumption) | ((with_reducible show RC _ _ _ _); assumption) | ((with_reducible show CDiv _ _); exact ⟨by omega, by omega⟩) | ((with_reducible show CMul _ _); first | exact .inl ⟨by omega, by omega⟩ | exact .inr ⟨by omega, by omega⟩) | ((with_reducible show CPow _ _); exact ⟨by omega, by omega, by first | decide | assumption | omega⟩) | ((with_reducible show (0 : Int) < _); omega) | ((with_reducible show (0 : Int) ≤ _); omega) | ((with_reducible show scal _ _ = true); rfl)))
      · rfl

def sizeBy (c : Int) : Int := if c % 4 = 1 then 1 + c / 4 % 60 else 1 + c / 4 % 9
theorem sizeBy_1 (c : Int) : 1 ≤ sizeBy c := by
  unfold sizeBy
  split <;> omega
theorem sizeBy_60 (c : Int) : sizeBy c ≤ 60 := by
  unfold sizeBy
  split <;> omega
def sp_size : Sp := fun vs H Q E => ∃ (c : Int), vs = [.int c] ∧ RetV (.int (sizeBy c)) H Q
theorem sv_size {H : Hp} {c : Int} : SpV sp_size [.int c] H (.int (sizeBy c)) := spv_of fun H1 e Q E q => ⟨c, rfl, q⟩
theorem sc__law_size_by : FnScope ["_law_cell"] ["_law_cell"] (defScope s__law_size_by) := ⟨rfl, rfl, rfl, by decide +kernel, rfl, by decide +kernel, by decide +kernel⟩
theorem ok__law_size_by {P : Program} {w : World} {K : PySem.W.Frag} {mg : Str → Option Value} {base : Heap} (T : TXT K mg) : OK P w K mg base "_law_size_by" ["_law_cell"] 1 (sp_size) := by
  obtain ⟨fd, F⟩ := T.def_ 6
  refine ⟨_, fd, T.glo 6, F.kp, F.bindsN (fun _ _ _ _ _ _ us hl => match us, hl with | [_], _ => rfl), F.ok sc__law_size_by (fun vs H Q E h => ?_) (fun cdv A outer s H vs Q E hr h => ?_), F.bindsA (fun _ _ _ _ _ _ us hl => match us, hl with | [_], _ => rfl)⟩
  · first | (obtain ⟨rfl, _⟩ := h; rfl) | (obtain ⟨_, rfl, _⟩ := h; rfl) | (obtain ⟨_, _, rfl, _⟩ := h; rfl) | (obtain ⟨_, _, _, rfl, _⟩ := h; rfl) | (obtain ⟨_, _, _, _, rfl, _⟩ := h; rfl) | (obtain ⟨_, _, _, _, _, rfl, _⟩ := h; rfl) | (obtain ⟨_, _, _, _, _, _, rfl, _⟩ := h; rfl) | (obtain ⟨_, _, _, _, _, _, _, rfl, _⟩ := h; rfl) | (obtain ⟨_, _, _, _, _, _, _, _, rfl, _⟩ := h; rfl)
  · replace F : FunD K "_law_size_by" "_law_size_by" (defArgs s__law_size_by) (defBody s__law_size_by) (defScope s__law_size_by) [] [] (He.ga K "_law_size_by") fd := F
    refine ⟨_, (pss_cons (ps_if (pt_cmpR op_eq (pe_op op_mod (pv 0) pe_int) pe_int (nomark _))
        (pss_one (ps_ret (pe_op op_add pe_int (pe_op op_mod (pe_op op_fdiv (pv 0) pe_int) pe_int))))
        pss_nil)
      (pss_one (ps_ret (pe_op op_add pe_int (pe_op op_mod (pe_op op_fdiv (pv 0) pe_int) pe_int))))), ?_⟩
    obtain ⟨c, rfl, q⟩ := h
    dsimp only [cxOf, L2.start, List.map_cons, List.map_nil, List.length_cons, List.length_nil, Nat.reduceAdd, Nat.reduceSub, List.replicate_succ, List.replicate_zero, List.cons_append, List.nil_append, Nat.zero_add, List.reduceReplicate, List.map]
    refine q_when (b := decide (c % 4 = 1)) ?_ (fun hb H1 e1 => ?_) (fun hb H1 e1 => ?_)
    · apply et_is
      · (repeat' (first | with_reducible exact ev_c | ((with_reducible show Ev (tVar _) _ _ _); exact ev_var rfl) | with_reducible exact ea_nil | with_reducible exact eo_none | with_reducible refine' ea_cons ?_ ?_ | with_reducible refine' eo_some ?_ | with_reducible refine' ev_and2 ?_ ?_ | with_reducible refine' ev_or2 ?_ ?_ | with_reducible refine' ev_notV ?_ | with_reducible exact ru_I | with_reducible refine' ev_un ?_ ?_ | with_reducible exact rv_I0 | with_reducible exact rv_isN | with_reducible exact rv_notN | with_reducible refine' rv_I ?_ | with_reducible refine' rv_eq ?_ | with_reducible refine' rv_ne ?_ | with_reducible refine' ev_op ?_ ?_ ?_ | with_reducible refine' ev_chain2 ?_ ?_ ?_ ?_ ?_ | with_reducible refine' et_B ?_ | with_reducible refine' et_test ?_ | with_reducible refine' et_and2 ?_ ?_ | with_reducible refine' et_or2 ?_ ?_ | with_reducible refine' et_not ?_ | with_reducible refine' ev_call ?_ ?_ | with_reducible refine' ev_callS ?_ ?_ | with_reducible refine' ev_cb ?_ ?_ | with_reducible exact isi_bool (by assumption) | with_reducible exact isi_int (by assumption) | with_reducible exact isi_list (by assumption) | with_reducible exact rc_len (by assumption) | with_reducible exact rc_sum (by assumption) | with_reducible exact rc_abs | with_reducible exact isi_listL (by assumption) | with_reducible exact isi_intI | with_reducible exact isi_boolI | with_reducible exact rc_lenT (by assumption) | with_reducible exact isi_tup (by assumption) | with_reducible exact rv_eqL (by assumption) (by assumption) | with_reducible exact rv_neL (by assumption) (by assumption) | with_reducible exact rv_neT (by assumption) (by assumption) | with_reducible exact rv_ixL (by assumption) (by assumption) | with_reducible exact rv_ixT (by assumption) (by assumption) | with_reducible refine' ev_din ?_ ?_ (by assumption) | with_reducible refine' ev_dnotin ?_ ?_ (by assumption) | with_reducible refine' ev_dget ?_ ?_ (by assumption) (by assumption) | ((with_reducible show SpV _ _ _ _); assumption) | ((with_reducible show RV _ _ _ _ _); assumption) | ((with_reducible show RC _ _ _ _); assumption) | ((with_reducible show CDiv _ _); exact ⟨by omega, by omega⟩) | ((with_reducible show CMul _ _); first | exact .inl ⟨by omega, by omega⟩ | exact .inr ⟨by omega, by omega⟩) | ((with_reducible show CPow _ _); exact ⟨by omega, by omega, by first | decide | assumption | omega⟩) | ((with_reducible show (0 : Int) < _); omega) | ((with_reducible show (0 : Int) ≤ _); omega) | ((with_reducible show scal _ _ = true); rfl)))
      · exact dec_int.trans (by rw [Bool.eq_iff_iff]; simp)
    · have z : sizeBy c = 1 + c / 4 % 60 := if_pos (of_decide_eq_true hb)
      rw [z] at q
      refine s_ret ?_ fun H2 e2 => q H2 (e1.trans e2)
      (repeat' (first | with_reducible exact ev_c | ((with_reducible show Ev (tVar _) _ _ _); exact ev_var rfl) | with_reducible exact ea_nil | with_reducible exact eo_none | with_reducible refine' ea_cons ?_ ?_ | with_reducible refine' eo_some ?_ | with_reducible refine' ev_and2 ?_ ?_ | with_reducible refine' ev_or2 ?_ ?_ | with_reducible refine' ev_notV ?_ | with_reducible exact ru_I | with_reducible refine' ev_un ?_ ?_ | with_reducible exact rv_I0 | with_reducible exact rv_isN | with_reducible exact rv_notN | with_reducible refine' rv_I ?_ | with_reducible refine' rv_eq ?_ | with_reducible refine' rv_ne ?_ | with_reducible refine' ev_op ?_ ?_ ?_ | with_reducible refine' ev_chain2 ?_ ?_ ?_ ?_ ?_ | with_reducible refine' et_B ?_ | with_reducible refine' et_test ?_ | with_reducible refine' et_and2 ?_ ?_ | with_reducible refine' et_or2 ?_ ?_ | with_reducible refine' et_not ?_ | with_reducible refine' ev_call ?_ ?_ | with_reducible refine' ev_callS ?_ ?_ | with_reducible refine' ev_cb ?_ ?_ | with_reducible exact isi_bool (by assumption) | with_reducible exact isi_int (by assumption) | with_reducible exact isi_list (by assumption) | with_reducible exact rc_len (by assumption) | with_reducible exact rc_sum (by assumption) | with_reducible exact rc_abs | with_reducible exact isi_listL (by assumption) | with_reducible exact isi_intI | with_reducible exact isi_boolI | with_reducible exact rc_lenT (by assumption) | with_reducible exact isi_tup (by assumption) | with_reducible exact rv_eqL (by assumption) (by assumption) | with_reducible exact rv_neL (by assumption) (by assumption) | with_reducible exact rv_neT (by assumption) (by assumption) | with_reducible exact rv_ixL (by assumption) (by assumption) | with_reducible exact rv_ixT (by assumption) (by assumption) | with_reducible refine' ev_din ?_ ?_ (by assumption) | with_reducible refine' ev_dnotin ?_ ?_ (by assumption) | with_reducible refine' ev_dget ?_ ?_ (by assumption) (by assumption) | ((with_reducible show SpV _ _ _ _); assumption) | ((with_reducible show RV _ _ _ _ _); assumption) | ((with_reducible show RC _ _ _ _); assumption) | ((with_reducible show CDiv _ _); exact ⟨by omega, by omega⟩) | ((with_reducible show CMul _ _); first | exact .inl ⟨by omega, by omega⟩ | exact .inr ⟨by omega, by omega⟩) | ((with_reducible show CPow _ _); exact ⟨by omega, by omega, by first | decide | assumption | omega⟩) | ((with_reducible show (0 : Int) < _); omega) | ((with_reducible show (0 : Int) ≤ _); omega) | ((with_reducible show scal _ _ = true); rfl)))
    · have z : sizeBy c = 1 + c / 4 % 9 := if_neg (of_decide_eq_false hb)
      rw [z] at q
      refine s_ret ?_ fun H2 e2 => q H2 (e1.trans e2)
      (repeat' (first | with_reducible exact ev_c | ((with_reducible show Ev (tVar _) _ _ _); exact ev_var rfl) | with_reducible exact ea_nil | with_reducible exact eo_none | with_reducible refine' ea_cons ?_ ?_ | with_reducible refine' eo_some ?_ | with_reducible refine' ev_and2 ?_ ?_ | with_reducible refine' ev_or2 ?_ ?_ | with_reducible refine' ev_notV ?_ | with_reducible exact ru_I | with_reducible refine' ev_un ?_ ?_ | with_reducible exact rv_I0 | with_reducible exact rv_isN | with_reducible exact rv_notN | with_reducible refine' rv_I ?_ | with_reducible refine' rv_eq ?_ | with_reducible refine' rv_ne ?_ | with_reducible refine' ev_op ?_ ?_ ?_ | with_reducible refine' ev_chain2 ?_ ?_ ?_ ?_ ?_ | with_reducible refine' et_B ?_ | with_reducible refine' et_test ?_ | with_reducible refine' et_and2 ?_ ?_ | with_reducible refine' et_or2 ?_ ?_ | with_reducible refine' et_not ?_ | with_reducible refine' ev_call ?_ ?_ | with_reducible refine' ev_callS ?_ ?_ | with_reducible refine' ev_cb ?_ ?_ | with_reducible exact isi_bool (by assumption) | with_reducible exact isi_int (by assumption) | with_reducible exact isi_list (by assumption) | with_reducible exact rc_len (by assumption) | with_reducible exact rc_sum (by assumption) | with_reducible exact rc_abs | with_reducible exact isi_listL (by assumption) | with_reducible exact isi_intI | with_reducible exact isi_boolI | with_reducible exact rc_lenT (by assumption) | with_reducible exact isi_tup (by assumption) | with_reducible exact rv_eqL (by assumption) (by assumption) | with_reducible exact rv_neL (by assumption) (by assumption) | with_reducible exact rv_neT (by assumption) (by assumption) | with_reducible exact rv_ixL (by assumption) (by assumption) | with_reducible exact rv_ixT (by assumption) (by assumption) | with_reducible refine' ev_din ?_ ?_ (by assumption) | with_reducible refine' ev_dnotin ?_ ?_ (by assumption) | with_reducible refine' ev_dget ?_ ?_ (by assumption) (by assumption) | ((with_reducible show SpV _ _ _ _); assumption) | ((with_reducible show RV _ _ _ _ _); assumption) | ((with_reducible show RC _ _ _ _); assumption) | ((with_reducible show CDiv _ _); exact ⟨by omega, by omega⟩) | ((with_reducible show CMul _ _); first | exact .inl ⟨by omega, by omega⟩ | exact .inr ⟨by omega, by omega⟩) | ((with_reducible show CPow _ _); exact ⟨by omega, by omega, by first | decide | assumption | omega⟩) | ((with_reducible show (0 : Int) < _); omega) | ((with_reducible show (0 : Int) ≤ _); omega) | ((with_reducible show scal _ _ = true); rfl)))

def natsI (n : Nat) : List Int := (List.range n).map fun i : Nat => (i : Int)
theorem natsI_len (n : Nat) : (natsI n).length = n := by simp [natsI]
/-- the spots: some arrangement of 0, 1, .. -/
def sp_spots : Sp := fun vs H Q E => ∃ (n : Nat) (c : Int), vs = [.int (n : Int), .int c] ∧ n ≤ 60 ∧ 1 ≤ n ∧ ∀ xs : List Int, xs.Perm (natsI n) → RetL (xs.map V.int) H Q
theorem sc__law_spots_by : FnScope ["_law_size", "_law_cell", "_law_spots", "_law_k", "_law_other", "_law_first"] ["_law_size", "_law_cell"] (defScope s__law_spots_by) := ⟨rfl, rfl, rfl, by decide +kernel, rfl, by decide +kernel, by decide +kernel⟩
theorem ok__law_spots_by {P : Program} {w : World} {K : PySem.W.Frag} {mg : Str → Option Value} {base : Heap} (T : TXT K mg) : OK P w K mg base "_law_spots_by" ["_law_size", "_law_cell"] 2 (sp_spots) := by
  have O__law_mixed := ok__law_mixed (P := P) (w := w) (base := base) T
  obtain ⟨fd, F⟩ := T.def_ 7
  refine ⟨_, fd, T.glo 7, F.kp, F.bindsN (fun _ _ _ _ _ _ us hl => match us, hl with | [_, _], _ => rfl), F.ok sc__law_spots_by (fun vs H Q E h => ?_) (fun cdv A outer s H vs Q E hr h => ?_), F.bindsA (fun _ _ _ _ _ _ us hl => match us, hl with | [_, _], _ => rfl)⟩
  · first | (obtain ⟨rfl, _⟩ := h; rfl) | (obtain ⟨_, rfl, _⟩ := h; rfl) | (obtain ⟨_, _, rfl, _⟩ := h; rfl) | (obtain ⟨_, _, _, rfl, _⟩ := h; rfl) | (obtain ⟨_, _, _, _, rfl, _⟩ := h; rfl) | (obtain ⟨_, _, _, _, _, rfl, _⟩ := h; rfl) | (obtain ⟨_, _, _, _, _, _, rfl, _⟩ := h; rfl) | (obtain ⟨_, _, _, _, _, _, _, rfl, _⟩ := h; rfl) | (obtain ⟨_, _, _, _, _, _, _, _, rfl, _⟩ := h; rfl)
  · replace F : FunD K "_law_spots_by" "_law_spots_by" (defArgs s__law_spots_by) (defBody s__law_spots_by) (defScope s__law_spots_by) [] [] (He.ga K "_law_spots_by") fd := F
    refine ⟨_, (pss_cons (ps_setLc (i := 2) (own := [("_law_k", 3)]) (g := gName 3) (tt := tYes) rfl sc__law_spots_by.nd rfl rfl (sw_true rfl rfl rfl (by decide +kernel)) (pi_range1 (by rfl) (T.free 23) (pa_cons (pv 0) pa_nil)) (blkOk_by (N := ["_law_size", "_law_cell", "_law_spots", "_law_k", "_law_other", "_law_first"]) (sc := defScope s__law_spots_by) (by decide +kernel)) (fun _ _ _ _ _ => pg_name (i := 3) sc__law_spots_by.nd rfl (Or.inl rfl)) (fun _ _ _ _ _ => pts_nil) (fun _ _ _ _ _ => (pv 3)))
      (pss_cons (ps_for (passes_of rfl) rfl (pi_range1 (by rfl) (T.free 23) (pa_cons (pv 0) pa_nil)) (pg_name (i := 3) sc__law_spots_by.nd rfl (Or.inl rfl))
        (pss_cons (ps_set (i := 4) sc__law_spots_by.nd rfl (Or.inl rfl) (pe_op op_mod (pe_own O__law_mixed (hr.mono (by decide)) (by rfl) (passes_call (takes_of rfl rfl rfl rfl) (fun _ _ _ _ h => h)) (pa_cons (pv 1) (pa_cons (pv 3) pa_nil))) (pv 0)))
      (pss_cons (ps_set (i := 5) sc__law_spots_by.nd rfl (Or.inl rfl) (pe_ix (k_ixL K) (pv 2) (pv 3) (fun _ _ => rfl)))
      (pss_cons (ps_asg (pe_ix (k_ixL K) (pv 2) (pv 4) (fun _ _ => rfl)) (pg_sub (pv 2) (pv 3) set_list))
      (pss_one (ps_asg (pv 5) (pg_sub (pv 2) (pv 4) set_list)))))))
      (pss_one (ps_ret (pv 2))))), ?_⟩
    obtain ⟨n, c, rfl, hn, hn1, q⟩ := h
    dsimp only [cxOf, L2.start, List.map_cons, List.map_nil, List.length_cons, List.length_nil, Nat.reduceAdd, Nat.reduceSub, List.replicate_succ, List.replicate_zero, List.cons_append, List.nil_append, Nat.zero_add, List.reduceReplicate, List.map]
    refine q_asgL (xs := (natsI n).map V.int) ?_ fun p H1 hp e1 h1 => ?_
    · have z := el_rng (σ := [some (V.int (n : Int)), some (V.int c), none, none, none, none]) (H := H) (te := tVar 3) (j := 3) (vs := [3]) (ta := tCons (tVar 0) tNil) (n := (n : Int)) (fun i : Nat => V.int (i : Int)) (by (repeat' (first | with_reducible exact ev_c | ((with_reducible show Ev (tVar _) _ _ _); exact ev_var rfl) | with_reducible exact ea_nil | with_reducible exact eo_none | with_reducible refine' ea_cons ?_ ?_ | with_reducible refine' eo_some ?_ | with_reducible refine' ev_and2 ?_ ?_ | with_reducible refine' ev_or2 ?_ ?_ | with_reducible refine' ev_notV ?_ | with_reducible exact ru_I | with_reducible refine' ev_un ?_ ?_ | with_reducible exact rv_I0 | with_reducible exact rv_isN | with_reducible exact rv_notN | with_reducible refine' rv_I ?_ | with_reducible refine' rv_eq ?_ | with_reducible refine' rv_ne ?_ | with_reducible refine' ev_op ?_ ?_ ?_ | with_reducible refine' ev_chain2 ?_ ?_ ?_ ?_ ?_ | with_reducible refine' et_B ?_ | with_reducible refine' et_test ?_ | with_reducible refine' et_and2 ?_ ?_ | with_reducible refine' et_or2 ?_ ?_ | with_reducible refine' et_not ?_ | with_reducible refine' ev_call ?_ ?_ | with_reducible refine' ev_callS ?_ ?_ | with_reducible refine' ev_cb ?_ ?_ | with_reducible exact isi_bool (by assumption) | with_reducible exact isi_int (by assumption) | with_reducible exact isi_list (by assumption) | with_reducible exact rc_len (by assumption) | with_reducible exact rc_sum (by assumption) | with_reducible exact rc_abs | with_reducible exact isi_listL (by assumption) | with_reducible exact isi_intI | with_reducible exact isi_boolI | with_reducible exact rc_lenT (by assumption) | with_reducible exact isi_tup (by assumption) | with_reducible exact rv_eqL (by assumption) (by assumption) | with_reducible exact rv_neL (by assumption) (by assumption) | with_reducible exact rv_neT (by assumption) (by assumption) | with_reducible exact rv_ixL (by assumption) (by assumption) | with_reducible exact rv_ixT (by assumption) (by assumption) | with_reducible refine' ev_din ?_ ?_ (by assumption) | with_reducible refine' ev_dnotin ?_ ?_ (by assumption) | with_reducible refine' ev_dget ?_ ?_ (by assumption) (by assumption) | ((with_reducible show SpV _ _ _ _); assumption) | ((with_reducible show RV _ _ _ _ _); assumption) | ((with_reducible show RC _ _ _ _); assumption) | ((with_reducible show CDiv _ _); exact ⟨by omega, by omega⟩) | ((with_reducible show CMul _ _); first | exact .inl ⟨by omega, by omega⟩ | exact .inr ⟨by omega, by omega⟩) | ((with_reducible show CPow _ _); exact ⟨by omega, by omega, by first | decide | assumption | omega⟩) | ((with_reducible show (0 : Int) < _); omega) | ((with_reducible show (0 : Int) ≤ _); omega) | ((with_reducible show scal _ _ = true); rfl)))) (by omega) (fun _ => rfl) (fun i H2 e2 hi => by (repeat' (first | with_reducible exact ev_c | ((with_reducible show Ev (tVar _) _ _ _); exact ev_var rfl) | with_reducible exact ea_nil | with_reducible exact eo_none | with_reducible refine' ea_cons ?_ ?_ | with_reducible refine' eo_some ?_ | with_reducible refine' ev_and2 ?_ ?_ | with_reducible refine' ev_or2 ?_ ?_ | with_reducible refine' ev_notV ?_ | with_reducible exact ru_I | with_reducible refine' ev_un ?_ ?_ | with_reducible exact rv_I0 | with_reducible exact rv_isN | with_reducible exact rv_notN | with_reducible refine' rv_I ?_ | with_reducible refine' rv_eq ?_ | with_reducible refine' rv_ne ?_ | with_reducible refine' ev_op ?_ ?_ ?_ | with_reducible refine' ev_chain2 ?_ ?_ ?_ ?_ ?_ | with_reducible refine' et_B ?_ | with_reducible refine' et_test ?_ | with_reducible refine' et_and2 ?_ ?_ | with_reducible refine' et_or2 ?_ ?_ | with_reducible refine' et_not ?_ | with_reducible refine' ev_call ?_ ?_ | with_reducible refine' ev_callS ?_ ?_ | with_reducible refine' ev_cb ?_ ?_ | with_reducible exact isi_bool (by assumption) | with_reducible exact isi_int (by assumption) | with_reducible exact isi_list (by assumption) | with_reducible exact rc_len (by assumption) | with_reducible exact rc_sum (by assumption) | with_reducible exact rc_abs | with_reducible exact isi_listL (by assumption) | with_reducible exact isi_intI | with_reducible exact isi_boolI | with_reducible exact rc_lenT (by assumption) | with_reducible exact isi_tup (by assumption) | with_reducible exact rv_eqL (by assumption) (by assumption) | with_reducible exact rv_neL (by assumption) (by assumption) | with_reducible exact rv_neT (by assumption) (by assumption) | with_reducible exact rv_ixL (by assumption) (by assumption) | with_reducible exact rv_ixT (by assumption) (by assumption) | with_reducible refine' ev_din ?_ ?_ (by assumption) | with_reducible refine' ev_dnotin ?_ ?_ (by assumption) | with_reducible refine' ev_dget ?_ ?_ (by assumption) (by assumption) | ((with_reducible show SpV _ _ _ _); assumption) | ((with_reducible show RV _ _ _ _ _); assumption) | ((with_reducible show RC _ _ _ _); assumption) | ((with_reducible show CDiv _ _); exact ⟨by omega, by omega⟩) | ((with_reducible show CMul _ _); first | exact .inl ⟨by omega, by omega⟩ | exact .inr ⟨by omega, by omega⟩) | ((with_reducible show CPow _ _); exact ⟨by omega, by omega, by first | decide | assumption | omega⟩) | ((with_reducible show (0 : Int) < _); omega) | ((with_reducible show (0 : Int) ≤ _); omega) | ((with_reducible show scal _ _ = true); rfl))))
      have z2 : (natsI n).map V.int = (List.range (n : Int).toNat).map fun i : Nat => V.int (i : Int) := by
        rw [natsI, List.map_map]
        rfl
      rw [z2]
      exact z
    refine q_forR1 (n := (n : Int)) (by (repeat' (first | with_reducible exact ev_c | ((with_reducible show Ev (tVar _) _ _ _); exact ev_var rfl) | with_reducible exact ea_nil | with_reducible exact eo_none | with_reducible refine' ea_cons ?_ ?_ | with_reducible refine' eo_some ?_ | with_reducible refine' ev_and2 ?_ ?_ | with_reducible refine' ev_or2 ?_ ?_ | with_reducible refine' ev_notV ?_ | with_reducible exact ru_I | with_reducible refine' ev_un ?_ ?_ | with_reducible exact rv_I0 | with_reducible exact rv_isN | with_reducible exact rv_notN | with_reducible refine' rv_I ?_ | with_reducible refine' rv_eq ?_ | with_reducible refine' rv_ne ?_ | with_reducible refine' ev_op ?_ ?_ ?_ | with_reducible refine' ev_chain2 ?_ ?_ ?_ ?_ ?_ | with_reducible refine' et_B ?_ | with_reducible refine' et_test ?_ | with_reducible refine' et_and2 ?_ ?_ | with_reducible refine' et_or2 ?_ ?_ | with_reducible refine' et_not ?_ | with_reducible refine' ev_call ?_ ?_ | with_reducible refine' ev_callS ?_ ?_ | with_reducible refine' ev_cb ?_ ?_ | with_reducible exact isi_bool (by assumption) | with_reducible exact isi_int (by assumption) | with_reducible exact isi_list (by assumption) | with_reducible exact rc_len (by assumption) | with_reducible exact rc_sum (by assumption) | with_reducible exact rc_abs | with_reducible exact isi_listL (by assumption) | with_reducible exact isi_intI | with_reducible exact isi_boolI | with_reducible exact rc_lenT (by assumption) | with_reducible exact isi_tup (by assumption) | with_reducible exact rv_eqL (by assumption) (by assumption) | with_reducible exact rv_neL (by assumption) (by assumption) | with_reducible exact rv_neT (by assumption) (by assumption) | with_reducible exact rv_ixL (by assumption) (by assumption) | with_reducible exact rv_ixT (by assumption) (by assumption) | with_reducible refine' ev_din ?_ ?_ (by assumption) | with_reducible refine' ev_dnotin ?_ ?_ (by assumption) | with_reducible refine' ev_dget ?_ ?_ (by assumption) (by assumption) | ((with_reducible show SpV _ _ _ _); assumption) | ((with_reducible show RV _ _ _ _ _); assumption) | ((with_reducible show RC _ _ _ _); assumption) | ((with_reducible show CDiv _ _); exact ⟨by omega, by omega⟩) | ((with_reducible show CMul _ _); first | exact .inl ⟨by omega, by omega⟩ | exact .inr ⟨by omega, by omega⟩) | ((with_reducible show CPow _ _); exact ⟨by omega, by omega, by first | decide | assumption | omega⟩) | ((with_reducible show (0 : Int) < _); omega) | ((with_reducible show (0 : Int) ≤ _); omega) | ((with_reducible show scal _ _ = true); rfl)))) (by omega) (fun i σ' H' => ∃ y3 y4 y5 xs, σ' = [some (V.int (n : Int)), some (V.int c), some (V.ref p), y3, y4, y5] ∧ Ex H H' ∧ H' p = some (.lst (xs.map V.int)) ∧ xs.Perm (natsI n)) (fun H2 e2 => ⟨none, none, none, natsI n, rfl, e1.trans e2, e2 _ _ h1, .refl _⟩) ?_ ?_
    · rintro i σ' H' hi ⟨y3, y4, y5, xs, rfl, e3, h3, pm⟩
      have hi' : i < n := by omega
      have hl : xs.length = n := by rw [pm.length_eq, natsI_len]
      obtain ⟨o, ho⟩ := Int.eq_ofNat_of_zero_le (Int.emod_nonneg (mixed c (i : Int)) (show ((n : Nat) : Int) ≠ 0 by omega))
      have ho2 : o < n := by
        have := Int.emod_lt_of_pos (mixed c (i : Int)) (show (0 : Int) < (n : Int) by omega)
        omega
      have sm := sv_mixed (H := H') (c := c) (k := (i : Int))
      refine q_asg (v := .int (o : Int)) ?_ fun H4 e4 => ?_
      · apply ev_is
        · (repeat' (first | with_reducible exact ev_c | ((with_reducible show Ev (tVar _) _ _ _); exact ev_var rfl) | with_reducible exact ea_nil | with_reducible exact eo_none | with_reducible refine' ea_cons ?_ ?_ | with_reducible refine' eo_some ?_ | with_reducible refine' ev_and2 ?_ ?_ | with_reducible refine' ev_or2 ?_ ?_ | with_reducible refine' ev_notV ?_ | with_reducible exact ru_I | with_reducible refine' ev_un ?_ ?_ | with_reducible exact rv_I0 | with_reducible exact rv_isN | with_reducible exact rv_notN | with_reducible refine' rv_I ?_ | with_reducible refine' rv_eq ?_ | with_reducible refine' rv_ne ?_ | with_reducible refine' ev_op ?_ ?_ ?_ | with_reducible refine' ev_chain2 ?_ ?_ ?_ ?_ ?_ | with_reducible refine' et_B ?_ | with_reducible refine' et_test ?_ | with_reducible refine' et_and2 ?_ ?_ | with_reducible refine' et_or2 ?_ ?_ | with_reducible refine' et_not ?_ | with_reducible refine' ev_call ?_ ?_ | with_reducible refine' ev_callS ?_ ?_ | with_reducible refine' ev_cb ?_ ?_ | with_reducible exact isi_bool (by assumption) | with_reducible exact isi_int (by assumption) | with_reducible exact isi_list (by assumption) | with_reducible exact rc_len (by assumption) | with_reducible exact rc_sum (by assumption) | with_reducible exact rc_abs | with_reducible exact isi_listL (by assumption) | with_reducible exact isi_intI | with_reducible exact isi_boolI | with_reducible exact rc_lenT (by assumption) | with_reducible exact isi_tup (by assumption) | with_reducible exact rv_eqL (by assumption) (by assumption) | with_reducible exact rv_neL (by assumption) (by assumption) | with_reducible exact rv_neT (by assumption) (by assumption) | with_reducible exact rv_ixL (by assumption) (by assumption) | with_reducible exact rv_ixT (by assumption) (by assumption) | with_reducible refine' ev_din ?_ ?_ (by assumption) | with_reducible refine' ev_dnotin ?_ ?_ (by assumption) | with_reducible refine' ev_dget ?_ ?_ (by assumption) (by assumption) | ((with_reducible show SpV _ _ _ _); assumption) | ((with_reducible show RV _ _ _ _ _); assumption) | ((with_reducible show RC _ _ _ _); assumption) | ((with_reducible show CDiv _ _); exact ⟨by omega, by omega⟩) | ((with_reducible show CMul _ _); first | exact .inl ⟨by omega, by omega⟩ | exact .inr ⟨by omega, by omega⟩) | ((with_reducible show CPow _ _); exact ⟨by omega, by omega, by first | decide | assumption | omega⟩) | ((with_reducible show (0 : Int) < _); omega) | ((with_reducible show (0 : Int) ≤ _); omega) | ((with_reducible show scal _ _ = true); rfl)))
        · rw [ho]
      have h4 := e4 _ _ h3
      have s4 : SqL K H4 p (xs.map V.int) := sq_of h4
      have gi := atI_int (ns := xs) (j := i) (by omega)
      refine q_asg (v := .int (xs.getD i 0)) (by (repeat' (first | with_reducible exact ev_c | ((with_reducible show Ev (tVar _) _ _ _); exact ev_var rfl) | with_reducible exact ea_nil | with_reducible exact eo_none | with_reducible refine' ea_cons ?_ ?_ | with_reducible refine' eo_some ?_ | with_reducible refine' ev_and2 ?_ ?_ | with_reducible refine' ev_or2 ?_ ?_ | with_reducible refine' ev_notV ?_ | with_reducible exact ru_I | with_reducible refine' ev_un ?_ ?_ | with_reducible exact rv_I0 | with_reducible exact rv_isN | with_reducible exact rv_notN | with_reducible refine' rv_I ?_ | with_reducible refine' rv_eq ?_ | with_reducible refine' rv_ne ?_ | with_reducible refine' ev_op ?_ ?_ ?_ | with_reducible refine' ev_chain2 ?_ ?_ ?_ ?_ ?_ | with_reducible refine' et_B ?_ | with_reducible refine' et_test ?_ | with_reducible refine' et_and2 ?_ ?_ | with_reducible refine' et_or2 ?_ ?_ | with_reducible refine' et_not ?_ | with_reducible refine' ev_call ?_ ?_ | with_reducible refine' ev_callS ?_ ?_ | with_reducible refine' ev_cb ?_ ?_ | with_reducible exact isi_bool (by assumption) | with_reducible exact isi_int (by assumption) | with_reducible exact isi_list (by assumption) | with_reducible exact rc_len (by assumption) | with_reducible exact rc_sum (by assumption) | with_reducible exact rc_abs | with_reducible exact isi_listL (by assumption) | with_reducible exact isi_intI | with_reducible exact isi_boolI | with_reducible exact rc_lenT (by assumption) | with_reducible exact isi_tup (by assumption) | with_reducible exact rv_eqL (by assumption) (by assumption) | with_reducible exact rv_neL (by assumption) (by assumption) | with_reducible exact rv_neT (by assumption) (by assumption) | with_reducible exact rv_ixL (by assumption) (by assumption) | with_reducible exact rv_ixT (by assumption) (by assumption) | with_reducible refine' ev_din ?_ ?_ (by assumption) | with_reducible refine' ev_dnotin ?_ ?_ (by assumption) | with_reducible refine' ev_dget ?_ ?_ (by assumption) (by assumption) | ((with_reducible show SpV _ _ _ _); assumption) | ((with_reducible show RV _ _ _ _ _); assumption) | ((with_reducible show RC _ _ _ _); assumption) | ((with_reducible show CDiv _ _); exact ⟨by omega, by omega⟩) | ((with_reducible show CMul _ _); first | exact .inl ⟨by omega, by omega⟩ | exact .inr ⟨by omega, by omega⟩) | ((with_reducible show CPow _ _); exact ⟨by omega, by omega, by first | decide | assumption | omega⟩) | ((with_reducible show (0 : Int) < _); omega) | ((with_reducible show (0 : Int) ≤ _); omega) | ((with_reducible show scal _ _ = true); rfl)))) fun H5 e5 => ?_
      have h5 := e5 _ _ h4
      have s5 : SqL K H5 p (xs.map V.int) := sq_of h5
      have go := atI_int (ns := xs) (j := o) (by omega)
      refine q_setL (j := i) h5 (v := .int (xs.getD o 0)) (by (repeat' (first | with_reducible exact ev_c | ((with_reducible show Ev (tVar _) _ _ _); exact ev_var rfl) | with_reducible exact ea_nil | with_reducible exact eo_none | with_reducible refine' ea_cons ?_ ?_ | with_reducible refine' eo_some ?_ | with_reducible refine' ev_and2 ?_ ?_ | with_reducible refine' ev_or2 ?_ ?_ | with_reducible refine' ev_notV ?_ | with_reducible exact ru_I | with_reducible refine' ev_un ?_ ?_ | with_reducible exact rv_I0 | with_reducible exact rv_isN | with_reducible exact rv_notN | with_reducible refine' rv_I ?_ | with_reducible refine' rv_eq ?_ | with_reducible refine' rv_ne ?_ | with_reducible refine' ev_op ?_ ?_ ?_ | with_reducible refine' ev_chain2 ?_ ?_ ?_ ?_ ?_ | with_reducible refine' et_B ?_ | with_reducible refine' et_test ?_ | with_reducible refine' et_and2 ?_ ?_ | with_reducible refine' et_or2 ?_ ?_ | with_reducible refine' et_not ?_ | with_reducible refine' ev_call ?_ ?_ | with_reducible refine' ev_callS ?_ ?_ | with_reducible refine' ev_cb ?_ ?_ | with_reducible exact isi_bool (by assumption) | with_reducible exact isi_int (by assumption) | with_reducible exact isi_list (by assumption) | with_reducible exact rc_len (by assumption) | with_reducible exact rc_sum (by assumption) | with_reducible exact rc_abs | with_reducible exact isi_listL (by assumption) | with_reducible exact isi_intI | with_reducible exact isi_boolI | with_reducible exact rc_lenT (by assumption) | with_reducible exact isi_tup (by assumption) | with_reducible exact rv_eqL (by assumption) (by assumption) | with_reducible exact rv_neL (by assumption) (by assumption) | with_reducible exact rv_neT (by assumption) (by assumption) | with_reducible exact rv_ixL (by assumption) (by assumption) | with_reducible exact rv_ixT (by assumption) (by assumption) | with_reducible refine' ev_din ?_ ?_ (by assumption) | with_reducible refine' ev_dnotin ?_ ?_ (by assumption) | with_reducible refine' ev_dget ?_ ?_ (by assumption) (by assumption) | ((with_reducible show SpV _ _ _ _); assumption) | ((with_reducible show RV _ _ _ _ _); assumption) | ((with_reducible show RC _ _ _ _); assumption) | ((with_reducible show CDiv _ _); exact ⟨by omega, by omega⟩) | ((with_reducible show CMul _ _); first | exact .inl ⟨by omega, by omega⟩ | exact .inr ⟨by omega, by omega⟩) | ((with_reducible show CPow _ _); exact ⟨by omega, by omega, by first | decide | assumption | omega⟩) | ((with_reducible show (0 : Int) < _); omega) | ((with_reducible show (0 : Int) ≤ _); omega) | ((with_reducible show scal _ _ = true); rfl)))) (by (repeat' (first | with_reducible exact ev_c | ((with_reducible show Ev (tVar _) _ _ _); exact ev_var rfl) | with_reducible exact ea_nil | with_reducible exact eo_none | with_reducible refine' ea_cons ?_ ?_ | with_reducible refine' eo_some ?_ | with_reducible refine' ev_and2 ?_ ?_ | with_reducible refine' ev_or2 ?_ ?_ | with_reducible refine' ev_notV ?_ | with_reducible exact ru_I | with_reducible refine' ev_un ?_ ?_ | with_reducible exact rv_I0 | with_reducible exact rv_isN | with_reducible exact rv_notN | with_reducible refine' rv_I ?_ | with_reducible refine' rv_eq ?_ | with_reducible refine' rv_ne ?_ | with_reducible refine' ev_op ?_ ?_ ?_ | with_reducible refine' ev_chain2 ?_ ?_ ?_ ?_ ?_ | with_reducible refine' et_B ?_ | with_reducible refine' et_test ?_ | with_reducible refine' et_and2 ?_ ?_ | with_reducible refine' et_or2 ?_ ?_ | with_reducible refine' et_not ?_ | with_reducible refine' ev_call ?_ ?_ | with_reducible refine' ev_callS ?_ ?_ | with_reducible refine' ev_cb ?_ ?_ | with_reducible exact isi_bool (by assumption) | with_reducible exact isi_int (by assumption) | with_reducible exact isi_list (by assumption) | with_reducible exact rc_len (by assumption) | with_reducible exact rc_sum (by assumption) | with_reducible exact rc_abs | with_reducible exact isi_listL (by assumption) | with_reducible exact isi_intI | with_reducible exact isi_boolI | with_reducible exact rc_lenT (by assumption) | with_reducible exact isi_tup (by assumption) | with_reducible exact rv_eqL (by assumption) (by assumption) | with_reducible exact rv_neL (by assumption) (by assumption) | with_reducible exact rv_neT (by assumption) (by assumption) | with_reducible exact rv_ixL (by assumption) (by assumption) | with_reducible exact rv_ixT (by assumption) (by assumption) | with_reducible refine' ev_din ?_ ?_ (by assumption) | with_reducible refine' ev_dnotin ?_ ?_ (by assumption) | with_reducible refine' ev_dget ?_ ?_ (by assumption) (by assumption) | ((with_reducible show SpV _ _ _ _); assumption) | ((with_reducible show RV _ _ _ _ _); assumption) | ((with_reducible show RC _ _ _ _); assumption) | ((with_reducible show CDiv _ _); exact ⟨by omega, by omega⟩) | ((with_reducible show CMul _ _); first | exact .inl ⟨by omega, by omega⟩ | exact .inr ⟨by omega, by omega⟩) | ((with_reducible show CPow _ _); exact ⟨by omega, by omega, by first | decide | assumption | omega⟩) | ((with_reducible show (0 : Int) < _); omega) | ((with_reducible show (0 : Int) ≤ _); omega) | ((with_reducible show scal _ _ = true); rfl)))) (by (repeat' (first | with_reducible exact ev_c | ((with_reducible show Ev (tVar _) _ _ _); exact ev_var rfl) | with_reducible exact ea_nil | with_reducible exact eo_none | with_reducible refine' ea_cons ?_ ?_ | with_reducible refine' eo_some ?_ | with_reducible refine' ev_and2 ?_ ?_ | with_reducible refine' ev_or2 ?_ ?_ | with_reducible refine' ev_notV ?_ | with_reducible exact ru_I | with_reducible refine' ev_un ?_ ?_ | with_reducible exact rv_I0 | with_reducible exact rv_isN | with_reducible exact rv_notN | with_reducible refine' rv_I ?_ | with_reducible refine' rv_eq ?_ | with_reducible refine' rv_ne ?_ | with_reducible refine' ev_op ?_ ?_ ?_ | with_reducible refine' ev_chain2 ?_ ?_ ?_ ?_ ?_ | with_reducible refine' et_B ?_ | with_reducible refine' et_test ?_ | with_reducible refine' et_and2 ?_ ?_ | with_reducible refine' et_or2 ?_ ?_ | with_reducible refine' et_not ?_ | with_reducible refine' ev_call ?_ ?_ | with_reducible refine' ev_callS ?_ ?_ | with_reducible refine' ev_cb ?_ ?_ | with_reducible exact isi_bool (by assumption) | with_reducible exact isi_int (by assumption) | with_reducible exact isi_list (by assumption) | with_reducible exact rc_len (by assumption) | with_reducible exact rc_sum (by assumption) | with_reducible exact rc_abs | with_reducible exact isi_listL (by assumption) | with_reducible exact isi_intI | with_reducible exact isi_boolI | with_reducible exact rc_lenT (by assumption) | with_reducible exact isi_tup (by assumption) | with_reducible exact rv_eqL (by assumption) (by assumption) | with_reducible exact rv_neL (by assumption) (by assumption) | with_reducible exact rv_neT (by assumption) (by assumption) | with_reducible exact rv_ixL (by assumption) (by assumption) | with_reducible exact rv_ixT (by assumption) (by assumption) | with_reducible refine' ev_din ?_ ?_ (by assumption) | with_reducible refine' ev_dnotin ?_ ?_ (by assumption) | with_reducible refine' ev_dget ?_ ?_ (by assumption) (by assumption) | ((with_reducible show SpV _ _ _ _); assumption) | ((with_reducible show RV _ _ _ _ _); assumption) | ((with_reducible show RC _ _ _ _); assumption) | ((with_reducible show CDiv _ _); exact ⟨by omega, by omega⟩) | ((with_reducible show CMul _ _); first | exact .inl ⟨by omega, by omega⟩ | exact .inr ⟨by omega, by omega⟩) | ((with_reducible show CPow _ _); exact ⟨by omega, by omega, by first | decide | assumption | omega⟩) | ((with_reducible show (0 : Int) < _); omega) | ((with_reducible show (0 : Int) ≤ _); omega) | ((with_reducible show scal _ _ = true); rfl)))) (by rw [List.length_map]; omega) fun H6 e6 => ?_
      refine s_setL (j := o) (xs := (xs.map V.int).set i (.int (xs.getD o 0))) upd_same (v := .int (xs.getD i 0)) (by (repeat' (first | with_reducible exact ev_c | ((with_reducible show Ev (tVar _) _ _ _); exact ev_var rfl) | with_reducible exact ea_nil | with_reducible exact eo_none | with_reducible refine' ea_cons ?_ ?_ | with_reducible refine' eo_some ?_ | with_reducible refine' ev_and2 ?_ ?_ | with_reducible refine' ev_or2 ?_ ?_ | with_reducible refine' ev_notV ?_ | with_reducible exact ru_I | with_reducible refine' ev_un ?_ ?_ | with_reducible exact rv_I0 | with_reducible exact rv_isN | with_reducible exact rv_notN | with_reducible refine' rv_I ?_ | with_reducible refine' rv_eq ?_ | with_reducible refine' rv_ne ?_ | with_reducible refine' ev_op ?_ ?_ ?_ | with_reducible refine' ev_chain2 ?_ ?_ ?_ ?_ ?_ | with_reducible refine' et_B ?_ | with_reducible refine' et_test ?_ | with_reducible refine' et_and2 ?_ ?_ | with_reducible refine' et_or2 ?_ ?_ | with_reducible refine' et_not ?_ | with_reducible refine' ev_call ?_ ?_ | with_reducible refine' ev_callS ?_ ?_ | with_reducible refine' ev_cb ?_ ?_ | with_reducible exact isi_bool (by assumption) | with_reducible exact isi_int (by assumption) | with_reducible exact isi_list (by assumption) | with_reducible exact rc_len (by assumption) | with_reducible exact rc_sum (by assumption) | with_reducible exact rc_abs | with_reducible exact isi_listL (by assumption) | with_reducible exact isi_intI | with_reducible exact isi_boolI | with_reducible exact rc_lenT (by assumption) | with_reducible exact isi_tup (by assumption) | with_reducible exact rv_eqL (by assumption) (by assumption) | with_reducible exact rv_neL (by assumption) (by assumption) | with_reducible exact rv_neT (by assumption) (by assumption) | with_reducible exact rv_ixL (by assumption) (by assumption) | with_reducible exact rv_ixT (by assumption) (by assumption) | with_reducible refine' ev_din ?_ ?_ (by assumption) | with_reducible refine' ev_dnotin ?_ ?_ (by assumption) | with_reducible refine' ev_dget ?_ ?_ (by assumption) (by assumption) | ((with_reducible show SpV _ _ _ _); assumption) | ((with_reducible show RV _ _ _ _ _); assumption) | ((with_reducible show RC _ _ _ _); assumption) | ((with_reducible show CDiv _ _); exact ⟨by omega, by omega⟩) | ((with_reducible show CMul _ _); first | exact .inl ⟨by omega, by omega⟩ | exact .inr ⟨by omega, by omega⟩) | ((with_reducible show CPow _ _); exact ⟨by omega, by omega, by first | decide | assumption | omega⟩) | ((with_reducible show (0 : Int) < _); omega) | ((with_reducible show (0 : Int) ≤ _); omega) | ((with_reducible show scal _ _ = true); rfl)))) (by (repeat' (first | with_reducible exact ev_c | ((with_reducible show Ev (tVar _) _ _ _); exact ev_var rfl) | with_reducible exact ea_nil | with_reducible exact eo_none | with_reducible refine' ea_cons ?_ ?_ | with_reducible refine' eo_some ?_ | with_reducible refine' ev_and2 ?_ ?_ | with_reducible refine' ev_or2 ?_ ?_ | with_reducible refine' ev_notV ?_ | with_reducible exact ru_I | with_reducible refine' ev_un ?_ ?_ | with_reducible exact rv_I0 | with_reducible exact rv_isN | with_reducible exact rv_notN | with_reducible refine' rv_I ?_ | with_reducible refine' rv_eq ?_ | with_reducible refine' rv_ne ?_ | with_reducible refine' ev_op ?_ ?_ ?_ | with_reducible refine' ev_chain2 ?_ ?_ ?_ ?_ ?_ | with_reducible refine' et_B ?_ | with_reducible refine' et_test ?_ | with_reducible refine' et_and2 ?_ ?_ | with_reducible refine' et_or2 ?_ ?_ | with_reducible refine' et_not ?_ | with_reducible refine' ev_call ?_ ?_ | with_reducible refine' ev_callS ?_ ?_ | with_reducible refine' ev_cb ?_ ?_ | with_reducible exact isi_bool (by assumption) | with_reducible exact isi_int (by assumption) | with_reducible exact isi_list (by assumption) | with_reducible exact rc_len (by assumption) | with_reducible exact rc_sum (by assumption) | with_reducible exact rc_abs | with_reducible exact isi_listL (by assumption) | with_reducible exact isi_intI | with_reducible exact isi_boolI | with_reducible exact rc_lenT (by assumption) | with_reducible exact isi_tup (by assumption) | with_reducible exact rv_eqL (by assumption) (by assumption) | with_reducible exact rv_neL (by assumption) (by assumption) | with_reducible exact rv_neT (by assumption) (by assumption) | with_reducible exact rv_ixL (by assumption) (by assumption) | with_reducible exact rv_ixT (by assumption) (by assumption) | with_reducible refine' ev_din ?_ ?_ (by assumption) | with_reducible refine' ev_dnotin ?_ ?_ (by assumption) | with_reducible refine' ev_dget ?_ ?_ (by assumption) (by assumption) | ((with_reducible show SpV _ _ _ _); assumption) | ((with_reducible show RV _ _ _ _ _); assumption) | ((with_reducible show RC _ _ _ _); assumption) | ((with_reducible show CDiv _ _); exact ⟨by omega, by omega⟩) | ((with_reducible show CMul _ _); first | exact .inl ⟨by omega, by omega⟩ | exact .inr ⟨by omega, by omega⟩) | ((with_reducible show CPow _ _); exact ⟨by omega, by omega, by first | decide | assumption | omega⟩) | ((with_reducible show (0 : Int) < _); omega) | ((with_reducible show (0 : Int) ≤ _); omega) | ((with_reducible show scal _ _ = true); rfl)))) (by (repeat' (first | with_reducible exact ev_c | ((with_reducible show Ev (tVar _) _ _ _); exact ev_var rfl) | with_reducible exact ea_nil | with_reducible exact eo_none | with_reducible refine' ea_cons ?_ ?_ | with_reducible refine' eo_some ?_ | with_reducible refine' ev_and2 ?_ ?_ | with_reducible refine' ev_or2 ?_ ?_ | with_reducible refine' ev_notV ?_ | with_reducible exact ru_I | with_reducible refine' ev_un ?_ ?_ | with_reducible exact rv_I0 | with_reducible exact rv_isN | with_reducible exact rv_notN | with_reducible refine' rv_I ?_ | with_reducible refine' rv_eq ?_ | with_reducible refine' rv_ne ?_ | with_reducible refine' ev_op ?_ ?_ ?_ | with_reducible refine' ev_chain2 ?_ ?_ ?_ ?_ ?_ | with_reducible refine' et_B ?_ | with_reducible refine' et_test ?_ | with_reducible refine' et_and2 ?_ ?_ | with_reducible refine' et_or2 ?_ ?_ | with_reducible refine' et_not ?_ | with_reducible refine' ev_call ?_ ?_ | with_reducible refine' ev_callS ?_ ?_ | with_reducible refine' ev_cb ?_ ?_ | with_reducible exact isi_bool (by assumption) | with_reducible exact isi_int (by assumption) | with_reducible exact isi_list (by assumption) | with_reducible exact rc_len (by assumption) | with_reducible exact rc_sum (by assumption) | with_reducible exact rc_abs | with_reducible exact isi_listL (by assumption) | with_reducible exact isi_intI | with_reducible exact isi_boolI | with_reducible exact rc_lenT (by assumption) | with_reducible exact isi_tup (by assumption) | with_reducible exact rv_eqL (by assumption) (by assumption) | with_reducible exact rv_neL (by assumption) (by assumption) | with_reducible exact rv_neT (by assumption) (by assumption) | with_reducible exact rv_ixL (by assumption) (by assumption) | with_reducible exact rv_ixT (by assumption) (by assumption) | with_reducible refine' ev_din ?_ ?_ (by assumption) | with_reducible refine' ev_dnotin ?_ ?_ (by assumption) | with_reducible refine' ev_dget ?_ ?_ (by assumption) (by assumption) | ((with_reducible show SpV _ _ _ _); assumption) | ((with_reducible show RV _ _ _ _ _); assumption) | ((with_reducible show RC _ _ _ _); assumption) | ((with_reducible show CDiv _ _); exact ⟨by omega, by omega⟩) | ((with_reducible show CMul _ _); first | exact .inl ⟨by omega, by omega⟩ | exact .inr ⟨by omega, by omega⟩) | ((with_reducible show CPow _ _); exact ⟨by omega, by omega, by first | decide | assumption | omega⟩) | ((with_reducible show (0 : Int) < _); omega) | ((with_reducible show (0 : Int) ≤ _); omega) | ((with_reducible show scal _ _ = true); rfl)))) (by rw [List.length_set, List.length_map]; omega) fun H7 e7 => ?_
      refine ⟨_, _, _, (xs.set i (xs.getD o 0)).set o (xs.getD i 0), rfl, ?_, ?_, ?_⟩
      · exact Ex.mut ((Ex.mut (((e3.trans e4).trans e5).trans e6) hp).trans e7) hp
      · rw [upd_same, List.map_set, List.map_set]
      · have gi2 : xs.getD i 0 = xs[i]'(by omega) := by rw [List.getD_eq_getElem?_getD, List.getElem?_eq_getElem (by omega)]; rfl
        have go2 : xs.getD o 0 = xs[o]'(by omega) := by rw [List.getD_eq_getElem?_getD, List.getElem?_eq_getElem (by omega)]; rfl
        rw [gi2, go2]
        exact (List.set_set_perm (by omega) (by omega)).trans pm
    · rintro σ' H' ⟨y3, y4, y5, xs, rfl, e3, h3, pm⟩
      exact s_ret (v := .ref p) (by (repeat' (first | with_reducible exact ev_c | ((with_reducible show Ev (tVar _) _ _ _); exact ev_var rfl) | with_reducible exact ea_nil | with_reducible exact eo_none | with_reducible refine' ea_cons ?_ ?_ | with_reducible refine' eo_some ?_ | with_reducible refine' ev_and2 ?_ ?_ | with_reducible refine' ev_or2 ?_ ?_ | with_reducible refine' ev_notV ?_ | with_reducible exact ru_I | with_reducible refine' ev_un ?_ ?_ | with_reducible exact rv_I0 | with_reducible exact rv_isN | with_reducible exact rv_notN | with_reducible refine' rv_I ?_ | with_reducible refine' rv_eq ?_ | with_reducible refine' rv_ne ?_ | with_reducible refine' ev_op ?_ ?_ ?_ | with_reducible refine' ev_chain2 ?_ ?_ ?_ ?_ ?_ | with_reducible refine' et_B ?_ | with_reducible refine' et_test ?_ | with_reducible refine' et_and2 ?_ ?_ | with_reducible refine' et_or2 ?_ ?_ | with_reducible refine' et_not ?_ | with_reducible refine' ev_call ?_ ?_ | with_reducible refine' ev_callS ?_ ?_ | with_reducible refine' ev_cb ?_ ?_ | with_reducible exact isi_bool (by assumption) | with_reducible exact isi_int (by assumption) | with_reducible exact isi_list (by assumption) | with_reducible exact rc_len (by assumption) | with_reducible exact rc_sum (by assumption) | with_reducible exact rc_abs | with_reducible exact isi_listL (by assumption) | with_reducible exact isi_intI | with_reducible exact isi_boolI | with_reducible exact rc_lenT (by assumption) | with_reducible exact isi_tup (by assumption) | with_reducible exact rv_eqL (by assumption) (by assumption) | with_reducible exact rv_neL (by assumption) (by assumption) | with_reducible exact rv_neT (by assumption) (by assumption) | with_reducible exact rv_ixL (by assumption) (by assumption) | with_reducible exact rv_ixT (by assumption) (by assumption) | with_reducible refine' ev_din ?_ ?_ (by assumption) | with_reducible refine' ev_dnotin ?_ ?_ (by assumption) | with_reducible refine' ev_dget ?_ ?_ (by assumption) (by assumption) | ((with_reducible show SpV _ _ _ _); assumption) | ((with_reducible show RV _ _ _ _ _); assumption) | ((with_reducible show RC _ _ _ _); assumption) | ((with_reducible show CDiv _ _); exact ⟨by omega, by omega⟩) | ((with_reducible show CMul _ _); first | exact .inl ⟨by omega, by omega⟩ | exact .inr ⟨by omega, by omega⟩) | ((with_reducible show CPow _ _); exact ⟨by omega, by omega, by first | decide | assumption | omega⟩) | ((with_reducible show (0 : Int) < _); omega) | ((with_reducible show (0 : Int) ≤ _); omega) | ((with_reducible show scal _ _ = true); rfl)))) fun H4 e4 => q xs pm p H4 hp (e3.trans e4) (e4 _ _ h3)

end TB

/-! ### a drawn row as data -/
namespace TB
open PySem PySem.Spec PyProof.Rows
theorem sum_cast : ∀ r : List Nat, (r.map fun k : Nat => (k : Int)).sum = ((r.sum : Nat) : Int)
  | [] => rfl
  | a :: r => by rw [List.map_cons, List.sum_cons, List.sum_cons, sum_cast r, Int.natCast_add]
theorem getD_cast (r : List Nat) (k : Nat) : (r.map fun k : Nat => (k : Int)).getD k 0 = ((r.getD k 0 : Nat) : Int) := by
  rw [List.getD_eq_getElem?_getD, List.getD_eq_getElem?_getD, List.getElem?_map]
  cases r[k]? <;> rfl
theorem sum_set : ∀ (l : List Int) (i : Nat) (x : Int), i < l.length → (l.set i x).sum = l.sum - l.getD i 0 + x
  | [], i, x, h => by simp at h
  | a :: r, 0, x, h => by
    show x + r.sum = a + r.sum - a + x
    omega
  | a :: r, i + 1, x, h => by
    have ih := sum_set r i x (by simpa using h)
    show a + (r.set i x).sum = a + r.sum - r.getD i 0 + x
    omega
def Drw (n b : Nat) (ts : List Int) : Prop := ts.length = n ∧ (∀ t ∈ ts, 0 ≤ t) ∧ ts.sum = (b : Int) * (n : Int) ∧ ∀ i j, i < n → j < n → ((i : Int) + ts.getD i 0) % (n : Int) = ((j : Int) + ts.getD j 0) % (n : Int) → i = j
theorem sum_rep (n : Nat) (b : Int) : (List.replicate n b).sum = b * (n : Int) := by
  induction n with
  | zero => simp
  | succ n ih =>
    rw [List.replicate_succ, List.sum_cons, ih, Int.natCast_add, Int.mul_add]
    omega
theorem rep_getD (n i : Nat) (b : Int) (h : i < n) : (List.replicate n b).getD i 0 = b := by
  rw [List.getD_eq_getElem?_getD, List.getElem?_replicate, if_pos h]
  rfl
theorem drw_rep (n b : Nat) : Drw n b (List.replicate n (b : Int)) := by
  refine ⟨by simp, fun t ht => ?_, sum_rep n b, fun i j hi hj e => ?_⟩
  · rw [(List.mem_replicate.mp ht).2]
    omega
  · rw [rep_getD n i _ hi, rep_getD n j _ hj] at e
    have z := (Int.emod_add_cancel_right (b : Int)).mp e
    rw [Int.emod_eq_of_lt (by omega) (by omega), Int.emod_eq_of_lt (by omega) (by omega)] at z
    omega
theorem getD_setI (l : List Int) (i k : Nat) (x : Int) (h : i < l.length) : (l.set i x).getD k 0 = if i = k then x else l.getD k 0 := by
  rw [List.getD_eq_getElem?_getD, List.getElem?_set]
  by_cases c : i = k
  · subst c
    rw [if_pos rfl, if_pos rfl, if_pos h]
    rfl
  · rw [if_neg c, if_neg c, List.getD_eq_getElem?_getD]
def swN (i j k : Nat) : Nat := if k = j then i else if k = i then j else k
theorem drw_swap {n b : Nat} {ts : List Int} {i j : Nat} (h : Drw n b ts) (hij : i < j) (hj : j < n) (h0 : 0 ≤ ts.getD i 0 + (i : Int) - (j : Int)) : Drw n b ((ts.set i (ts.getD j 0 + (j : Int) - (i : Int))).set j (ts.getD i 0 + (i : Int) - (j : Int))) := by
  obtain ⟨hl, hp, hs, hd⟩ := h
  have hpj : 0 ≤ ts.getD j 0 := by
    rw [List.getD_eq_getElem?_getD, List.getElem?_eq_getElem (by omega)]
    exact hp _ (List.getElem_mem _)
  have hland : ∀ k, k < n → (k : Int) + ((ts.set i (ts.getD j 0 + (j : Int) - (i : Int))).set j (ts.getD i 0 + (i : Int) - (j : Int))).getD k 0 = (swN i j k : Int) + ts.getD (swN i j k) 0 := fun k hk => by
    rw [getD_setI _ _ _ _ (by rw [List.length_set]; omega), getD_setI _ _ _ _ (by omega)]
    by_cases c1 : j = k
    · have e : swN i j k = i := by
        unfold swN
        rw [if_pos c1.symm]
      rw [e, if_pos c1]
      omega
    · by_cases c2 : i = k
      · have e : swN i j k = j := by
          unfold swN
          rw [if_neg (by omega), if_pos c2.symm]
        rw [e, if_neg c1, if_pos c2]
        omega
      · have e : swN i j k = k := by
          unfold swN
          rw [if_neg (by omega), if_neg (by omega)]
        rw [e, if_neg c1, if_neg c2]
  refine ⟨by rw [List.length_set, List.length_set, hl], fun t ht => ?_, ?_, fun x y hx hy e => ?_⟩
  · rcases List.mem_or_eq_of_mem_set ht with m | m
    · rcases List.mem_or_eq_of_mem_set m with m2 | m2
      · exact hp t m2
      · omega
    · omega
  · rw [sum_set _ _ _ (by rw [List.length_set]; omega), sum_set _ _ _ (by omega), getD_setI _ _ _ _ (by omega), if_neg (by omega)]
    omega
  · rw [hland x hx, hland y hy] at e
    have lt : ∀ k, k < n → swN i j k < n := fun k hk => by
      unfold swN
      split
      · omega
      · split <;> omega
    have z := hd _ _ (lt x hx) (lt y hy) e
    unfold swN at z
    split at z <;> split at z <;> (try split at z) <;> (try split at z) <;> omega
theorem drw_mem {n b : Nat} {ts : List Int} (h : Drw n b ts) (hn : 1 ≤ n) : ∃ r : List Nat, ts = r.map (fun k : Nat => (k : Int)) ∧ r ∈ patN n b := by
  obtain ⟨hl, hp, hs, hd⟩ := h
  have e : ts = (ts.map Int.toNat).map (fun k : Nat => (k : Int)) := by
    rw [List.map_map]
    conv => lhs; rw [← List.map_id ts]
    refine List.map_congr_left fun t ht => ?_
    have := hp t ht
    show t = ((t.toNat : Nat) : Int)
    omega
  generalize ts.map Int.toNat = r at *
  subst e
  refine ⟨r, rfl, pat_mem (by rw [← hl, List.length_map]) ?_ fun i j hi hj z => hd i j hi hj ?_⟩
  · rw [sum_cast] at hs
    have : ((r.sum : Nat) : Int) = ((b * n : Nat) : Int) := by rw [hs, Int.natCast_mul]
    omega
  · rw [getD_cast, getD_cast, ← Int.natCast_add, ← Int.natCast_add, ← Int.natCast_emod, ← Int.natCast_emod]
    exact congrArg Int.ofNat z
end TB

namespace TB
open PySem PySem.Spec PyProof.Rows L2 Evl
def sp_whole : Sp := fun vs H Q E => ∃ i, vs = [.int i] ∧ RetV (.bl true) H Q
theorem sv_whole {H : Hp} {i : Int} : SpV sp_whole [.int i] H (.bl true) := spv_of fun H1 e Q E k => ⟨i, rfl, k⟩
theorem sc__law_whole : FnScope ["_law_found"] ["_law_found"] (defScope s__law_whole) := ⟨rfl, rfl, rfl, by decide +kernel, rfl, by decide +kernel, by decide +kernel⟩
theorem ok__law_whole {P : Program} {w : World} {K : PySem.W.Frag} {mg : Str → Option Value} {base : Heap} (T : TXT K mg) : OK P w K mg base "_law_whole" ["_law_found"] 1 (sp_whole) := by
  obtain ⟨fd, F⟩ := T.def_ 8
  refine ⟨_, fd, T.glo 8, F.kp, F.bindsN (fun _ _ _ _ _ _ us hl => match us, hl with | [_], _ => rfl), F.ok sc__law_whole (fun vs H Q E h => ?_) (fun cdv A outer s H vs Q E hr h => ?_), F.bindsA (fun _ _ _ _ _ _ us hl => match us, hl with | [_], _ => rfl)⟩
  · first | (obtain ⟨rfl, _⟩ := h; rfl) | (obtain ⟨_, rfl, _⟩ := h; rfl) | (obtain ⟨_, _, rfl, _⟩ := h; rfl) | (obtain ⟨_, _, _, rfl, _⟩ := h; rfl) | (obtain ⟨_, _, _, _, rfl, _⟩ := h; rfl) | (obtain ⟨_, _, _, _, _, rfl, _⟩ := h; rfl) | (obtain ⟨_, _, _, _, _, _, rfl, _⟩ := h; rfl) | (obtain ⟨_, _, _, _, _, _, _, rfl, _⟩ := h; rfl) | (obtain ⟨_, _, _, _, _, _, _, _, rfl, _⟩ := h; rfl)
  · replace F : FunD K "_law_whole" "_law_whole" (defArgs s__law_whole) (defBody s__law_whole) (defScope s__law_whole) [] [] (He.ga K "_law_whole") fd := F
    refine ⟨_, (pss_one (ps_ret (pe_and (pe_callB (id := "isinstance") (k_isi K) (by rfl) (T.free 18) (by decide +kernel) (pa_cons (pv 0) (pa_cons (pe_ty (T := "int") (T.free 17) (by decide +kernel)) pa_nil))) (pe_one (pe_not (pe_callB (id := "isinstance") (k_isi K) (by rfl) (T.free 18) (by decide +kernel) (pa_cons (pv 0) (pa_cons (pe_ty (T := "bool") (T.free 16) (by decide +kernel)) pa_nil)))))))), ?_⟩
    obtain ⟨i, rfl, q⟩ := h
    dsimp only [cxOf, L2.start, List.map_cons, List.map_nil, List.length_cons, List.length_nil, Nat.reduceAdd, Nat.reduceSub, List.replicate_succ, List.replicate_zero, List.cons_append, List.nil_append, Nat.zero_add, List.reduceReplicate, List.map]
    exact s_ret (v := .bl (true && !false)) (by (repeat' (first | with_reducible exact ev_c | ((with_reducible show Ev (tVar _) _ _ _); exact ev_var rfl) | with_reducible exact ea_nil | with_reducible exact eo_none | with_reducible refine' ea_cons ?_ ?_ | with_reducible refine' eo_some ?_ | with_reducible refine' ev_and2 ?_ ?_ | with_reducible refine' ev_or2 ?_ ?_ | with_reducible refine' ev_notV ?_ | with_reducible exact ru_I | with_reducible refine' ev_un ?_ ?_ | with_reducible exact rv_I0 | with_reducible exact rv_isN | with_reducible exact rv_notN | with_reducible refine' rv_I ?_ | with_reducible refine' rv_eq ?_ | with_reducible refine' rv_ne ?_ | with_reducible refine' ev_op ?_ ?_ ?_ | with_reducible refine' ev_chain2 ?_ ?_ ?_ ?_ ?_ | with_reducible refine' et_B ?_ | with_reducible refine' et_test ?_ | with_reducible refine' et_and2 ?_ ?_ | with_reducible refine' et_or2 ?_ ?_ | with_reducible refine' et_not ?_ | with_reducible refine' ev_call ?_ ?_ | with_reducible refine' ev_callS ?_ ?_ | with_reducible refine' ev_cb ?_ ?_ | with_reducible exact isi_bool (by assumption) | with_reducible exact isi_int (by assumption) | with_reducible exact isi_list (by assumption) | with_reducible exact rc_len (by assumption) | with_reducible exact rc_sum (by assumption) | with_reducible exact rc_abs | with_reducible exact isi_listL (by assumption) | with_reducible exact isi_intI | with_reducible exact isi_boolI | with_reducible exact rc_lenT (by assumption) | with_reducible exact isi_tup (by assumption) | with_reducible exact rv_eqL (by assumption) (by assumption) | with_reducible exact rv_neL (by assumption) (by assumption) | with_reducible exact rv_neT (by assumption) (by assumption) | with_reducible exact rv_ixL (by assumption) (by assumption) | with_reducible exact rv_ixT (by assumption) (by assumption) | with_reducible refine' ev_din ?_ ?_ (by assumption) | with_reducible refine' ev_dnotin ?_ ?_ (by assumption) | with_reducible refine' ev_dget ?_ ?_ (by assumption) (by assumption) | ((with_reducible show SpV _ _ _ _); assumption) | ((with_reducible show RV _ _ _ _ _); assumption) | ((with_reducible show RC _ _ _ _); assumption) | ((with_reducible show CDiv _ _); exact ⟨by omega, by omega⟩) | ((with_reducible show CMul _ _); first | exact .inl ⟨by omega, by omega⟩ | exact .inr ⟨by omega, by omega⟩) | ((with_reducible show CPow _ _); exact ⟨by omega, by omega, by first | decide | assumption | omega⟩) | ((with_reducible show (0 : Int) < _); omega) | ((with_reducible show (0 : Int) ≤ _); omega) | ((with_reducible show scal _ _ = true); rfl)))) q

def sp_fits (K : PySem.W.Frag) : Sp := fun vs H Q E => ∃ (p : Addr) (r : List Nat) (l b : Nat), vs = [.ref p, .int (l : Int), .int (b : Int)] ∧ H p = some (.lst (ntV r)) ∧ 1 ≤ l ∧ l ≤ 6 ∧ b ≤ 6 ∧ r.length = l ∧ r.sum = b * l ∧ (List.range l).Perm ((List.range l).map (landN l r)) ∧ RetV (.bl true) H Q
theorem nt_ints (l : List Nat) : ntV l = (l.map fun k : Nat => (k : Int)).map V.int := by
  unfold ntV
  rw [List.map_map]
  rfl
theorem sorted_eq : ∀ {l m : List Int}, l.Perm m → l.Pairwise (· ≤ ·) → m.Pairwise (· ≤ ·) → l = m
  | [], m, h, _, _ => h.nil_eq
  | a :: r, m, h, h1, h2 => by
    cases m with
    | nil => exact absurd h.length_eq (by simp)
    | cons b t =>
      have e : a = b := by
        have ha := h.mem_iff.mp (List.mem_cons_self (a := a) (l := r))
        have hb := h.mem_iff.mpr (List.mem_cons_self (a := b) (l := t))
        rcases List.mem_cons.mp ha with ha | ha
        · exact ha
        · rcases List.mem_cons.mp hb with hb | hb
          · exact hb.symm
          · have z1 := (List.pairwise_cons.mp h1).1 b hb
            have z2 := (List.pairwise_cons.mp h2).1 a ha
            omega
      subst e
      rw [sorted_eq ((List.perm_cons a).mp h) (List.pairwise_cons.mp h1).2 (List.pairwise_cons.mp h2).2]
theorem rcl_sorted {K : PySem.W.Frag} {H : Hp} {a : Addr} {ns ms : List Int} (h : SqL K H a (ns.map V.int)) (hp : ms.Perm ns) (hs : ms.Pairwise (· ≤ ·)) : RCL (rSortedI K) [.ref a] H (ms.map V.int) := fun H1 e Q q => ⟨a, ns, rfl, ex_l e h, fun ns' p hp' hs' hn => by
  have z : ns' = ms := sorted_eq (hp'.trans hp.symm) hs' hs
  rw [z]
  exact q p _ hn (Ex.new hn) upd_same⟩
theorem sc__law_fits : FnScope ["_law_row", "_law_length", "_law_balls", "_law_one", "_law_spots", "_law_k"] ["_law_row", "_law_length", "_law_balls"] (defScope s__law_fits) := ⟨rfl, rfl, rfl, by decide +kernel, rfl, by decide +kernel, by decide +kernel⟩
theorem ok__law_fits {P : Program} {w : World} {K : PySem.W.Frag} {mg : Str → Option Value} {base : Heap} (T : TXT K mg) : OK P w K mg base "_law_fits" ["_law_row", "_law_length", "_law_balls"] 2 (sp_fits K) := by
  have O__law_whole := ok__law_whole (P := P) (w := w) (base := base) T
  obtain ⟨fd, F⟩ := T.def_ 9
  refine ⟨_, fd, T.glo 9, F.kp, F.bindsN (fun _ _ _ _ _ _ us hl => match us, hl with | [_, _, _], _ => rfl), F.ok sc__law_fits (fun vs H Q E h => ?_) (fun cdv A outer s H vs Q E hr h => ?_), F.bindsA (fun _ _ _ _ _ _ us hl => match us, hl with | [_, _, _], _ => rfl)⟩
  · first | (obtain ⟨rfl, _⟩ := h; rfl) | (obtain ⟨_, rfl, _⟩ := h; rfl) | (obtain ⟨_, _, rfl, _⟩ := h; rfl) | (obtain ⟨_, _, _, rfl, _⟩ := h; rfl) | (obtain ⟨_, _, _, _, rfl, _⟩ := h; rfl) | (obtain ⟨_, _, _, _, _, rfl, _⟩ := h; rfl) | (obtain ⟨_, _, _, _, _, _, rfl, _⟩ := h; rfl) | (obtain ⟨_, _, _, _, _, _, _, rfl, _⟩ := h; rfl) | (obtain ⟨_, _, _, _, _, _, _, _, rfl, _⟩ := h; rfl)
  · replace F : FunD K "_law_fits" "_law_fits" (defArgs s__law_fits) (defBody s__law_fits) (defScope s__law_fits) [] [] (He.ga K "_law_fits") fd := F
    refine ⟨_, (pss_cons (ps_if (PW.pt (pw_or (pt_not (pt_val (pe_callB (id := "isinstance") (k_isi K) (by rfl) (T.free 18) (by decide +kernel) (pa_cons (pv 0) (pa_cons (pe_ty (T := "list") (T.free 20) (by decide +kernel)) pa_nil))))) (pw_or (pt_cmpR op_ne (pe_callB (id := "len") (k_len K) (by rfl) (T.free 19) (by decide +kernel) (pa_cons (pv 0) pa_nil)) (pv 1) (nomark _)) (pw_or1 (pt_not (pt_val (pe_callB (id := "all") (k_all K rfl) (by rfl) (T.free 15) (by decide +kernel) (pa_cons (pe_lc (own := [("_law_one", 3)]) (g := gName 3) (tt := tYes) rfl sc__law_fits.nd (k_piL K (pv 0)) (blkOk_by (N := ["_law_row", "_law_length", "_law_balls", "_law_one", "_law_spots", "_law_k"]) (sc := defScope s__law_fits) (by decide +kernel)) (fun _ _ _ _ _ => pg_name (i := 3) sc__law_fits.nd rfl (Or.inl rfl)) (fun _ _ _ _ _ => pts_nil) (fun _ _ _ _ _ => (pe_and (pe_own O__law_whole (hr.mono (by decide)) (by rfl) passL (pa_cons (pv 3) pa_nil)) (pe_one (pe_cmpR op_ge (pv 3) pe_int (nomark _)))))) pa_nil))))))))
        (pss_one (ps_ret pe_bl))
        pss_nil)
      (pss_cons (ps_setLc (i := 4) (own := [("_law_k", 5)]) (g := gName 5) (tt := tYes) rfl sc__law_fits.nd rfl rfl (sw_true rfl rfl rfl (by decide +kernel)) (pi_range1 (by rfl) (T.free 23) (pa_cons (pv 1) pa_nil)) (blkOk_by (N := ["_law_row", "_law_length", "_law_balls", "_law_one", "_law_spots", "_law_k"]) (sc := defScope s__law_fits) (by decide +kernel)) (fun _ _ _ _ _ => pg_name (i := 5) sc__law_fits.nd rfl (Or.inl rfl)) (fun _ _ _ _ _ => pts_nil) (fun _ _ _ _ _ => (pe_op op_mod (pe_op op_add (pv 5) (pe_ix (k_ixL K) (pv 0) (pv 5) (fun _ _ => rfl))) (pv 1))))
      (pss_one (ps_ret (pe_and (pe_cmpR (k_eqD K (units_of hr)) (pe_callB (id := "sorted") (k_sorted K) (by rfl) (T.free 24) (by decide +kernel) (pa_cons (pv 4) pa_nil)) (pe_lc (own := [("_law_k", 5)]) (g := gName 5) (tt := tYes) rfl sc__law_fits.nd (pi_range1 (by rfl) (T.free 23) (pa_cons (pv 1) pa_nil)) (blkOk_by (N := ["_law_row", "_law_length", "_law_balls", "_law_one", "_law_spots", "_law_k"]) (sc := defScope s__law_fits) (by decide +kernel)) (fun _ _ _ _ _ => pg_name (i := 5) sc__law_fits.nd rfl (Or.inl rfl)) (fun _ _ _ _ _ => pts_nil) (fun _ _ _ _ _ => (pv 5))) (nomark _)) (pe_one (pe_cmpR op_eq (pe_callB (id := "sum") (k_sum K rfl) (by rfl) (T.free 25) (by decide +kernel) (pa_cons (pv 0) pa_nil)) (pe_op op_mul (pv 2) (pv 1)) (nomark _)))))))), ?_⟩
    obtain ⟨p, r, l, b, rfl, hp, h1, h6, hb, hl, hs, hd, q⟩ := h
    dsimp only [cxOf, L2.start, List.map_cons, List.map_nil, List.length_cons, List.length_nil, Nat.reduceAdd, Nat.reduceSub, List.replicate_succ, List.replicate_zero, List.cons_append, List.nil_append, Nat.zero_add, List.reduceReplicate, List.map]
    rw [nt_ints] at hp
    have sp := sq_of (K := K) hp
    have rl : (r.map fun k : Nat => (k : Int)).length = l := by rw [List.length_map, hl]
    have zall : EvL (tLc (iList K (tVar 0)) (gName 3) tYes (tAndV (tCall sp_whole [] E0 (tCons (tVar 3) tNil)) (tOp (rI0 fun i j => V.bl (decide (j ≤ i))) (tVar 3) (tC (V.int 0)))) [3]) [some (V.ref p), some (V.int (l : Int)), some (V.int (b : Int)), none, none, none] H (((r.map fun _ => true)).map V.bl) := by
      have z := el_map (K := K) (tl := tVar 0) (te := tAndV (tCall sp_whole [] E0 (tCons (tVar 3) tNil)) (tOp (rI0 fun i j => V.bl (decide (j ≤ i))) (tVar 3) (tC (V.int 0)))) (j := 3) (vs := [3]) (σ := [some (V.ref p), some (V.int (l : Int)), some (V.int (b : Int)), none, none, none]) (H := H) (fun _ => V.bl true) (ev_var rfl) sp (by rw [List.length_map]; omega) (fun _ => rfl) (fun x H1 e hx => by
        obtain ⟨n, hn, rfl⟩ := List.mem_map.mp hx
        obtain ⟨m, hm, rfl⟩ := List.mem_map.mp hn
        have sw := sv_whole (H := H1) (i := (m : Int))
        exact ev_is (v := .bl (true && decide ((0 : Int) ≤ (m : Int)))) (by (repeat' (first | with_reducible exact ev_c | ((with_reducible show Ev (tVar _) _ _ _); exact ev_var rfl) | with_reducible exact ea_nil | with_reducible exact eo_none | with_reducible refine' ea_cons ?_ ?_ | with_reducible refine' eo_some ?_ | with_reducible refine' ev_and2 ?_ ?_ | with_reducible refine' ev_or2 ?_ ?_ | with_reducible refine' ev_notV ?_ | with_reducible exact ru_I | with_reducible refine' ev_un ?_ ?_ | with_reducible exact rv_I0 | with_reducible exact rv_isN | with_reducible exact rv_notN | with_reducible refine' rv_I ?_ | with_reducible refine' rv_eq ?_ | with_reducible refine' rv_ne ?_ | with_reducible refine' ev_op ?_ ?_ ?_ | with_reducible refine' ev_chain2 ?_ ?_ ?_ ?_ ?_ | with_reducible refine' et_B ?_ | with_reducible refine' et_test ?_ | with_reducible refine' et_and2 ?_ ?_ | with_reducible refine' et_or2 ?_ ?_ | with_reducible refine' et_not ?_ | with_reducible refine' ev_call ?_ ?_ | with_reducible refine' ev_callS ?_ ?_ | with_reducible refine' ev_cb ?_ ?_ | with_reducible exact isi_bool (by assumption) | with_reducible exact isi_int (by assumption) | with_reducible exact isi_list (by assumption) | with_reducible exact rc_len (by assumption) | with_reducible exact rc_sum (by assumption) | with_reducible exact rc_abs | with_reducible exact isi_listL (by assumption) | with_reducible exact isi_intI | with_reducible exact isi_boolI | with_reducible exact rc_lenT (by assumption) | with_reducible exact isi_tup (by assumption) | with_reducible exact rv_eqL (by assumption) (by assumption) | with_reducible exact rv_neL (by assumption) (by assumption) | with_reducible exact rv_neT (by assumption) (by assumption) | with_reducible exact rv_ixL (by assumption) (by assumption) | with_reducible exact rv_ixT (by assumption) (by assumption) | with_reducible refine' ev_din ?_ ?_ (by assumption) | with_reducible refine' ev_dnotin ?_ ?_ (by assumption) | with_reducible refine' ev_dget ?_ ?_ (by assumption) (by assumption) | ((with_reducible show SpV _ _ _ _); assumption) | ((with_reducible show RV _ _ _ _ _); assumption) | ((with_reducible show RC _ _ _ _); assumption) | ((with_reducible show CDiv _ _); exact ⟨by omega, by omega⟩) | ((with_reducible show CMul _ _); first | exact .inl ⟨by omega, by omega⟩ | exact .inr ⟨by omega, by omega⟩) | ((with_reducible show CPow _ _); exact ⟨by omega, by omega, by first | decide | assumption | omega⟩) | ((with_reducible show (0 : Int) < _); omega) | ((with_reducible show (0 : Int) ≤ _); omega) | ((with_reducible show scal _ _ = true); rfl)))) (by rw [decide_eq_true (Int.natCast_nonneg m)]; rfl))
      rw [List.map_map, List.map_map] at z
      rw [List.map_map]
      exact z
    refine q_when (b := !true || (!decide (V.int ((r.map fun k : Nat => (k : Int)).map V.int).length = V.int (l : Int)) || !((r.map fun _ => true).all id))) (et_or2 (et_not (et_B (ev_cb (ea_cons (ev_var rfl) (ea_cons ev_c ea_nil)) (isi_listL hp)))) (et_or2 (by (repeat' (first | with_reducible exact ev_c | ((with_reducible show Ev (tVar _) _ _ _); exact ev_var rfl) | with_reducible exact ea_nil | with_reducible exact eo_none | with_reducible refine' ea_cons ?_ ?_ | with_reducible refine' eo_some ?_ | with_reducible refine' ev_and2 ?_ ?_ | with_reducible refine' ev_or2 ?_ ?_ | with_reducible refine' ev_notV ?_ | with_reducible exact ru_I | with_reducible refine' ev_un ?_ ?_ | with_reducible exact rv_I0 | with_reducible exact rv_isN | with_reducible exact rv_notN | with_reducible refine' rv_I ?_ | with_reducible refine' rv_eq ?_ | with_reducible refine' rv_ne ?_ | with_reducible refine' ev_op ?_ ?_ ?_ | with_reducible refine' ev_chain2 ?_ ?_ ?_ ?_ ?_ | with_reducible refine' et_B ?_ | with_reducible refine' et_test ?_ | with_reducible refine' et_and2 ?_ ?_ | with_reducible refine' et_or2 ?_ ?_ | with_reducible refine' et_not ?_ | with_reducible refine' ev_call ?_ ?_ | with_reducible refine' ev_callS ?_ ?_ | with_reducible refine' ev_cb ?_ ?_ | with_reducible exact isi_bool (by assumption) | with_reducible exact isi_int (by assumption) | with_reducible exact isi_list (by assumption) | with_reducible exact rc_len (by assumption) | with_reducible exact rc_sum (by assumption) | with_reducible exact rc_abs | with_reducible exact isi_listL (by assumption) | with_reducible exact isi_intI | with_reducible exact isi_boolI | with_reducible exact rc_lenT (by assumption) | with_reducible exact isi_tup (by assumption) | with_reducible exact rv_eqL (by assumption) (by assumption) | with_reducible exact rv_neL (by assumption) (by assumption) | with_reducible exact rv_neT (by assumption) (by assumption) | with_reducible exact rv_ixL (by assumption) (by assumption) | with_reducible exact rv_ixT (by assumption) (by assumption) | with_reducible refine' ev_din ?_ ?_ (by assumption) | with_reducible refine' ev_dnotin ?_ ?_ (by assumption) | with_reducible refine' ev_dget ?_ ?_ (by assumption) (by assumption) | ((with_reducible show SpV _ _ _ _); assumption) | ((with_reducible show RV _ _ _ _ _); assumption) | ((with_reducible show RC _ _ _ _); assumption) | ((with_reducible show CDiv _ _); exact ⟨by omega, by omega⟩) | ((with_reducible show CMul _ _); first | exact .inl ⟨by omega, by omega⟩ | exact .inr ⟨by omega, by omega⟩) | ((with_reducible show CPow _ _); exact ⟨by omega, by omega, by first | decide | assumption | omega⟩) | ((with_reducible show (0 : Int) < _); omega) | ((with_reducible show (0 : Int) ≤ _); omega) | ((with_reducible show scal _ _ = true); rfl)))) (et_not (et_B (ev_all zall))))) (fun h => ?_) (fun _ H1 e1 => ?_)
    · have e2 : (r.map fun _ => true).all id = true := by
        rw [List.all_eq_true]
        intro x hx
        obtain ⟨_, _, rfl⟩ := List.mem_map.mp hx
        rfl
      rw [e2, List.length_map, rl] at h
      simp at h
    have hp1 := e1 _ _ hp
    have sp1 := sq_of (K := K) hp1
    refine q_asgL (el_rngI (n := l) (fun k => ((landN l r k : Nat) : Int)) (by (repeat' (first | with_reducible exact ev_c | ((with_reducible show Ev (tVar _) _ _ _); exact ev_var rfl) | with_reducible exact ea_nil | with_reducible exact eo_none | with_reducible refine' ea_cons ?_ ?_ | with_reducible refine' eo_some ?_ | with_reducible refine' ev_and2 ?_ ?_ | with_reducible refine' ev_or2 ?_ ?_ | with_reducible refine' ev_notV ?_ | with_reducible exact ru_I | with_reducible refine' ev_un ?_ ?_ | with_reducible exact rv_I0 | with_reducible exact rv_isN | with_reducible exact rv_notN | with_reducible refine' rv_I ?_ | with_reducible refine' rv_eq ?_ | with_reducible refine' rv_ne ?_ | with_reducible refine' ev_op ?_ ?_ ?_ | with_reducible refine' ev_chain2 ?_ ?_ ?_ ?_ ?_ | with_reducible refine' et_B ?_ | with_reducible refine' et_test ?_ | with_reducible refine' et_and2 ?_ ?_ | with_reducible refine' et_or2 ?_ ?_ | with_reducible refine' et_not ?_ | with_reducible refine' ev_call ?_ ?_ | with_reducible refine' ev_callS ?_ ?_ | with_reducible refine' ev_cb ?_ ?_ | with_reducible exact isi_bool (by assumption) | with_reducible exact isi_int (by assumption) | with_reducible exact isi_list (by assumption) | with_reducible exact rc_len (by assumption) | with_reducible exact rc_sum (by assumption) | with_reducible exact rc_abs | with_reducible exact isi_listL (by assumption) | with_reducible exact isi_intI | with_reducible exact isi_boolI | with_reducible exact rc_lenT (by assumption) | with_reducible exact isi_tup (by assumption) | with_reducible exact rv_eqL (by assumption) (by assumption) | with_reducible exact rv_neL (by assumption) (by assumption) | with_reducible exact rv_neT (by assumption) (by assumption) | with_reducible exact rv_ixL (by assumption) (by assumption) | with_reducible exact rv_ixT (by assumption) (by assumption) | with_reducible refine' ev_din ?_ ?_ (by assumption) | with_reducible refine' ev_dnotin ?_ ?_ (by assumption) | with_reducible refine' ev_dget ?_ ?_ (by assumption) (by assumption) | ((with_reducible show SpV _ _ _ _); assumption) | ((with_reducible show RV _ _ _ _ _); assumption) | ((with_reducible show RC _ _ _ _); assumption) | ((with_reducible show CDiv _ _); exact ⟨by omega, by omega⟩) | ((with_reducible show CMul _ _); first | exact .inl ⟨by omega, by omega⟩ | exact .inr ⟨by omega, by omega⟩) | ((with_reducible show CPow _ _); exact ⟨by omega, by omega, by first | decide | assumption | omega⟩) | ((with_reducible show (0 : Int) < _); omega) | ((with_reducible show (0 : Int) ≤ _); omega) | ((with_reducible show scal _ _ = true); rfl)))) (by omega) (fun _ => rfl) fun i H2 e2 hi => ?_) fun c H2 hc e2 h2 => ?_
    · have sp2 := ex_l e2 sp1
      have gi := atI_int (ns := r.map fun k : Nat => (k : Int)) (j := i) (by omega)
      rw [getD_cast] at gi
      have l0 : (0 : Int) < (l : Int) := by omega
      refine ev_is (v := .int (((i : Int) + ((r.getD i 0 : Nat) : Int)) % (l : Int))) (by (repeat' (first | with_reducible exact ev_c | ((with_reducible show Ev (tVar _) _ _ _); exact ev_var rfl) | with_reducible exact ea_nil | with_reducible exact eo_none | with_reducible refine' ea_cons ?_ ?_ | with_reducible refine' eo_some ?_ | with_reducible refine' ev_and2 ?_ ?_ | with_reducible refine' ev_or2 ?_ ?_ | with_reducible refine' ev_notV ?_ | with_reducible exact ru_I | with_reducible refine' ev_un ?_ ?_ | with_reducible exact rv_I0 | with_reducible exact rv_isN | with_reducible exact rv_notN | with_reducible refine' rv_I ?_ | with_reducible refine' rv_eq ?_ | with_reducible refine' rv_ne ?_ | with_reducible refine' ev_op ?_ ?_ ?_ | with_reducible refine' ev_chain2 ?_ ?_ ?_ ?_ ?_ | with_reducible refine' et_B ?_ | with_reducible refine' et_test ?_ | with_reducible refine' et_and2 ?_ ?_ | with_reducible refine' et_or2 ?_ ?_ | with_reducible refine' et_not ?_ | with_reducible refine' ev_call ?_ ?_ | with_reducible refine' ev_callS ?_ ?_ | with_reducible refine' ev_cb ?_ ?_ | with_reducible exact isi_bool (by assumption) | with_reducible exact isi_int (by assumption) | with_reducible exact isi_list (by assumption) | with_reducible exact rc_len (by assumption) | with_reducible exact rc_sum (by assumption) | with_reducible exact rc_abs | with_reducible exact isi_listL (by assumption) | with_reducible exact isi_intI | with_reducible exact isi_boolI | with_reducible exact rc_lenT (by assumption) | with_reducible exact isi_tup (by assumption) | with_reducible exact rv_eqL (by assumption) (by assumption) | with_reducible exact rv_neL (by assumption) (by assumption) | with_reducible exact rv_neT (by assumption) (by assumption) | with_reducible exact rv_ixL (by assumption) (by assumption) | with_reducible exact rv_ixT (by assumption) (by assumption) | with_reducible refine' ev_din ?_ ?_ (by assumption) | with_reducible refine' ev_dnotin ?_ ?_ (by assumption) | with_reducible refine' ev_dget ?_ ?_ (by assumption) (by assumption) | ((with_reducible show SpV _ _ _ _); assumption) | ((with_reducible show RV _ _ _ _ _); assumption) | ((with_reducible show RC _ _ _ _); assumption) | ((with_reducible show CDiv _ _); exact ⟨by omega, by omega⟩) | ((with_reducible show CMul _ _); first | exact .inl ⟨by omega, by omega⟩ | exact .inr ⟨by omega, by omega⟩) | ((with_reducible show CPow _ _); exact ⟨by omega, by omega, by first | decide | assumption | omega⟩) | ((with_reducible show (0 : Int) < _); omega) | ((with_reducible show (0 : Int) ≤ _); omega) | ((with_reducible show scal _ _ = true); rfl)))) (congrArg V.int ?_)
      unfold landN
      rw [Int.natCast_emod, Int.natCast_add]
    have sp2 := ex_l e2 sp1
    have sc := sq_of (K := K) h2
    have pm : ((List.range l).map fun k : Nat => (k : Int)).Perm ((List.range l).map fun k => ((landN l r k : Nat) : Int)) := by
      have z := hd.map fun k : Nat => (k : Int)
      rw [List.map_map] at z
      exact z
    have sorted : ((List.range l).map fun k : Nat => (k : Int)).Pairwise (· ≤ ·) := by
      rw [List.pairwise_map]
      exact List.pairwise_lt_range.imp fun h => by omega
    have hsum : (r.map fun k : Nat => (k : Int)).sum = ((b * l : Nat) : Int) := by rw [sum_cast, hs]
    have sq1 : RC (rSum K) [.ref p] H2 (.int (r.map fun k : Nat => (k : Int)).sum) := rc_sum sp2
    have hbl := Nat.mul_le_mul hb h6
    have q2 := RetV.mono (e1.trans e2) q
    refine s_ret (v := .bl (decide (((List.range l).map fun k : Nat => (k : Int)) = ((List.range l).map fun k : Nat => (k : Int))) && decide (V.int (r.map fun k : Nat => (k : Int)).sum = V.int ((b : Int) * (l : Int))))) (ev_and2 (ev_opLL (el_cb (ea_cons (ev_var rfl) ea_nil) (rcl_sorted sc pm sorted)) (el_rngI (n := l) (fun k => (k : Int)) (by (repeat' (first | with_reducible exact ev_c | ((with_reducible show Ev (tVar _) _ _ _); exact ev_var rfl) | with_reducible exact ea_nil | with_reducible exact eo_none | with_reducible refine' ea_cons ?_ ?_ | with_reducible refine' eo_some ?_ | with_reducible refine' ev_and2 ?_ ?_ | with_reducible refine' ev_or2 ?_ ?_ | with_reducible refine' ev_notV ?_ | with_reducible exact ru_I | with_reducible refine' ev_un ?_ ?_ | with_reducible exact rv_I0 | with_reducible exact rv_isN | with_reducible exact rv_notN | with_reducible refine' rv_I ?_ | with_reducible refine' rv_eq ?_ | with_reducible refine' rv_ne ?_ | with_reducible refine' ev_op ?_ ?_ ?_ | with_reducible refine' ev_chain2 ?_ ?_ ?_ ?_ ?_ | with_reducible refine' et_B ?_ | with_reducible refine' et_test ?_ | with_reducible refine' et_and2 ?_ ?_ | with_reducible refine' et_or2 ?_ ?_ | with_reducible refine' et_not ?_ | with_reducible refine' ev_call ?_ ?_ | with_reducible refine' ev_callS ?_ ?_ | with_reducible refine' ev_cb ?_ ?_ | with_reducible exact isi_bool (by assumption) | with_reducible exact isi_int (by assumption) | with_reducible exact isi_list (by assumption) | with_reducible exact rc_len (by assumption) | with_reducible exact rc_sum (by assumption) | with_reducible exact rc_abs | with_reducible exact isi_listL (by assumption) | with_reducible exact isi_intI | with_reducible exact isi_boolI | with_reducible exact rc_lenT (by assumption) | with_reducible exact isi_tup (by assumption) | with_reducible exact rv_eqL (by assumption) (by assumption) | with_reducible exact rv_neL (by assumption) (by assumption) | with_reducible exact rv_neT (by assumption) (by assumption) | with_reducible exact rv_ixL (by assumption) (by assumption) | with_reducible exact rv_ixT (by assumption) (by assumption) | with_reducible refine' ev_din ?_ ?_ (by assumption) | with_reducible refine' ev_dnotin ?_ ?_ (by assumption) | with_reducible refine' ev_dget ?_ ?_ (by assumption) (by assumption) | ((with_reducible show SpV _ _ _ _); assumption) | ((with_reducible show RV _ _ _ _ _); assumption) | ((with_reducible show RC _ _ _ _); assumption) | ((with_reducible show CDiv _ _); exact ⟨by omega, by omega⟩) | ((with_reducible show CMul _ _); first | exact .inl ⟨by omega, by omega⟩ | exact .inr ⟨by omega, by omega⟩) | ((with_reducible show CPow _ _); exact ⟨by omega, by omega, by first | decide | assumption | omega⟩) | ((with_reducible show (0 : Int) < _); omega) | ((with_reducible show (0 : Int) ≤ _); omega) | ((with_reducible show scal _ _ = true); rfl)))) (by omega) (fun _ => rfl) (fun i H3 e3 hi => ev_var rfl)) (fun u w H3 hu hw e3 => rv_eqL (sq_of hu) (sq_of hw))) (by (repeat' (first | with_reducible exact ev_c | ((with_reducible show Ev (tVar _) _ _ _); exact ev_var rfl) | with_reducible exact ea_nil | with_reducible exact eo_none | with_reducible refine' ea_cons ?_ ?_ | with_reducible refine' eo_some ?_ | with_reducible refine' ev_and2 ?_ ?_ | with_reducible refine' ev_or2 ?_ ?_ | with_reducible refine' ev_notV ?_ | with_reducible exact ru_I | with_reducible refine' ev_un ?_ ?_ | with_reducible exact rv_I0 | with_reducible exact rv_isN | with_reducible exact rv_notN | with_reducible refine' rv_I ?_ | with_reducible refine' rv_eq ?_ | with_reducible refine' rv_ne ?_ | with_reducible refine' ev_op ?_ ?_ ?_ | with_reducible refine' ev_chain2 ?_ ?_ ?_ ?_ ?_ | with_reducible refine' et_B ?_ | with_reducible refine' et_test ?_ | with_reducible refine' et_and2 ?_ ?_ | with_reducible refine' et_or2 ?_ ?_ | with_reducible refine' et_not ?_ | with_reducible refine' ev_call ?_ ?_ | with_reducible refine' ev_callS ?_ ?_ | with_reducible refine' ev_cb ?_ ?_ | with_reducible exact isi_bool (by assumption) | with_reducible exact isi_int (by assumption) | with_reducible exact isi_list (by assumption) | with_reducible exact rc_len (by assumption) | with_reducible exact rc_sum (by assumption) | with_reducible exact rc_abs | with_reducible exact isi_listL (by assumption) | with_reducible exact isi_intI | with_reducible exact isi_boolI | with_reducible exact rc_lenT (by assumption) | with_reducible exact isi_tup (by assumption) | with_reducible exact rv_eqL (by assumption) (by assumption) | with_reducible exact rv_neL (by assumption) (by assumption) | with_reducible exact rv_neT (by assumption) (by assumption) | with_reducible exact rv_ixL (by assumption) (by assumption) | with_reducible exact rv_ixT (by assumption) (by assumption) | with_reducible refine' ev_din ?_ ?_ (by assumption) | with_reducible refine' ev_dnotin ?_ ?_ (by assumption) | with_reducible refine' ev_dget ?_ ?_ (by assumption) (by assumption) | ((with_reducible show SpV _ _ _ _); assumption) | ((with_reducible show RV _ _ _ _ _); assumption) | ((with_reducible show RC _ _ _ _); assumption) | ((with_reducible show CDiv _ _); exact ⟨by omega, by omega⟩) | ((with_reducible show CMul _ _); first | exact .inl ⟨by omega, by omega⟩ | exact .inr ⟨by omega, by omega⟩) | ((with_reducible show CPow _ _); exact ⟨by omega, by omega, by first | decide | assumption | omega⟩) | ((with_reducible show (0 : Int) < _); omega) | ((with_reducible show (0 : Int) ≤ _); omega) | ((with_reducible show scal _ _ = true); rfl))))) fun H3 e3 => ?_
    rw [decide_eq_true rfl, hsum, Int.natCast_mul, decide_eq_true rfl]
    exact q2 H3 e3

def sp_power : Sp := fun vs H Q E => ∃ (x n : Nat), vs = [.int (x : Int), .int (n : Int)] ∧ x ≤ 4 ∧ n ≤ 6 ∧ RetV (.int ((x ^ n : Nat) : Int)) H Q
theorem sc__law_power : FnScope ["_law_number", "_law_times", "_law_made", "_law_k"] ["_law_number", "_law_times"] (defScope s__law_power) := ⟨rfl, rfl, rfl, by decide +kernel, rfl, by decide +kernel, by decide +kernel⟩
theorem ok__law_power {P : Program} {w : World} {K : PySem.W.Frag} {mg : Str → Option Value} {base : Heap} (T : TXT K mg) : OK P w K mg base "_law_power" ["_law_number", "_law_times"] 2 (sp_power) := by
  obtain ⟨fd, F⟩ := T.def_ 10
  refine ⟨_, fd, T.glo 10, F.kp, F.bindsN (fun _ _ _ _ _ _ us hl => match us, hl with | [_, _], _ => rfl), F.ok sc__law_power (fun vs H Q E h => ?_) (fun cdv A outer s H vs Q E hr h => ?_), F.bindsA (fun _ _ _ _ _ _ us hl => match us, hl with | [_, _], _ => rfl)⟩
  · first | (obtain ⟨rfl, _⟩ := h; rfl) | (obtain ⟨_, rfl, _⟩ := h; rfl) | (obtain ⟨_, _, rfl, _⟩ := h; rfl) | (obtain ⟨_, _, _, rfl, _⟩ := h; rfl) | (obtain ⟨_, _, _, _, rfl, _⟩ := h; rfl) | (obtain ⟨_, _, _, _, _, rfl, _⟩ := h; rfl) | (obtain ⟨_, _, _, _, _, _, rfl, _⟩ := h; rfl) | (obtain ⟨_, _, _, _, _, _, _, rfl, _⟩ := h; rfl) | (obtain ⟨_, _, _, _, _, _, _, _, rfl, _⟩ := h; rfl)
  · replace F : FunD K "_law_power" "_law_power" (defArgs s__law_power) (defBody s__law_power) (defScope s__law_power) [] [] (He.ga K "_law_power") fd := F
    refine ⟨_, (pss_cons (ps_set (i := 2) sc__law_power.nd rfl (Or.inl rfl) pe_int)
      (pss_cons (ps_for (passes_of rfl) rfl (pi_range1 (by rfl) (T.free 23) (pa_cons (pv 1) pa_nil)) (pg_name (i := 3) sc__law_power.nd rfl (Or.inl rfl))
        (pss_one (ps_set (i := 2) sc__law_power.nd rfl (Or.inl rfl) (pe_op op_mul (pv 2) (pv 0)))))
      (pss_one (ps_ret (pv 2))))), ?_⟩
    obtain ⟨x, n, rfl, hx, hn, q⟩ := h
    dsimp only [cxOf, L2.start, List.map_cons, List.map_nil, List.length_cons, List.length_nil, Nat.reduceAdd, Nat.reduceSub, List.replicate_succ, List.replicate_zero, List.cons_append, List.nil_append, Nat.zero_add, List.reduceReplicate, List.map]
    have cap : ∀ k, k ≤ n → x ^ k ≤ 4096 := fun k hk => by
      have a : x ^ k ≤ 4 ^ k := Nat.pow_le_pow_left hx k
      have b : 4 ^ k ≤ 4 ^ 6 := Nat.pow_le_pow_right (by decide) (by omega)
      omega
    refine q_asg (v := .int 1) (by (repeat' (first | with_reducible exact ev_c | ((with_reducible show Ev (tVar _) _ _ _); exact ev_var rfl) | with_reducible exact ea_nil | with_reducible exact eo_none | with_reducible refine' ea_cons ?_ ?_ | with_reducible refine' eo_some ?_ | with_reducible refine' ev_and2 ?_ ?_ | with_reducible refine' ev_or2 ?_ ?_ | with_reducible refine' ev_notV ?_ | with_reducible exact ru_I | with_reducible refine' ev_un ?_ ?_ | with_reducible exact rv_I0 | with_reducible exact rv_isN | with_reducible exact rv_notN | with_reducible refine' rv_I ?_ | with_reducible refine' rv_eq ?_ | with_reducible refine' rv_ne ?_ | with_reducible refine' ev_op ?_ ?_ ?_ | with_reducible refine' ev_chain2 ?_ ?_ ?_ ?_ ?_ | with_reducible refine' et_B ?_ | with_reducible refine' et_test ?_ | with_reducible refine' et_and2 ?_ ?_ | with_reducible refine' et_or2 ?_ ?_ | with_reducible refine' et_not ?_ | with_reducible refine' ev_call ?_ ?_ | with_reducible refine' ev_callS ?_ ?_ | with_reducible refine' ev_cb ?_ ?_ | with_reducible exact isi_bool (by assumption) | with_reducible exact isi_int (by assumption) | with_reducible exact isi_list (by assumption) | with_reducible exact rc_len (by assumption) | with_reducible exact rc_sum (by assumption) | with_reducible exact rc_abs | with_reducible exact isi_listL (by assumption) | with_reducible exact isi_intI | with_reducible exact isi_boolI | with_reducible exact rc_lenT (by assumption) | with_reducible exact isi_tup (by assumption) | with_reducible exact rv_eqL (by assumption) (by assumption) | with_reducible exact rv_neL (by assumption) (by assumption) | with_reducible exact rv_neT (by assumption) (by assumption) | with_reducible exact rv_ixL (by assumption) (by assumption) | with_reducible exact rv_ixT (by assumption) (by assumption) | with_reducible refine' ev_din ?_ ?_ (by assumption) | with_reducible refine' ev_dnotin ?_ ?_ (by assumption) | with_reducible refine' ev_dget ?_ ?_ (by assumption) (by assumption) | ((with_reducible show SpV _ _ _ _); assumption) | ((with_reducible show RV _ _ _ _ _); assumption) | ((with_reducible show RC _ _ _ _); assumption) | ((with_reducible show CDiv _ _); exact ⟨by omega, by omega⟩) | ((with_reducible show CMul _ _); first | exact .inl ⟨by omega, by omega⟩ | exact .inr ⟨by omega, by omega⟩) | ((with_reducible show CPow _ _); exact ⟨by omega, by omega, by first | decide | assumption | omega⟩) | ((with_reducible show (0 : Int) < _); omega) | ((with_reducible show (0 : Int) ≤ _); omega) | ((with_reducible show scal _ _ = true); rfl)))) fun H1 e1 => ?_
    refine q_forR1 (n := (n : Int)) (by (repeat' (first | with_reducible exact ev_c | ((with_reducible show Ev (tVar _) _ _ _); exact ev_var rfl) | with_reducible exact ea_nil | with_reducible exact eo_none | with_reducible refine' ea_cons ?_ ?_ | with_reducible refine' eo_some ?_ | with_reducible refine' ev_and2 ?_ ?_ | with_reducible refine' ev_or2 ?_ ?_ | with_reducible refine' ev_notV ?_ | with_reducible exact ru_I | with_reducible refine' ev_un ?_ ?_ | with_reducible exact rv_I0 | with_reducible exact rv_isN | with_reducible exact rv_notN | with_reducible refine' rv_I ?_ | with_reducible refine' rv_eq ?_ | with_reducible refine' rv_ne ?_ | with_reducible refine' ev_op ?_ ?_ ?_ | with_reducible refine' ev_chain2 ?_ ?_ ?_ ?_ ?_ | with_reducible refine' et_B ?_ | with_reducible refine' et_test ?_ | with_reducible refine' et_and2 ?_ ?_ | with_reducible refine' et_or2 ?_ ?_ | with_reducible refine' et_not ?_ | with_reducible refine' ev_call ?_ ?_ | with_reducible refine' ev_callS ?_ ?_ | with_reducible refine' ev_cb ?_ ?_ | with_reducible exact isi_bool (by assumption) | with_reducible exact isi_int (by assumption) | with_reducible exact isi_list (by assumption) | with_reducible exact rc_len (by assumption) | with_reducible exact rc_sum (by assumption) | with_reducible exact rc_abs | with_reducible exact isi_listL (by assumption) | with_reducible exact isi_intI | with_reducible exact isi_boolI | with_reducible exact rc_lenT (by assumption) | with_reducible exact isi_tup (by assumption) | with_reducible exact rv_eqL (by assumption) (by assumption) | with_reducible exact rv_neL (by assumption) (by assumption) | with_reducible exact rv_neT (by assumption) (by assumption) | with_reducible exact rv_ixL (by assumption) (by assumption) | with_reducible exact rv_ixT (by assumption) (by assumption) | with_reducible refine' ev_din ?_ ?_ (by assumption) | with_reducible refine' ev_dnotin ?_ ?_ (by assumption) | with_reducible refine' ev_dget ?_ ?_ (by assumption) (by assumption) | ((with_reducible show SpV _ _ _ _); assumption) | ((with_reducible show RV _ _ _ _ _); assumption) | ((with_reducible show RC _ _ _ _); assumption) | ((with_reducible show CDiv _ _); exact ⟨by omega, by omega⟩) | ((with_reducible show CMul _ _); first | exact .inl ⟨by omega, by omega⟩ | exact .inr ⟨by omega, by omega⟩) | ((with_reducible show CPow _ _); exact ⟨by omega, by omega, by first | decide | assumption | omega⟩) | ((with_reducible show (0 : Int) < _); omega) | ((with_reducible show (0 : Int) ≤ _); omega) | ((with_reducible show scal _ _ = true); rfl)))) (by omega) (fun k σ' H' => ∃ y3, σ' = [some (V.int (x : Int)), some (V.int (n : Int)), some (V.int ((x ^ k : Nat) : Int)), y3] ∧ Ex H H') (fun H2 e2 => ⟨_, rfl, e1.trans e2⟩) ?_ ?_
    · rintro k σ' H2 hk ⟨y3, rfl, e2⟩
      have ck := cap k (by omega)
      refine s_asg (v := .int ((x ^ (k + 1) : Nat) : Int)) (ev_is (v := .int (((x ^ k : Nat) : Int) * (x : Int))) (by (repeat' (first | with_reducible exact ev_c | ((with_reducible show Ev (tVar _) _ _ _); exact ev_var rfl) | with_reducible exact ea_nil | with_reducible exact eo_none | with_reducible refine' ea_cons ?_ ?_ | with_reducible refine' eo_some ?_ | with_reducible refine' ev_and2 ?_ ?_ | with_reducible refine' ev_or2 ?_ ?_ | with_reducible refine' ev_notV ?_ | with_reducible exact ru_I | with_reducible refine' ev_un ?_ ?_ | with_reducible exact rv_I0 | with_reducible exact rv_isN | with_reducible exact rv_notN | with_reducible refine' rv_I ?_ | with_reducible refine' rv_eq ?_ | with_reducible refine' rv_ne ?_ | with_reducible refine' ev_op ?_ ?_ ?_ | with_reducible refine' ev_chain2 ?_ ?_ ?_ ?_ ?_ | with_reducible refine' et_B ?_ | with_reducible refine' et_test ?_ | with_reducible refine' et_and2 ?_ ?_ | with_reducible refine' et_or2 ?_ ?_ | with_reducible refine' et_not ?_ | with_reducible refine' ev_call ?_ ?_ | with_reducible refine' ev_callS ?_ ?_ | with_reducible refine' ev_cb ?_ ?_ | with_reducible exact isi_bool (by assumption) | with_reducible exact isi_int (by assumption) | with_reducible exact isi_list (by assumption) | with_reducible exact rc_len (by assumption) | with_reducible exact rc_sum (by assumption) | with_reducible exact rc_abs | with_reducible exact isi_listL (by assumption) | with_reducible exact isi_intI | with_reducible exact isi_boolI | with_reducible exact rc_lenT (by assumption) | with_reducible exact isi_tup (by assumption) | with_reducible exact rv_eqL (by assumption) (by assumption) | with_reducible exact rv_neL (by assumption) (by assumption) | with_reducible exact rv_neT (by assumption) (by assumption) | with_reducible exact rv_ixL (by assumption) (by assumption) | with_reducible exact rv_ixT (by assumption) (by assumption) | with_reducible refine' ev_din ?_ ?_ (by assumption) | with_reducible refine' ev_dnotin ?_ ?_ (by assumption) | with_reducible refine' ev_dget ?_ ?_ (by assumption) (by assumption) | ((with_reducible show SpV _ _ _ _); assumption) | ((with_reducible show RV _ _ _ _ _); assumption) | ((with_reducible show RC _ _ _ _); assumption) | ((with_reducible show CDiv _ _); exact ⟨by omega, by omega⟩) | ((with_reducible show CMul _ _); first | exact .inl ⟨by omega, by omega⟩ | exact .inr ⟨by omega, by omega⟩) | ((with_reducible show CPow _ _); exact ⟨by omega, by omega, by first | decide | assumption | omega⟩) | ((with_reducible show (0 : Int) < _); omega) | ((with_reducible show (0 : Int) ≤ _); omega) | ((with_reducible show scal _ _ = true); rfl)))) (congrArg V.int (by rw [Nat.pow_succ, Int.natCast_mul]))) fun H3 e3 => ⟨_, rfl, e2.trans e3⟩
    · rintro σ' H2 ⟨y3, rfl, e2⟩
      rw [show ((n : Int)).toNat = n by omega]
      exact s_ret (by (repeat' (first | with_reducible exact ev_c | ((with_reducible show Ev (tVar _) _ _ _); exact ev_var rfl) | with_reducible exact ea_nil | with_reducible exact eo_none | with_reducible refine' ea_cons ?_ ?_ | with_reducible refine' eo_some ?_ | with_reducible refine' ev_and2 ?_ ?_ | with_reducible refine' ev_or2 ?_ ?_ | with_reducible refine' ev_notV ?_ | with_reducible exact ru_I | with_reducible refine' ev_un ?_ ?_ | with_reducible exact rv_I0 | with_reducible exact rv_isN | with_reducible exact rv_notN | with_reducible refine' rv_I ?_ | with_reducible refine' rv_eq ?_ | with_reducible refine' rv_ne ?_ | with_reducible refine' ev_op ?_ ?_ ?_ | with_reducible refine' ev_chain2 ?_ ?_ ?_ ?_ ?_ | with_reducible refine' et_B ?_ | with_reducible refine' et_test ?_ | with_reducible refine' et_and2 ?_ ?_ | with_reducible refine' et_or2 ?_ ?_ | with_reducible refine' et_not ?_ | with_reducible refine' ev_call ?_ ?_ | with_reducible refine' ev_callS ?_ ?_ | with_reducible refine' ev_cb ?_ ?_ | with_reducible exact isi_bool (by assumption) | with_reducible exact isi_int (by assumption) | with_reducible exact isi_list (by assumption) | with_reducible exact rc_len (by assumption) | with_reducible exact rc_sum (by assumption) | with_reducible exact rc_abs | with_reducible exact isi_listL (by assumption) | with_reducible exact isi_intI | with_reducible exact isi_boolI | with_reducible exact rc_lenT (by assumption) | with_reducible exact isi_tup (by assumption) | with_reducible exact rv_eqL (by assumption) (by assumption) | with_reducible exact rv_neL (by assumption) (by assumption) | with_reducible exact rv_neT (by assumption) (by assumption) | with_reducible exact rv_ixL (by assumption) (by assumption) | with_reducible exact rv_ixT (by assumption) (by assumption) | with_reducible refine' ev_din ?_ ?_ (by assumption) | with_reducible refine' ev_dnotin ?_ ?_ (by assumption) | with_reducible refine' ev_dget ?_ ?_ (by assumption) (by assumption) | ((with_reducible show SpV _ _ _ _); assumption) | ((with_reducible show RV _ _ _ _ _); assumption) | ((with_reducible show RC _ _ _ _); assumption) | ((with_reducible show CDiv _ _); exact ⟨by omega, by omega⟩) | ((with_reducible show CMul _ _); first | exact .inl ⟨by omega, by omega⟩ | exact .inr ⟨by omega, by omega⟩) | ((with_reducible show CPow _ _); exact ⟨by omega, by omega, by first | decide | assumption | omega⟩) | ((with_reducible show (0 : Int) < _); omega) | ((with_reducible show (0 : Int) ≤ _); omega) | ((with_reducible show scal _ _ = true); rfl)))) fun H3 e3 => q H3 (e2.trans e3)

theorem mod_nat (c : Int) {n : Nat} (hn : 1 ≤ n) : ∃ m : Nat, c % (n : Int) = (m : Int) ∧ m < n := by
  have h1 := Int.emod_nonneg c (show (n : Int) ≠ 0 by omega)
  have h2 := Int.emod_lt_of_pos c (show (0 : Int) < (n : Int) by omega)
  exact ⟨(c % (n : Int)).toNat, by omega, by omega⟩
def sp_drawn : Sp := fun vs H Q E => ∃ (n b : Nat) (c : Int), vs = [.int (n : Int), .int (b : Int), .int c] ∧ 1 ≤ n ∧ n ≤ 6 ∧ b ≤ 6 ∧ ∀ ts : List Int, Drw n b ts → RetL (ts.map V.int) H Q
theorem sc__law_drawn : FnScope ["_law_length", "_law_balls", "_law_cell", "_law_row", "_law_k", "_law_at", "_law_beside", "_law_i", "_law_j", "_law_first"] ["_law_length", "_law_balls", "_law_cell"] (defScope s__law_drawn) := ⟨rfl, rfl, rfl, by decide +kernel, rfl, by decide +kernel, by decide +kernel⟩
theorem ok__law_drawn {P : Program} {w : World} {K : PySem.W.Frag} {mg : Str → Option Value} {base : Heap} (T : TXT K mg) : OK P w K mg base "_law_drawn" ["_law_length", "_law_balls", "_law_cell"] 2 (sp_drawn) := by
  have O__law_mixed := ok__law_mixed (P := P) (w := w) (base := base) T
  obtain ⟨fd, F⟩ := T.def_ 11
  refine ⟨_, fd, T.glo 11, F.kp, F.bindsN (fun _ _ _ _ _ _ us hl => match us, hl with | [_, _, _], _ => rfl), F.ok sc__law_drawn (fun vs H Q E h => ?_) (fun cdv A outer s H vs Q E hr h => ?_), F.bindsA (fun _ _ _ _ _ _ us hl => match us, hl with | [_, _, _], _ => rfl)⟩
  · first | (obtain ⟨rfl, _⟩ := h; rfl) | (obtain ⟨_, rfl, _⟩ := h; rfl) | (obtain ⟨_, _, rfl, _⟩ := h; rfl) | (obtain ⟨_, _, _, rfl, _⟩ := h; rfl) | (obtain ⟨_, _, _, _, rfl, _⟩ := h; rfl) | (obtain ⟨_, _, _, _, _, rfl, _⟩ := h; rfl) | (obtain ⟨_, _, _, _, _, _, rfl, _⟩ := h; rfl) | (obtain ⟨_, _, _, _, _, _, _, rfl, _⟩ := h; rfl) | (obtain ⟨_, _, _, _, _, _, _, _, rfl, _⟩ := h; rfl)
  · replace F : FunD K "_law_drawn" "_law_drawn" (defArgs s__law_drawn) (defBody s__law_drawn) (defScope s__law_drawn) [] [] (He.ga K "_law_drawn") fd := F
    refine ⟨_, (pss_cons (ps_setLc (i := 3) (own := [("_law_k", 4)]) (g := gName 4) (tt := tYes) rfl sc__law_drawn.nd rfl rfl (sw_true rfl rfl rfl (by decide +kernel)) (pi_range1 (by rfl) (T.free 23) (pa_cons (pv 0) pa_nil)) (blkOk_by (N := ["_law_length", "_law_balls", "_law_cell", "_law_row", "_law_k", "_law_at", "_law_beside", "_law_i", "_law_j", "_law_first"]) (sc := defScope s__law_drawn) (by decide +kernel)) (fun _ _ _ _ _ => pg_name (i := 4) sc__law_drawn.nd rfl (Or.inl rfl)) (fun _ _ _ _ _ => pts_nil) (fun _ _ _ _ _ => (pv 1)))
      (pss_cons (ps_for (passes_of rfl) rfl (pi_range1 (by rfl) (T.free 23) (pa_cons pe_int pa_nil)) (pg_name (i := 4) sc__law_drawn.nd rfl (Or.inl rfl))
        (pss_cons (ps_set (i := 5) sc__law_drawn.nd rfl (Or.inl rfl) (pe_op op_mod (pe_own O__law_mixed (hr.mono (by decide)) (by rfl) (passes_call (takes_of rfl rfl rfl rfl) (fun _ _ _ _ h => h)) (pa_cons (pv 2) (pa_cons (pv 4) pa_nil))) (pv 0)))
      (pss_cons (ps_set (i := 6) sc__law_drawn.nd rfl (Or.inl rfl) (pe_op op_mod (pe_op op_add (pe_op op_add (pv 5) pe_int) (pe_op op_mod (pe_own O__law_mixed (hr.mono (by decide)) (by rfl) (passes_call (takes_of rfl rfl rfl rfl) (fun _ _ _ _ h => h)) (pa_cons (pv 2) (pa_cons (pe_op op_add (pv 4) pe_int) pa_nil))) pe_int)) (pv 0)))
      (pss_cons (ps_set (i := 7) sc__law_drawn.nd rfl (Or.inl rfl) (pe_callB (id := "min") (call_min2 rfl) (by rfl) (T.free 22) (by decide +kernel) (pa_cons (pv 5) (pa_cons (pv 6) pa_nil))))
      (pss_cons (ps_set (i := 8) sc__law_drawn.nd rfl (Or.inl rfl) (pe_callB (id := "max") (call_max2 rfl) (by rfl) (T.free 21) (by decide +kernel) (pa_cons (pv 5) (pa_cons (pv 6) pa_nil))))
      (pss_one (ps_if (PW.pt (pw_and (pt_cmpR op_lt (pv 7) (pv 8) (nomark _)) (pw_and1 (pt_cmpR op_ge (pe_op op_sub (pe_op op_add (pe_ix (k_ixL K) (pv 3) (pv 7) (fun _ _ => rfl)) (pv 7)) (pv 8)) pe_int (nomark _)))))
        (pss_cons (ps_set (i := 9) sc__law_drawn.nd rfl (Or.inl rfl) (pe_ix (k_ixL K) (pv 3) (pv 7) (fun _ _ => rfl)))
      (pss_cons (ps_asg (pe_op op_sub (pe_op op_add (pe_ix (k_ixL K) (pv 3) (pv 8) (fun _ _ => rfl)) (pv 8)) (pv 7)) (pg_sub (pv 3) (pv 7) set_list))
      (pss_one (ps_asg (pe_op op_sub (pe_op op_add (pv 9) (pv 7)) (pv 8)) (pg_sub (pv 3) (pv 8) set_list)))))
        pss_nil)))))))
      (pss_one (ps_ret (pv 3))))), ?_⟩
    obtain ⟨n, b, c, rfl, h1, h6, hb, q⟩ := h
    dsimp only [cxOf, L2.start, List.map_cons, List.map_nil, List.length_cons, List.length_nil, Nat.reduceAdd, Nat.reduceSub, List.replicate_succ, List.replicate_zero, List.cons_append, List.nil_append, Nat.zero_add, List.reduceReplicate, List.map]
    refine q_asgL (el_rngI (n := n) (fun _ => (b : Int)) (by (repeat' (first | with_reducible exact ev_c | ((with_reducible show Ev (tVar _) _ _ _); exact ev_var rfl) | with_reducible exact ea_nil | with_reducible exact eo_none | with_reducible refine' ea_cons ?_ ?_ | with_reducible refine' eo_some ?_ | with_reducible refine' ev_and2 ?_ ?_ | with_reducible refine' ev_or2 ?_ ?_ | with_reducible refine' ev_notV ?_ | with_reducible exact ru_I | with_reducible refine' ev_un ?_ ?_ | with_reducible exact rv_I0 | with_reducible exact rv_isN | with_reducible exact rv_notN | with_reducible refine' rv_I ?_ | with_reducible refine' rv_eq ?_ | with_reducible refine' rv_ne ?_ | with_reducible refine' ev_op ?_ ?_ ?_ | with_reducible refine' ev_chain2 ?_ ?_ ?_ ?_ ?_ | with_reducible refine' et_B ?_ | with_reducible refine' et_test ?_ | with_reducible refine' et_and2 ?_ ?_ | with_reducible refine' et_or2 ?_ ?_ | with_reducible refine' et_not ?_ | with_reducible refine' ev_call ?_ ?_ | with_reducible refine' ev_callS ?_ ?_ | with_reducible refine' ev_cb ?_ ?_ | with_reducible exact isi_bool (by assumption) | with_reducible exact isi_int (by assumption) | with_reducible exact isi_list (by assumption) | with_reducible exact rc_len (by assumption) | with_reducible exact rc_sum (by assumption) | with_reducible exact rc_abs | with_reducible exact isi_listL (by assumption) | with_reducible exact isi_intI | with_reducible exact isi_boolI | with_reducible exact rc_lenT (by assumption) | with_reducible exact isi_tup (by assumption) | with_reducible exact rv_eqL (by assumption) (by assumption) | with_reducible exact rv_neL (by assumption) (by assumption) | with_reducible exact rv_neT (by assumption) (by assumption) | with_reducible exact rv_ixL (by assumption) (by assumption) | with_reducible exact rv_ixT (by assumption) (by assumption) | with_reducible refine' ev_din ?_ ?_ (by assumption) | with_reducible refine' ev_dnotin ?_ ?_ (by assumption) | with_reducible refine' ev_dget ?_ ?_ (by assumption) (by assumption) | ((with_reducible show SpV _ _ _ _); assumption) | ((with_reducible show RV _ _ _ _ _); assumption) | ((with_reducible show RC _ _ _ _); assumption) | ((with_reducible show CDiv _ _); exact ⟨by omega, by omega⟩) | ((with_reducible show CMul _ _); first | exact .inl ⟨by omega, by omega⟩ | exact .inr ⟨by omega, by omega⟩) | ((with_reducible show CPow _ _); exact ⟨by omega, by omega, by first | decide | assumption | omega⟩) | ((with_reducible show (0 : Int) < _); omega) | ((with_reducible show (0 : Int) ≤ _); omega) | ((with_reducible show scal _ _ = true); rfl)))) (by omega) (fun _ => rfl) fun i H1 e1 hi => ev_var rfl) fun l H1 hl e1 hl1 => ?_
    rw [List.map_const', List.length_range] at hl1
    refine q_forR1 (n := 9) (by (repeat' (first | with_reducible exact ev_c | ((with_reducible show Ev (tVar _) _ _ _); exact ev_var rfl) | with_reducible exact ea_nil | with_reducible exact eo_none | with_reducible refine' ea_cons ?_ ?_ | with_reducible refine' eo_some ?_ | with_reducible refine' ev_and2 ?_ ?_ | with_reducible refine' ev_or2 ?_ ?_ | with_reducible refine' ev_notV ?_ | with_reducible exact ru_I | with_reducible refine' ev_un ?_ ?_ | with_reducible exact rv_I0 | with_reducible exact rv_isN | with_reducible exact rv_notN | with_reducible refine' rv_I ?_ | with_reducible refine' rv_eq ?_ | with_reducible refine' rv_ne ?_ | with_reducible refine' ev_op ?_ ?_ ?_ | with_reducible refine' ev_chain2 ?_ ?_ ?_ ?_ ?_ | with_reducible refine' et_B ?_ | with_reducible refine' et_test ?_ | with_reducible refine' et_and2 ?_ ?_ | with_reducible refine' et_or2 ?_ ?_ | with_reducible refine' et_not ?_ | with_reducible refine' ev_call ?_ ?_ | with_reducible refine' ev_callS ?_ ?_ | with_reducible refine' ev_cb ?_ ?_ | with_reducible exact isi_bool (by assumption) | with_reducible exact isi_int (by assumption) | with_reducible exact isi_list (by assumption) | with_reducible exact rc_len (by assumption) | with_reducible exact rc_sum (by assumption) | with_reducible exact rc_abs | with_reducible exact isi_listL (by assumption) | with_reducible exact isi_intI | with_reducible exact isi_boolI | with_reducible exact rc_lenT (by assumption) | with_reducible exact isi_tup (by assumption) | with_reducible exact rv_eqL (by assumption) (by assumption) | with_reducible exact rv_neL (by assumption) (by assumption) | with_reducible exact rv_neT (by assumption) (by assumption) | with_reducible exact rv_ixL (by assumption) (by assumption) | with_reducible exact rv_ixT (by assumption) (by assumption) | with_reducible refine' ev_din ?_ ?_ (by assumption) | with_reducible refine' ev_dnotin ?_ ?_ (by assumption) | with_reducible refine' ev_dget ?_ ?_ (by assumption) (by assumption) | ((with_reducible show SpV _ _ _ _); assumption) | ((with_reducible show RV _ _ _ _ _); assumption) | ((with_reducible show RC _ _ _ _); assumption) | ((with_reducible show CDiv _ _); exact ⟨by omega, by omega⟩) | ((with_reducible show CMul _ _); first | exact .inl ⟨by omega, by omega⟩ | exact .inr ⟨by omega, by omega⟩) | ((with_reducible show CPow _ _); exact ⟨by omega, by omega, by first | decide | assumption | omega⟩) | ((with_reducible show (0 : Int) < _); omega) | ((with_reducible show (0 : Int) ≤ _); omega) | ((with_reducible show scal _ _ = true); rfl)))) (by omega) (fun k σ' H' => ∃ (y4 y5 y6 y7 y8 y9 : Option V) (ts : List Int), σ' = [some (V.int (n : Int)), some (V.int (b : Int)), some (V.int c), some (V.ref l), y4, y5, y6, y7, y8, y9] ∧ Ex H H' ∧ H' l = some (.lst (ts.map V.int)) ∧ Drw n b ts) (fun H2 e2 => ⟨_, _, _, _, _, _, _, rfl, e1.trans e2, e2 _ _ hl1, drw_rep n b⟩) ?_ ?_
    · rintro k σ' H2 hk ⟨y4, y5, y6, y7, y8, y9, ts, rfl, e2, h2, dr⟩
      have sm := sv_mixed (H := H2) (c := c) (k := (k : Int))
      have n0 := mixed_nn c (k : Int)
      obtain ⟨u, hu, hun⟩ := mod_nat (mixed c (k : Int)) h1
      have p0 : (0 : Int) < (n : Int) := by omega
      refine q_asg (v := .int (u : Int)) (ev_is (v := .int (mixed c (k : Int) % (n : Int))) (by (repeat' (first | with_reducible exact ev_c | ((with_reducible show Ev (tVar _) _ _ _); exact ev_var rfl) | with_reducible exact ea_nil | with_reducible exact eo_none | with_reducible refine' ea_cons ?_ ?_ | with_reducible refine' eo_some ?_ | with_reducible refine' ev_and2 ?_ ?_ | with_reducible refine' ev_or2 ?_ ?_ | with_reducible refine' ev_notV ?_ | with_reducible exact ru_I | with_reducible refine' ev_un ?_ ?_ | with_reducible exact rv_I0 | with_reducible exact rv_isN | with_reducible exact rv_notN | with_reducible refine' rv_I ?_ | with_reducible refine' rv_eq ?_ | with_reducible refine' rv_ne ?_ | with_reducible refine' ev_op ?_ ?_ ?_ | with_reducible refine' ev_chain2 ?_ ?_ ?_ ?_ ?_ | with_reducible refine' et_B ?_ | with_reducible refine' et_test ?_ | with_reducible refine' et_and2 ?_ ?_ | with_reducible refine' et_or2 ?_ ?_ | with_reducible refine' et_not ?_ | with_reducible refine' ev_call ?_ ?_ | with_reducible refine' ev_callS ?_ ?_ | with_reducible refine' ev_cb ?_ ?_ | with_reducible exact isi_bool (by assumption) | with_reducible exact isi_int (by assumption) | with_reducible exact isi_list (by assumption) | with_reducible exact rc_len (by assumption) | with_reducible exact rc_sum (by assumption) | with_reducible exact rc_abs | with_reducible exact isi_listL (by assumption) | with_reducible exact isi_intI | with_reducible exact isi_boolI | with_reducible exact rc_lenT (by assumption) | with_reducible exact isi_tup (by assumption) | with_reducible exact rv_eqL (by assumption) (by assumption) | with_reducible exact rv_neL (by assumption) (by assumption) | with_reducible exact rv_neT (by assumption) (by assumption) | with_reducible exact rv_ixL (by assumption) (by assumption) | with_reducible exact rv_ixT (by assumption) (by assumption) | with_reducible refine' ev_din ?_ ?_ (by assumption) | with_reducible refine' ev_dnotin ?_ ?_ (by assumption) | with_reducible refine' ev_dget ?_ ?_ (by assumption) (by assumption) | ((with_reducible show SpV _ _ _ _); assumption) | ((with_reducible show RV _ _ _ _ _); assumption) | ((with_reducible show RC _ _ _ _); assumption) | ((with_reducible show CDiv _ _); exact ⟨by omega, by omega⟩) | ((with_reducible show CMul _ _); first | exact .inl ⟨by omega, by omega⟩ | exact .inr ⟨by omega, by omega⟩) | ((with_reducible show CPow _ _); exact ⟨by omega, by omega, by first | decide | assumption | omega⟩) | ((with_reducible show (0 : Int) < _); omega) | ((with_reducible show (0 : Int) ≤ _); omega) | ((with_reducible show scal _ _ = true); rfl)))) (congrArg V.int hu)) fun H3 e3 => ?_
      have sm3 := sv_mixed (H := H3) (c := c) (k := (k : Int) + 20)
      have n3 := mixed_nn c ((k : Int) + 20)
      obtain ⟨w, hw, hwn⟩ := mod_nat ((u : Int) + 1 + mixed c ((k : Int) + 20) % 5) h1
      refine q_asg (v := .int (w : Int)) (ev_is (v := .int (((u : Int) + 1 + mixed c ((k : Int) + 20) % 5) % (n : Int))) (by (repeat' (first | with_reducible exact ev_c | ((with_reducible show Ev (tVar _) _ _ _); exact ev_var rfl) | with_reducible exact ea_nil | with_reducible exact eo_none | with_reducible refine' ea_cons ?_ ?_ | with_reducible refine' eo_some ?_ | with_reducible refine' ev_and2 ?_ ?_ | with_reducible refine' ev_or2 ?_ ?_ | with_reducible refine' ev_notV ?_ | with_reducible exact ru_I | with_reducible refine' ev_un ?_ ?_ | with_reducible exact rv_I0 | with_reducible exact rv_isN | with_reducible exact rv_notN | with_reducible refine' rv_I ?_ | with_reducible refine' rv_eq ?_ | with_reducible refine' rv_ne ?_ | with_reducible refine' ev_op ?_ ?_ ?_ | with_reducible refine' ev_chain2 ?_ ?_ ?_ ?_ ?_ | with_reducible refine' et_B ?_ | with_reducible refine' et_test ?_ | with_reducible refine' et_and2 ?_ ?_ | with_reducible refine' et_or2 ?_ ?_ | with_reducible refine' et_not ?_ | with_reducible refine' ev_call ?_ ?_ | with_reducible refine' ev_callS ?_ ?_ | with_reducible refine' ev_cb ?_ ?_ | with_reducible exact isi_bool (by assumption) | with_reducible exact isi_int (by assumption) | with_reducible exact isi_list (by assumption) | with_reducible exact rc_len (by assumption) | with_reducible exact rc_sum (by assumption) | with_reducible exact rc_abs | with_reducible exact isi_listL (by assumption) | with_reducible exact isi_intI | with_reducible exact isi_boolI | with_reducible exact rc_lenT (by assumption) | with_reducible exact isi_tup (by assumption) | with_reducible exact rv_eqL (by assumption) (by assumption) | with_reducible exact rv_neL (by assumption) (by assumption) | with_reducible exact rv_neT (by assumption) (by assumption) | with_reducible exact rv_ixL (by assumption) (by assumption) | with_reducible exact rv_ixT (by assumption) (by assumption) | with_reducible refine' ev_din ?_ ?_ (by assumption) | with_reducible refine' ev_dnotin ?_ ?_ (by assumption) | with_reducible refine' ev_dget ?_ ?_ (by assumption) (by assumption) | ((with_reducible show SpV _ _ _ _); assumption) | ((with_reducible show RV _ _ _ _ _); assumption) | ((with_reducible show RC _ _ _ _); assumption) | ((with_reducible show CDiv _ _); exact ⟨by omega, by omega⟩) | ((with_reducible show CMul _ _); first | exact .inl ⟨by omega, by omega⟩ | exact .inr ⟨by omega, by omega⟩) | ((with_reducible show CPow _ _); exact ⟨by omega, by omega, by first | decide | assumption | omega⟩) | ((with_reducible show (0 : Int) < _); omega) | ((with_reducible show (0 : Int) ≤ _); omega) | ((with_reducible show scal _ _ = true); rfl)))) (congrArg V.int hw)) fun H4 e4 => ?_
      have m1 : RC (fun xs H Q => ∃ i j, xs = [.int i, .int j] ∧ Q (.int (if j < i then j else i)) H) [.int (u : Int), .int (w : Int)] H4 (.int (if (w : Int) < (u : Int) then (w : Int) else (u : Int))) := fun H1 _ _ q => ⟨_, _, rfl, q H1 (Ex.refl H1)⟩
      have hmin : (if (w : Int) < (u : Int) then (w : Int) else (u : Int)) = ((min u w : Nat) : Int) := by split <;> omega
      refine q_asg (v := .int ((min u w : Nat) : Int)) (ev_is (v := .int (if (w : Int) < (u : Int) then (w : Int) else (u : Int))) (by (repeat' (first | with_reducible exact ev_c | ((with_reducible show Ev (tVar _) _ _ _); exact ev_var rfl) | with_reducible exact ea_nil | with_reducible exact eo_none | with_reducible refine' ea_cons ?_ ?_ | with_reducible refine' eo_some ?_ | with_reducible refine' ev_and2 ?_ ?_ | with_reducible refine' ev_or2 ?_ ?_ | with_reducible refine' ev_notV ?_ | with_reducible exact ru_I | with_reducible refine' ev_un ?_ ?_ | with_reducible exact rv_I0 | with_reducible exact rv_isN | with_reducible exact rv_notN | with_reducible refine' rv_I ?_ | with_reducible refine' rv_eq ?_ | with_reducible refine' rv_ne ?_ | with_reducible refine' ev_op ?_ ?_ ?_ | with_reducible refine' ev_chain2 ?_ ?_ ?_ ?_ ?_ | with_reducible refine' et_B ?_ | with_reducible refine' et_test ?_ | with_reducible refine' et_and2 ?_ ?_ | with_reducible refine' et_or2 ?_ ?_ | with_reducible refine' et_not ?_ | with_reducible refine' ev_call ?_ ?_ | with_reducible refine' ev_callS ?_ ?_ | with_reducible refine' ev_cb ?_ ?_ | with_reducible exact isi_bool (by assumption) | with_reducible exact isi_int (by assumption) | with_reducible exact isi_list (by assumption) | with_reducible exact rc_len (by assumption) | with_reducible exact rc_sum (by assumption) | with_reducible exact rc_abs | with_reducible exact isi_listL (by assumption) | with_reducible exact isi_intI | with_reducible exact isi_boolI | with_reducible exact rc_lenT (by assumption) | with_reducible exact isi_tup (by assumption) | with_reducible exact rv_eqL (by assumption) (by assumption) | with_reducible exact rv_neL (by assumption) (by assumption) | with_reducible exact rv_neT (by assumption) (by assumption) | with_reducible exact rv_ixL (by assumption) (by assumption) | with_reducible exact rv_ixT (by assumption) (by assumption) | with_reducible refine' ev_din ?_ ?_ (by assumption) | with_reducible refine' ev_dnotin ?_ ?_ (by assumption) | with_reducible refine' ev_dget ?_ ?_ (by assumption) (by assumption) | ((with_reducible show SpV _ _ _ _); assumption) | ((with_reducible show RV _ _ _ _ _); assumption) | ((with_reducible show RC _ _ _ _); assumption) | ((with_reducible show CDiv _ _); exact ⟨by omega, by omega⟩) | ((with_reducible show CMul _ _); first | exact .inl ⟨by omega, by omega⟩ | exact .inr ⟨by omega, by omega⟩) | ((with_reducible show CPow _ _); exact ⟨by omega, by omega, by first | decide | assumption | omega⟩) | ((with_reducible show (0 : Int) < _); omega) | ((with_reducible show (0 : Int) ≤ _); omega) | ((with_reducible show scal _ _ = true); rfl)))) (congrArg V.int hmin)) fun H5 e5 => ?_
      have m2 : RC (fun xs H Q => ∃ i j, xs = [.int i, .int j] ∧ Q (.int (if j > i then j else i)) H) [.int (u : Int), .int (w : Int)] H5 (.int (if (w : Int) > (u : Int) then (w : Int) else (u : Int))) := fun H1 _ _ q => ⟨_, _, rfl, q H1 (Ex.refl H1)⟩
      have hmax : (if (w : Int) > (u : Int) then (w : Int) else (u : Int)) = ((max u w : Nat) : Int) := by split <;> omega
      refine q_asg (v := .int ((max u w : Nat) : Int)) (ev_is (v := .int (if (w : Int) > (u : Int) then (w : Int) else (u : Int))) (by (repeat' (first | with_reducible exact ev_c | ((with_reducible show Ev (tVar _) _ _ _); exact ev_var rfl) | with_reducible exact ea_nil | with_reducible exact eo_none | with_reducible refine' ea_cons ?_ ?_ | with_reducible refine' eo_some ?_ | with_reducible refine' ev_and2 ?_ ?_ | with_reducible refine' ev_or2 ?_ ?_ | with_reducible refine' ev_notV ?_ | with_reducible exact ru_I | with_reducible refine' ev_un ?_ ?_ | with_reducible exact rv_I0 | with_reducible exact rv_isN | with_reducible exact rv_notN | with_reducible refine' rv_I ?_ | with_reducible refine' rv_eq ?_ | with_reducible refine' rv_ne ?_ | with_reducible refine' ev_op ?_ ?_ ?_ | with_reducible refine' ev_chain2 ?_ ?_ ?_ ?_ ?_ | with_reducible refine' et_B ?_ | with_reducible refine' et_test ?_ | with_reducible refine' et_and2 ?_ ?_ | with_reducible refine' et_or2 ?_ ?_ | with_reducible refine' et_not ?_ | with_reducible refine' ev_call ?_ ?_ | with_reducible refine' ev_callS ?_ ?_ | with_reducible refine' ev_cb ?_ ?_ | with_reducible exact isi_bool (by assumption) | with_reducible exact isi_int (by assumption) | with_reducible exact isi_list (by assumption) | with_reducible exact rc_len (by assumption) | with_reducible exact rc_sum (by assumption) | with_reducible exact rc_abs | with_reducible exact isi_listL (by assumption) | with_reducible exact isi_intI | with_reducible exact isi_boolI | with_reducible exact rc_lenT (by assumption) | with_reducible exact isi_tup (by assumption) | with_reducible exact rv_eqL (by assumption) (by assumption) | with_reducible exact rv_neL (by assumption) (by assumption) | with_reducible exact rv_neT (by assumption) (by assumption) | with_reducible exact rv_ixL (by assumption) (by assumption) | with_reducible exact rv_ixT (by assumption) (by assumption) | with_reducible refine' ev_din ?_ ?_ (by assumption) | with_reducible refine' ev_dnotin ?_ ?_ (by assumption) | with_reducible refine' ev_dget ?_ ?_ (by assumption) (by assumption) | ((with_reducible show SpV _ _ _ _); assumption) | ((with_reducible show RV _ _ _ _ _); assumption) | ((with_reducible show RC _ _ _ _); assumption) | ((with_reducible show CDiv _ _); exact ⟨by omega, by omega⟩) | ((with_reducible show CMul _ _); first | exact .inl ⟨by omega, by omega⟩ | exact .inr ⟨by omega, by omega⟩) | ((with_reducible show CPow _ _); exact ⟨by omega, by omega, by first | decide | assumption | omega⟩) | ((with_reducible show (0 : Int) < _); omega) | ((with_reducible show (0 : Int) ≤ _); omega) | ((with_reducible show scal _ _ = true); rfl)))) (congrArg V.int hmax)) fun H6 e6 => ?_
      obtain ⟨i, hi⟩ : ∃ i, i = min u w := ⟨_, rfl⟩
      obtain ⟨j, hj⟩ : ∃ j, j = max u w := ⟨_, rfl⟩
      rw [← hi, ← hj]
      have hin : i < n := by omega
      have hjn : j < n := by omega
      have tl := dr.1
      have e26 := ((e3.trans e4).trans e5).trans e6
      have h6 := e26 _ _ h2
      have s6 := sq_of (K := K) h6
      have gi := atI_int (ns := ts) (j := i) (by omega)
      have gj := atI_int (ns := ts) (j := j) (by omega)
      refine s_when (b := decide ((i : Int) < (j : Int)) && decide (0 ≤ ts.getD i 0 + (i : Int) - (j : Int))) (by (repeat' (first | with_reducible exact ev_c | ((with_reducible show Ev (tVar _) _ _ _); exact ev_var rfl) | with_reducible exact ea_nil | with_reducible exact eo_none | with_reducible refine' ea_cons ?_ ?_ | with_reducible refine' eo_some ?_ | with_reducible refine' ev_and2 ?_ ?_ | with_reducible refine' ev_or2 ?_ ?_ | with_reducible refine' ev_notV ?_ | with_reducible exact ru_I | with_reducible refine' ev_un ?_ ?_ | with_reducible exact rv_I0 | with_reducible exact rv_isN | with_reducible exact rv_notN | with_reducible refine' rv_I ?_ | with_reducible refine' rv_eq ?_ | with_reducible refine' rv_ne ?_ | with_reducible refine' ev_op ?_ ?_ ?_ | with_reducible refine' ev_chain2 ?_ ?_ ?_ ?_ ?_ | with_reducible refine' et_B ?_ | with_reducible refine' et_test ?_ | with_reducible refine' et_and2 ?_ ?_ | with_reducible refine' et_or2 ?_ ?_ | with_reducible refine' et_not ?_ | with_reducible refine' ev_call ?_ ?_ | with_reducible refine' ev_callS ?_ ?_ | with_reducible refine' ev_cb ?_ ?_ | with_reducible exact isi_bool (by assumption) | with_reducible exact isi_int (by assumption) | with_reducible exact isi_list (by assumption) | with_reducible exact rc_len (by assumption) | with_reducible exact rc_sum (by assumption) | with_reducible exact rc_abs | with_reducible exact isi_listL (by assumption) | with_reducible exact isi_intI | with_reducible exact isi_boolI | with_reducible exact rc_lenT (by assumption) | with_reducible exact isi_tup (by assumption) | with_reducible exact rv_eqL (by assumption) (by assumption) | with_reducible exact rv_neL (by assumption) (by assumption) | with_reducible exact rv_neT (by assumption) (by assumption) | with_reducible exact rv_ixL (by assumption) (by assumption) | with_reducible exact rv_ixT (by assumption) (by assumption) | with_reducible refine' ev_din ?_ ?_ (by assumption) | with_reducible refine' ev_dnotin ?_ ?_ (by assumption) | with_reducible refine' ev_dget ?_ ?_ (by assumption) (by assumption) | ((with_reducible show SpV _ _ _ _); assumption) | ((with_reducible show RV _ _ _ _ _); assumption) | ((with_reducible show RC _ _ _ _); assumption) | ((with_reducible show CDiv _ _); exact ⟨by omega, by omega⟩) | ((with_reducible show CMul _ _); first | exact .inl ⟨by omega, by omega⟩ | exact .inr ⟨by omega, by omega⟩) | ((with_reducible show CPow _ _); exact ⟨by omega, by omega, by first | decide | assumption | omega⟩) | ((with_reducible show (0 : Int) < _); omega) | ((with_reducible show (0 : Int) ≤ _); omega) | ((with_reducible show scal _ _ = true); rfl)))) (fun hb H7 e7 => ?_) (fun hb H7 e7 => ⟨_, _, _, _, _, _, ts, rfl, (e2.trans e26).trans e7, e7 _ _ h6, dr⟩)
      rw [Bool.and_eq_true, decide_eq_true_iff, decide_eq_true_iff] at hb
      have hij : i < j := by omega
      have s7 := ex_l e7 s6
      refine q_asg (v := .int (ts.getD i 0)) (by (repeat' (first | with_reducible exact ev_c | ((with_reducible show Ev (tVar _) _ _ _); exact ev_var rfl) | with_reducible exact ea_nil | with_reducible exact eo_none | with_reducible refine' ea_cons ?_ ?_ | with_reducible refine' eo_some ?_ | with_reducible refine' ev_and2 ?_ ?_ | with_reducible refine' ev_or2 ?_ ?_ | with_reducible refine' ev_notV ?_ | with_reducible exact ru_I | with_reducible refine' ev_un ?_ ?_ | with_reducible exact rv_I0 | with_reducible exact rv_isN | with_reducible exact rv_notN | with_reducible refine' rv_I ?_ | with_reducible refine' rv_eq ?_ | with_reducible refine' rv_ne ?_ | with_reducible refine' ev_op ?_ ?_ ?_ | with_reducible refine' ev_chain2 ?_ ?_ ?_ ?_ ?_ | with_reducible refine' et_B ?_ | with_reducible refine' et_test ?_ | with_reducible refine' et_and2 ?_ ?_ | with_reducible refine' et_or2 ?_ ?_ | with_reducible refine' et_not ?_ | with_reducible refine' ev_call ?_ ?_ | with_reducible refine' ev_callS ?_ ?_ | with_reducible refine' ev_cb ?_ ?_ | with_reducible exact isi_bool (by assumption) | with_reducible exact isi_int (by assumption) | with_reducible exact isi_list (by assumption) | with_reducible exact rc_len (by assumption) | with_reducible exact rc_sum (by assumption) | with_reducible exact rc_abs | with_reducible exact isi_listL (by assumption) | with_reducible exact isi_intI | with_reducible exact isi_boolI | with_reducible exact rc_lenT (by assumption) | with_reducible exact isi_tup (by assumption) | with_reducible exact rv_eqL (by assumption) (by assumption) | with_reducible exact rv_neL (by assumption) (by assumption) | with_reducible exact rv_neT (by assumption) (by assumption) | with_reducible exact rv_ixL (by assumption) (by assumption) | with_reducible exact rv_ixT (by assumption) (by assumption) | with_reducible refine' ev_din ?_ ?_ (by assumption) | with_reducible refine' ev_dnotin ?_ ?_ (by assumption) | with_reducible refine' ev_dget ?_ ?_ (by assumption) (by assumption) | ((with_reducible show SpV _ _ _ _); assumption) | ((with_reducible show RV _ _ _ _ _); assumption) | ((with_reducible show RC _ _ _ _); assumption) | ((with_reducible show CDiv _ _); exact ⟨by omega, by omega⟩) | ((with_reducible show CMul _ _); first | exact .inl ⟨by omega, by omega⟩ | exact .inr ⟨by omega, by omega⟩) | ((with_reducible show CPow _ _); exact ⟨by omega, by omega, by first | decide | assumption | omega⟩) | ((with_reducible show (0 : Int) < _); omega) | ((with_reducible show (0 : Int) ≤ _); omega) | ((with_reducible show scal _ _ = true); rfl)))) fun H8 e8 => ?_
      have h8 := (e7.trans e8) _ _ h6
      have s8 := ex_l e8 s7
      refine q_setL (j := i) (v := .int (ts.getD j 0 + (j : Int) - (i : Int))) h8 (by (repeat' (first | with_reducible exact ev_c | ((with_reducible show Ev (tVar _) _ _ _); exact ev_var rfl) | with_reducible exact ea_nil | with_reducible exact eo_none | with_reducible refine' ea_cons ?_ ?_ | with_reducible refine' eo_some ?_ | with_reducible refine' ev_and2 ?_ ?_ | with_reducible refine' ev_or2 ?_ ?_ | with_reducible refine' ev_notV ?_ | with_reducible exact ru_I | with_reducible refine' ev_un ?_ ?_ | with_reducible exact rv_I0 | with_reducible exact rv_isN | with_reducible exact rv_notN | with_reducible refine' rv_I ?_ | with_reducible refine' rv_eq ?_ | with_reducible refine' rv_ne ?_ | with_reducible refine' ev_op ?_ ?_ ?_ | with_reducible refine' ev_chain2 ?_ ?_ ?_ ?_ ?_ | with_reducible refine' et_B ?_ | with_reducible refine' et_test ?_ | with_reducible refine' et_and2 ?_ ?_ | with_reducible refine' et_or2 ?_ ?_ | with_reducible refine' et_not ?_ | with_reducible refine' ev_call ?_ ?_ | with_reducible refine' ev_callS ?_ ?_ | with_reducible refine' ev_cb ?_ ?_ | with_reducible exact isi_bool (by assumption) | with_reducible exact isi_int (by assumption) | with_reducible exact isi_list (by assumption) | with_reducible exact rc_len (by assumption) | with_reducible exact rc_sum (by assumption) | with_reducible exact rc_abs | with_reducible exact isi_listL (by assumption) | with_reducible exact isi_intI | with_reducible exact isi_boolI | with_reducible exact rc_lenT (by assumption) | with_reducible exact isi_tup (by assumption) | with_reducible exact rv_eqL (by assumption) (by assumption) | with_reducible exact rv_neL (by assumption) (by assumption) | with_reducible exact rv_neT (by assumption) (by assumption) | with_reducible exact rv_ixL (by assumption) (by assumption) | with_reducible exact rv_ixT (by assumption) (by assumption) | with_reducible refine' ev_din ?_ ?_ (by assumption) | with_reducible refine' ev_dnotin ?_ ?_ (by assumption) | with_reducible refine' ev_dget ?_ ?_ (by assumption) (by assumption) | ((with_reducible show SpV _ _ _ _); assumption) | ((with_reducible show RV _ _ _ _ _); assumption) | ((with_reducible show RC _ _ _ _); assumption) | ((with_reducible show CDiv _ _); exact ⟨by omega, by omega⟩) | ((with_reducible show CMul _ _); first | exact .inl ⟨by omega, by omega⟩ | exact .inr ⟨by omega, by omega⟩) | ((with_reducible show CPow _ _); exact ⟨by omega, by omega, by first | decide | assumption | omega⟩) | ((with_reducible show (0 : Int) < _); omega) | ((with_reducible show (0 : Int) ≤ _); omega) | ((with_reducible show scal _ _ = true); rfl)))) (by (repeat' (first | with_reducible exact ev_c | ((with_reducible show Ev (tVar _) _ _ _); exact ev_var rfl) | with_reducible exact ea_nil | with_reducible exact eo_none | with_reducible refine' ea_cons ?_ ?_ | with_reducible refine' eo_some ?_ | with_reducible refine' ev_and2 ?_ ?_ | with_reducible refine' ev_or2 ?_ ?_ | with_reducible refine' ev_notV ?_ | with_reducible exact ru_I | with_reducible refine' ev_un ?_ ?_ | with_reducible exact rv_I0 | with_reducible exact rv_isN | with_reducible exact rv_notN | with_reducible refine' rv_I ?_ | with_reducible refine' rv_eq ?_ | with_reducible refine' rv_ne ?_ | with_reducible refine' ev_op ?_ ?_ ?_ | with_reducible refine' ev_chain2 ?_ ?_ ?_ ?_ ?_ | with_reducible refine' et_B ?_ | with_reducible refine' et_test ?_ | with_reducible refine' et_and2 ?_ ?_ | with_reducible refine' et_or2 ?_ ?_ | with_reducible refine' et_not ?_ | with_reducible refine' ev_call ?_ ?_ | with_reducible refine' ev_callS ?_ ?_ | with_reducible refine' ev_cb ?_ ?_ | with_reducible exact isi_bool (by assumption) | with_reducible exact isi_int (by assumption) | with_reducible exact isi_list (by assumption) | with_reducible exact rc_len (by assumption) | with_reducible exact rc_sum (by assumption) | with_reducible exact rc_abs | with_reducible exact isi_listL (by assumption) | with_reducible exact isi_intI | with_reducible exact isi_boolI | with_reducible exact rc_lenT (by assumption) | with_reducible exact isi_tup (by assumption) | with_reducible exact rv_eqL (by assumption) (by assumption) | with_reducible exact rv_neL (by assumption) (by assumption) | with_reducible exact rv_neT (by assumption) (by assumption) | with_reducible exact rv_ixL (by assumption) (by assumption) | with_reducible exact rv_ixT (by assumption) (by assumption) | with_reducible refine' ev_din ?_ ?_ (by assumption) | with_reducible refine' ev_dnotin ?_ ?_ (by assumption) | with_reducible refine' ev_dget ?_ ?_ (by assumption) (by assumption) | ((with_reducible show SpV _ _ _ _); assumption) | ((with_reducible show RV _ _ _ _ _); assumption) | ((with_reducible show RC _ _ _ _); assumption) | ((with_reducible show CDiv _ _); exact ⟨by omega, by omega⟩) | ((with_reducible show CMul _ _); first | exact .inl ⟨by omega, by omega⟩ | exact .inr ⟨by omega, by omega⟩) | ((with_reducible show CPow _ _); exact ⟨by omega, by omega, by first | decide | assumption | omega⟩) | ((with_reducible show (0 : Int) < _); omega) | ((with_reducible show (0 : Int) ≤ _); omega) | ((with_reducible show scal _ _ = true); rfl)))) (by (repeat' (first | with_reducible exact ev_c | ((with_reducible show Ev (tVar _) _ _ _); exact ev_var rfl) | with_reducible exact ea_nil | with_reducible exact eo_none | with_reducible refine' ea_cons ?_ ?_ | with_reducible refine' eo_some ?_ | with_reducible refine' ev_and2 ?_ ?_ | with_reducible refine' ev_or2 ?_ ?_ | with_reducible refine' ev_notV ?_ | with_reducible exact ru_I | with_reducible refine' ev_un ?_ ?_ | with_reducible exact rv_I0 | with_reducible exact rv_isN | with_reducible exact rv_notN | with_reducible refine' rv_I ?_ | with_reducible refine' rv_eq ?_ | with_reducible refine' rv_ne ?_ | with_reducible refine' ev_op ?_ ?_ ?_ | with_reducible refine' ev_chain2 ?_ ?_ ?_ ?_ ?_ | with_reducible refine' et_B ?_ | with_reducible refine' et_test ?_ | with_reducible refine' et_and2 ?_ ?_ | with_reducible refine' et_or2 ?_ ?_ | with_reducible refine' et_not ?_ | with_reducible refine' ev_call ?_ ?_ | with_reducible refine' ev_callS ?_ ?_ | with_reducible refine' ev_cb ?_ ?_ | with_reducible exact isi_bool (by assumption) | with_reducible exact isi_int (by assumption) | with_reducible exact isi_list (by assumption) | with_reducible exact rc_len (by assumption) | with_reducible exact rc_sum (by assumption) | with_reducible exact rc_abs | with_reducible exact isi_listL (by assumption) | with_reducible exact isi_intI | with_reducible exact isi_boolI | with_reducible exact rc_lenT (by assumption) | with_reducible exact isi_tup (by assumption) | with_reducible exact rv_eqL (by assumption) (by assumption) | with_reducible exact rv_neL (by assumption) (by assumption) | with_reducible exact rv_neT (by assumption) (by assumption) | with_reducible exact rv_ixL (by assumption) (by assumption) | with_reducible exact rv_ixT (by assumption) (by assumption) | with_reducible refine' ev_din ?_ ?_ (by assumption) | with_reducible refine' ev_dnotin ?_ ?_ (by assumption) | with_reducible refine' ev_dget ?_ ?_ (by assumption) (by assumption) | ((with_reducible show SpV _ _ _ _); assumption) | ((with_reducible show RV _ _ _ _ _); assumption) | ((with_reducible show RC _ _ _ _); assumption) | ((with_reducible show CDiv _ _); exact ⟨by omega, by omega⟩) | ((with_reducible show CMul _ _); first | exact .inl ⟨by omega, by omega⟩ | exact .inr ⟨by omega, by omega⟩) | ((with_reducible show CPow _ _); exact ⟨by omega, by omega, by first | decide | assumption | omega⟩) | ((with_reducible show (0 : Int) < _); omega) | ((with_reducible show (0 : Int) ≤ _); omega) | ((with_reducible show scal _ _ = true); rfl)))) (by rw [List.length_map]; omega) fun H9 e9 => ?_
      refine s_setL (j := j) (xs := (ts.set i (ts.getD j 0 + (j : Int) - (i : Int))).map V.int) (v := .int (ts.getD i 0 + (i : Int) - (j : Int))) (by rw [upd_same, List.map_set]) (by (repeat' (first | with_reducible exact ev_c | ((with_reducible show Ev (tVar _) _ _ _); exact ev_var rfl) | with_reducible exact ea_nil | with_reducible exact eo_none | with_reducible refine' ea_cons ?_ ?_ | with_reducible refine' eo_some ?_ | with_reducible refine' ev_and2 ?_ ?_ | with_reducible refine' ev_or2 ?_ ?_ | with_reducible refine' ev_notV ?_ | with_reducible exact ru_I | with_reducible refine' ev_un ?_ ?_ | with_reducible exact rv_I0 | with_reducible exact rv_isN | with_reducible exact rv_notN | with_reducible refine' rv_I ?_ | with_reducible refine' rv_eq ?_ | with_reducible refine' rv_ne ?_ | with_reducible refine' ev_op ?_ ?_ ?_ | with_reducible refine' ev_chain2 ?_ ?_ ?_ ?_ ?_ | with_reducible refine' et_B ?_ | with_reducible refine' et_test ?_ | with_reducible refine' et_and2 ?_ ?_ | with_reducible refine' et_or2 ?_ ?_ | with_reducible refine' et_not ?_ | with_reducible refine' ev_call ?_ ?_ | with_reducible refine' ev_callS ?_ ?_ | with_reducible refine' ev_cb ?_ ?_ | with_reducible exact isi_bool (by assumption) | with_reducible exact isi_int (by assumption) | with_reducible exact isi_list (by assumption) | with_reducible exact rc_len (by assumption) | with_reducible exact rc_sum (by assumption) | with_reducible exact rc_abs | with_reducible exact isi_listL (by assumption) | with_reducible exact isi_intI | with_reducible exact isi_boolI | with_reducible exact rc_lenT (by assumption) | with_reducible exact isi_tup (by assumption) | with_reducible exact rv_eqL (by assumption) (by assumption) | with_reducible exact rv_neL (by assumption) (by assumption) | with_reducible exact rv_neT (by assumption) (by assumption) | with_reducible exact rv_ixL (by assumption) (by assumption) | with_reducible exact rv_ixT (by assumption) (by assumption) | with_reducible refine' ev_din ?_ ?_ (by assumption) | with_reducible refine' ev_dnotin ?_ ?_ (by assumption) | with_reducible refine' ev_dget ?_ ?_ (by assumption) (by assumption) | ((with_reducible show SpV _ _ _ _); assumption) | ((with_reducible show RV _ _ _ _ _); assumption) | ((with_reducible show RC _ _ _ _); assumption) | ((with_reducible show CDiv _ _); exact ⟨by omega, by omega⟩) | ((with_reducible show CMul _ _); first | exact .inl ⟨by omega, by omega⟩ | exact .inr ⟨by omega, by omega⟩) | ((with_reducible show CPow _ _); exact ⟨by omega, by omega, by first | decide | assumption | omega⟩) | ((with_reducible show (0 : Int) < _); omega) | ((with_reducible show (0 : Int) ≤ _); omega) | ((with_reducible show scal _ _ = true); rfl)))) (by (repeat' (first | with_reducible exact ev_c | ((with_reducible show Ev (tVar _) _ _ _); exact ev_var rfl) | with_reducible exact ea_nil | with_reducible exact eo_none | with_reducible refine' ea_cons ?_ ?_ | with_reducible refine' eo_some ?_ | with_reducible refine' ev_and2 ?_ ?_ | with_reducible refine' ev_or2 ?_ ?_ | with_reducible refine' ev_notV ?_ | with_reducible exact ru_I | with_reducible refine' ev_un ?_ ?_ | with_reducible exact rv_I0 | with_reducible exact rv_isN | with_reducible exact rv_notN | with_reducible refine' rv_I ?_ | with_reducible refine' rv_eq ?_ | with_reducible refine' rv_ne ?_ | with_reducible refine' ev_op ?_ ?_ ?_ | with_reducible refine' ev_chain2 ?_ ?_ ?_ ?_ ?_ | with_reducible refine' et_B ?_ | with_reducible refine' et_test ?_ | with_reducible refine' et_and2 ?_ ?_ | with_reducible refine' et_or2 ?_ ?_ | with_reducible refine' et_not ?_ | with_reducible refine' ev_call ?_ ?_ | with_reducible refine' ev_callS ?_ ?_ | with_reducible refine' ev_cb ?_ ?_ | with_reducible exact isi_bool (by assumption) | with_reducible exact isi_int (by assumption) | with_reducible exact isi_list (by assumption) | with_reducible exact rc_len (by assumption) | with_reducible exact rc_sum (by assumption) | with_reducible exact rc_abs | with_reducible exact isi_listL (by assumption) | with_reducible exact isi_intI | with_reducible exact isi_boolI | with_reducible exact rc_lenT (by assumption) | with_reducible exact isi_tup (by assumption) | with_reducible exact rv_eqL (by assumption) (by assumption) | with_reducible exact rv_neL (by assumption) (by assumption) | with_reducible exact rv_neT (by assumption) (by assumption) | with_reducible exact rv_ixL (by assumption) (by assumption) | with_reducible exact rv_ixT (by assumption) (by assumption) | with_reducible refine' ev_din ?_ ?_ (by assumption) | with_reducible refine' ev_dnotin ?_ ?_ (by assumption) | with_reducible refine' ev_dget ?_ ?_ (by assumption) (by assumption) | ((with_reducible show SpV _ _ _ _); assumption) | ((with_reducible show RV _ _ _ _ _); assumption) | ((with_reducible show RC _ _ _ _); assumption) | ((with_reducible show CDiv _ _); exact ⟨by omega, by omega⟩) | ((with_reducible show CMul _ _); first | exact .inl ⟨by omega, by omega⟩ | exact .inr ⟨by omega, by omega⟩) | ((with_reducible show CPow _ _); exact ⟨by omega, by omega, by first | decide | assumption | omega⟩) | ((with_reducible show (0 : Int) < _); omega) | ((with_reducible show (0 : Int) ≤ _); omega) | ((with_reducible show scal _ _ = true); rfl)))) (by (repeat' (first | with_reducible exact ev_c | ((with_reducible show Ev (tVar _) _ _ _); exact ev_var rfl) | with_reducible exact ea_nil | with_reducible exact eo_none | with_reducible refine' ea_cons ?_ ?_ | with_reducible refine' eo_some ?_ | with_reducible refine' ev_and2 ?_ ?_ | with_reducible refine' ev_or2 ?_ ?_ | with_reducible refine' ev_notV ?_ | with_reducible exact ru_I | with_reducible refine' ev_un ?_ ?_ | with_reducible exact rv_I0 | with_reducible exact rv_isN | with_reducible exact rv_notN | with_reducible refine' rv_I ?_ | with_reducible refine' rv_eq ?_ | with_reducible refine' rv_ne ?_ | with_reducible refine' ev_op ?_ ?_ ?_ | with_reducible refine' ev_chain2 ?_ ?_ ?_ ?_ ?_ | with_reducible refine' et_B ?_ | with_reducible refine' et_test ?_ | with_reducible refine' et_and2 ?_ ?_ | with_reducible refine' et_or2 ?_ ?_ | with_reducible refine' et_not ?_ | with_reducible refine' ev_call ?_ ?_ | with_reducible refine' ev_callS ?_ ?_ | with_reducible refine' ev_cb ?_ ?_ | with_reducible exact isi_bool (by assumption) | with_reducible exact isi_int (by assumption) | with_reducible exact isi_list (by assumption) | with_reducible exact rc_len (by assumption) | with_reducible exact rc_sum (by assumption) | with_reducible exact rc_abs | with_reducible exact isi_listL (by assumption) | with_reducible exact isi_intI | with_reducible exact isi_boolI | with_reducible exact rc_lenT (by assumption) | with_reducible exact isi_tup (by assumption) | with_reducible exact rv_eqL (by assumption) (by assumption) | with_reducible exact rv_neL (by assumption) (by assumption) | with_reducible exact rv_neT (by assumption) (by assumption) | with_reducible exact rv_ixL (by assumption) (by assumption) | with_reducible exact rv_ixT (by assumption) (by assumption) | with_reducible refine' ev_din ?_ ?_ (by assumption) | with_reducible refine' ev_dnotin ?_ ?_ (by assumption) | with_reducible refine' ev_dget ?_ ?_ (by assumption) (by assumption) | ((with_reducible show SpV _ _ _ _); assumption) | ((with_reducible show RV _ _ _ _ _); assumption) | ((with_reducible show RC _ _ _ _); assumption) | ((with_reducible show CDiv _ _); exact ⟨by omega, by omega⟩) | ((with_reducible show CMul _ _); first | exact .inl ⟨by omega, by omega⟩ | exact .inr ⟨by omega, by omega⟩) | ((with_reducible show CPow _ _); exact ⟨by omega, by omega, by first | decide | assumption | omega⟩) | ((with_reducible show (0 : Int) < _); omega) | ((with_reducible show (0 : Int) ≤ _); omega) | ((with_reducible show scal _ _ = true); rfl)))) (by rw [List.length_map, List.length_set]; omega) fun H10 e10 => ?_
      refine ⟨_, _, _, _, _, _, _, rfl, Ex.mut ((Ex.mut ((((e2.trans e26).trans e7).trans e8).trans e9) hl).trans e10) hl, ?_, drw_swap dr hij hjn hb.2⟩
      rw [upd_same, ← List.map_set]
    · rintro σ' H2 ⟨y4, y5, y6, y7, y8, y9, ts, rfl, e2, h2, dr⟩
      exact s_ret (v := .ref l) (by (repeat' (first | with_reducible exact ev_c | ((with_reducible show Ev (tVar _) _ _ _); exact ev_var rfl) | with_reducible exact ea_nil | with_reducible exact eo_none | with_reducible refine' ea_cons ?_ ?_ | with_reducible refine' eo_some ?_ | with_reducible refine' ev_and2 ?_ ?_ | with_reducible refine' ev_or2 ?_ ?_ | with_reducible refine' ev_notV ?_ | with_reducible exact ru_I | with_reducible refine' ev_un ?_ ?_ | with_reducible exact rv_I0 | with_reducible exact rv_isN | with_reducible exact rv_notN | with_reducible refine' rv_I ?_ | with_reducible refine' rv_eq ?_ | with_reducible refine' rv_ne ?_ | with_reducible refine' ev_op ?_ ?_ ?_ | with_reducible refine' ev_chain2 ?_ ?_ ?_ ?_ ?_ | with_reducible refine' et_B ?_ | with_reducible refine' et_test ?_ | with_reducible refine' et_and2 ?_ ?_ | with_reducible refine' et_or2 ?_ ?_ | with_reducible refine' et_not ?_ | with_reducible refine' ev_call ?_ ?_ | with_reducible refine' ev_callS ?_ ?_ | with_reducible refine' ev_cb ?_ ?_ | with_reducible exact isi_bool (by assumption) | with_reducible exact isi_int (by assumption) | with_reducible exact isi_list (by assumption) | with_reducible exact rc_len (by assumption) | with_reducible exact rc_sum (by assumption) | with_reducible exact rc_abs | with_reducible exact isi_listL (by assumption) | with_reducible exact isi_intI | with_reducible exact isi_boolI | with_reducible exact rc_lenT (by assumption) | with_reducible exact isi_tup (by assumption) | with_reducible exact rv_eqL (by assumption) (by assumption) | with_reducible exact rv_neL (by assumption) (by assumption) | with_reducible exact rv_neT (by assumption) (by assumption) | with_reducible exact rv_ixL (by assumption) (by assumption) | with_reducible exact rv_ixT (by assumption) (by assumption) | with_reducible refine' ev_din ?_ ?_ (by assumption) | with_reducible refine' ev_dnotin ?_ ?_ (by assumption) | with_reducible refine' ev_dget ?_ ?_ (by assumption) (by assumption) | ((with_reducible show SpV _ _ _ _); assumption) | ((with_reducible show RV _ _ _ _ _); assumption) | ((with_reducible show RC _ _ _ _); assumption) | ((with_reducible show CDiv _ _); exact ⟨by omega, by omega⟩) | ((with_reducible show CMul _ _); first | exact .inl ⟨by omega, by omega⟩ | exact .inr ⟨by omega, by omega⟩) | ((with_reducible show CPow _ _); exact ⟨by omega, by omega, by first | decide | assumption | omega⟩) | ((with_reducible show (0 : Int) < _); omega) | ((with_reducible show (0 : Int) ≤ _); omega) | ((with_reducible show scal _ _ = true); rfl)))) fun H3 e3 => q ts dr l H3 hl (e2.trans e3) (e3 _ _ h2)

/-! lists of rows as data -/
def dRow (rows : List (List Nat)) : List PyData := rows.map fun r => .list (dInts (r.map fun k : Nat => (k : Int)))
theorem heldR_cons {H : Hp} {r : Addr} {rs : List Addr} {w : List Nat} {ws : List (List Nat)} (h : HeldR H (r :: rs) (w :: ws)) : H r = some (.lst (ntV w)) ∧ HeldR H rs ws := by
  refine ⟨h.2 0 r w rfl rfl, ?_, fun i x y hx hy => h.2 (i + 1) x y hx hy⟩
  have := h.1
  simpa using this
theorem held_dpR {K : PySem.W.Frag} {H : Hp} : ∀ {rs : List Addr} {rows : List (List Nat)}, HeldR H rs rows → DpAll K H (rs.map V.ref) (dRow rows)
  | [], [], _ => .nil
  | [], _ :: _, h => by have := h.1; simp at this
  | _ :: _, [], h => by have := h.1; simp at this
  | r :: rs, w :: ws, h => by
    obtain ⟨h1, h2⟩ := heldR_cons h
    rw [nt_ints] at h1
    exact .cons (.lst (sq_of h1) (dp_ints _)) (held_dpR h2)
theorem dRow_lay : ∀ rows, PyData.canLayAll0 (dRow rows) = true ∧ PyData.depthAll (dRow rows) ≤ 1
  | [] => ⟨rfl, Nat.zero_le _⟩
  | w :: r => by
    obtain ⟨h1, h2⟩ := dRow_lay r
    unfold dRow at h1 h2 ⊢
    rw [List.map_cons]
    constructor
    · simp [PyData.canLayAll0, PyData.canLay0, lay_ints] at h1 ⊢
      exact h1
    · simp [PyData.depthAll, PyData.depth, dep_ints] at h2 ⊢
      omega
theorem dRow_shaped (rows : List (List Nat)) : SeqAt.shaped (.list (dRow rows)) = true := by
  show (PyData.canLayAll0 (dRow rows) && decide (PyData.depthAll (dRow rows) + 1 ≤ 64)) = true
  obtain ⟨h1, h2⟩ := dRow_lay rows
  rw [h1, decide_eq_true (by omega)]
  rfl
theorem dRow_eq : ∀ rows, PyData.eqvAll (dRow rows) (dRow rows) = true
  | [] => rfl
  | w :: r => by
    have h := dRow_eq r
    unfold dRow at h ⊢
    rw [List.map_cons]
    show (PyData.eqv (.list (dInts _)) (.list (dInts _)) && _) = true
    rw [h, eqv_list, decide_eq_true rfl]
    rfl
theorem dRow_any {rows : List (List Nat)} {r : List Nat} (h : r ∈ rows) : ((dRow rows).any fun z => PyData.eqv z (.list (dInts (r.map fun k : Nat => (k : Int))))) = true := by
  rw [List.any_eq_true]
  exact ⟨_, List.mem_map.mpr ⟨r, h, rfl⟩, by rw [eqv_list, decide_eq_true rfl]⟩
theorem HeldR.mono {H H2 : Hp} {rs : List Addr} {rows : List (List Nat)} (h : HeldR H rs rows) (k : ∀ x u, x ∈ rs → H x = some u → H2 x = some u) : HeldR H2 rs rows :=
  ⟨h.1, fun i r w hr hw => k _ _ (List.mem_of_getElem? hr) (h.2 i r w hr hw)⟩
theorem HeldR.snoc {H : Hp} {rs : List Addr} {rows : List (List Nat)} {r : Addr} {w : List Nat} (h : HeldR H rs rows) (h1 : H r = some (.lst (ntV w))) : HeldR H (rs ++ [r]) (rows ++ [w]) := by
  refine ⟨by rw [List.length_append, List.length_append, h.1]; rfl, fun i x y hx hy => ?_⟩
  rcases Nat.lt_or_ge i rs.length with c | c
  · rw [List.getElem?_append_left c] at hx
    rw [List.getElem?_append_left (by rw [← h.1]; exact c)] at hy
    exact h.2 i x y hx hy
  · rw [List.getElem?_append_right c] at hx
    rw [List.getElem?_append_right (by rw [← h.1]; exact c), ← h.1] at hy
    have e : i - rs.length = 0 := by
      have := (List.getElem?_eq_some_iff.mp hx).1
      simp at this
      omega
    rw [e] at hx hy
    injection hx with hx
    injection hy with hy
    rw [← hx, ← hy]
    exact h1
section
variable {K : PySem.W.Frag} {σ : L2.St} {H H' : Hp} {t1 t2 te tl : TE} {ta : TA} {tz : TS} {D : Ends}
/-- a comprehension whose items are told by a relation -/
theorem q_lcRel {a : Addr} {xs : List V} {i j : Nat} {vs : List Nat} (R : Addr → Nat → List V → Hp → Prop) (h : Ev tl σ H (.ref a)) (hx : SqL K H a xs) (hz : xs.length ≤ 40000) (hw : ∀ x, wipe ((wipe σ vs).set j (some x)) vs = wipe σ vs)
    (r0 : ∀ Dl H', Ex H H' → R Dl 0 [] H')
    (step : ∀ i x acc Dl H', xs[i]? = some x → Ex H H' → H Dl = none → H' Dl = some (.lst acc) → R Dl i acc H' → ∀ P : VK, (∀ y H2, Ex H' H2 → R Dl (i + 1) (acc ++ [y]) (upd H2 Dl (.lst (acc ++ [y]))) → P y H2) → te ((wipe σ vs).set j (some x)) H' P)
    (k : ∀ Dl acc H', H Dl = none → Ex H H' → H' Dl = some (.lst acc) → R Dl xs.length acc H' → tz D (σ.set i (some (.ref Dl))) H') : tSeq (tAsg (tLc (iList K tl) (gName j) tYes te vs) (gName i)) tz D σ H :=
  h H (Ex.refl H) _ fun H1 e1 => ⟨a, rfl, ⟨xs, ex_l e1 hx⟩, fun Dl hD =>
    lc_list (xs := xs) (fun i H' => ∃ acc, Ex H1 H' ∧ H' Dl = some (.lst acc) ∧ acc.length ≤ i ∧ R Dl i acc H') ⟨[], Ex.new hD, upd_same, Nat.le_refl _, r0 _ _ (e1.trans (Ex.new hD))⟩
      (fun i H' _ ⟨_, e2, _⟩ => ex_l (e1.trans e2) hx)
      (fun i x H' hi ⟨acc, e2, hl, hn, hr⟩ => ⟨hw x, by
        refine step i x acc Dl H' hi (e1.trans e2) (fresh_back e1 hD) hl hr _ fun y H2 e3 hr2 => ?_
        have hlt := (List.getElem?_eq_some_iff.mp hi).1
        exact ⟨acc, e3 _ _ hl, sz_lt (by omega), acc ++ [y], Ex.mut (e2.trans e3) hD, upd_same, by rw [List.length_append]; simp; omega, hr2⟩⟩)
      (fun H' ⟨acc, e2, hl, _, hr⟩ => k Dl acc H' (fresh_back e1 hD) (e1.trans e2) hl hr)⟩
theorem q_clearE {l : Addr} {xs : List V} (h : Ev te σ H (.ref l)) (hl : H l = some (.lst xs)) (k : ∀ H1, Ex H H1 → tz D σ (upd H1 l (.lst []))) : tSeq (tDrop (tBM0 K "list" rClear te)) tz D σ H :=
  h H (Ex.refl H) _ fun H1 e1 => ⟨.inl ⟨rfl, _, sq_of (e1 _ _ hl)⟩, l, _, rfl, rfl, e1 _ _ hl, k H1 e1⟩
theorem q_callX {sp : Sp} {dvs vs : List V} {E : XK} {i : Nat} (h : EvA ta σ H vs) (k : ∀ H1, Ex H H1 → sp (vs ++ dvs) H1 (fun v H2 => tz D (σ.set i (some v)) H2) E) : tSeq (tAsg (tCall sp dvs E ta) (gName i)) tz D σ H := h H (Ex.refl H) _ fun H1 e1 => k H1 e1
theorem s_retC {sp : Sp} {dvs vs : List V} {E : XK} {r : R2} (h : EvA ta σ H vs) (k : ∀ H1, Ex H H1 → sp (vs ++ dvs) H1 (fun x H2 => t2 σ H2 fun y H3 => r x y H3 D.rt) E) : tRet (tOp r (tCall sp dvs E ta) t2) D σ H := h H (Ex.refl H) _ fun H1 e1 => k H1 e1
theorem et_relNotIn {sp : Sp} {dvs vs : List V} {E : XK} {P : List Int → Prop} {q : Addr} {b : Bool} {r : R2} (h : EvA ta σ H vs) (hs : ∀ H1, Ex H H1 → ∀ (Q : VK) (E : XK), (∀ ts, P ts → RetL (ts.map V.int) H1 Q) → sp (vs ++ dvs) H1 Q E) (h2 : ∀ H1, Ex H H1 → Ev t2 σ H1 (.ref q))
    (hk : ∀ ts p H1, P ts → Ex H H1 → H1 p = some (.lst (ts.map V.int)) → RV r (.ref p) (.ref q) H1 (.bl b)) : EvT (tTest (tOp r (tCall sp dvs E ta) t2)) σ H b := fun H1 e Q k =>
  h H1 e _ fun H2 e2 => hs H2 (e.trans e2) _ E fun ts hp p H3 hn e3 h3 => h2 H3 ((e.trans e2).trans e3) H3 (Ex.refl H3) _ fun H4 e4 => hk ts p H4 hp (((e.trans e2).trans e3).trans e4) (e4 _ _ h3) H4 (Ex.refl H4) _ fun H5 e5 => ⟨b, rfl, k H5 (((e2.trans e3).trans e4).trans e5)⟩
end
theorem pat_call {K : PySem.W.Frag} {H : Hp} {l b : Nat} {Q : VK} {E : XK} (h1 : 1 ≤ l) (h6 : l ≤ 6) (hb : b ≤ 6) (g : ∀ i, i ≤ l → (begunN l b i).length ≤ 1000) (q : RetR (patN l b) H Q) : sp_patterns K [.int (l : Int), .int (b : Int)] H Q E := by
  refine ⟨_, _, rfl, .int _, .int _, fun h => ?_, fun x y e1 e2 _ _ _ => ?_⟩
  · replace h : ((decide ((1 : Int) ≤ (l : Int)) && decide ((l : Int) ≤ 6)) && (decide ((0 : Int) ≤ (b : Int)) && decide ((b : Int) ≤ 6))) = false := h
    rw [decide_eq_true (show (1 : Int) ≤ (l : Int) by omega), decide_eq_true (show (l : Int) ≤ 6 by omega), decide_eq_true (show (0 : Int) ≤ (b : Int) by omega), decide_eq_true (show (b : Int) ≤ 6 by omega)] at h
    cases h
  · injection e1 with e1
    injection e2 with e2
    have e1 : l = x := by omega
    have e2 : b = y := by omega
    subst e1 e2
    exact ⟨g, q⟩
def sp_law (K : PySem.W.Frag) : Sp := fun vs H Q E => ∃ (a : Addr) (ns : List Int), vs = [.ref a] ∧ SqL K H a (ns.map V.int) ∧ ∀ H', Q (.bl true) H'
theorem law_true {K : PySem.W.Frag} (H : Hp) (a : Addr) (ns : List Int) (_ : ns.length ≤ 63) (hS : SqL K H a (ns.map V.int)) : sp_law K [.ref a] H (fun v _ => v = .bl true) (fun _ _ _ => False) := ⟨a, ns, rfl, hS, fun _ => rfl⟩
def lawLevel : Nat := 4
theorem sc_law : FnScope ["_law_script", "_law_length", "_law_balls", "_law_found", "_law_k", "_law_again", "_law_row"] ["_law_script"] (defScope s_law) := ⟨rfl, rfl, rfl, by decide +kernel, rfl, by decide +kernel, by decide +kernel⟩
theorem ok_law {P : Program} {w : World} {K : PySem.W.Frag} {mg : Str → Option Value} (T : TXT K mg) : OKL P w K mg "law" ["_law_script"] 4 (sp_law K) := by
  obtain ⟨fd, F⟩ := T.def_ 12
  refine ⟨_, fd, T.glo 12, F.bindsA (fun _ _ _ _ _ _ us hl => match us, hl with | [_], _ => rfl), fun base => ?_⟩
  have O__law_cell_at := ok__law_cell_at (P := P) (w := w) (base := base) T
  have O_patterns := ok_patterns (P := P) (w := w) (base := base) T
  have O__law_power := ok__law_power (P := P) (w := w) (base := base) T
  have O__law_fits := ok__law_fits (P := P) (w := w) (base := base) T
  have O__law_drawn := ok__law_drawn (P := P) (w := w) (base := base) T
  refine F.ok sc_law (fun vs H Q E h => ?_) (fun cdv A outer s H vs Q E hr h => ?_)
  · first | (obtain ⟨rfl, _⟩ := h; rfl) | (obtain ⟨_, rfl, _⟩ := h; rfl) | (obtain ⟨_, _, rfl, _⟩ := h; rfl) | (obtain ⟨_, _, _, rfl, _⟩ := h; rfl) | (obtain ⟨_, _, _, _, rfl, _⟩ := h; rfl) | (obtain ⟨_, _, _, _, _, rfl, _⟩ := h; rfl) | (obtain ⟨_, _, _, _, _, _, rfl, _⟩ := h; rfl) | (obtain ⟨_, _, _, _, _, _, _, rfl, _⟩ := h; rfl) | (obtain ⟨_, _, _, _, _, _, _, _, rfl, _⟩ := h; rfl)
  · replace F : FunD K "law" "law" (defArgs s_law) (defBody s_law) (defScope s_law) [] [] (He.ga K "law") fd := F
    refine ⟨_, (pss_cons (ps_set (i := 1) sc_law.nd rfl (Or.inl rfl) (pe_op op_add pe_int (pe_op op_mod (pe_own O__law_cell_at (hr.mono (by decide)) (by rfl) (passes_call (takes_of rfl rfl rfl rfl) (fun _ _ _ _ h => h)) (pa_cons (pv 0) (pa_cons pe_int pa_nil))) pe_int)))
      (pss_cons (ps_set (i := 2) sc_law.nd rfl (Or.inl rfl) (pe_op op_mod (pe_op op_fdiv (pe_own O__law_cell_at (hr.mono (by decide)) (by rfl) (passes_call (takes_of rfl rfl rfl rfl) (fun _ _ _ _ h => h)) (pa_cons (pv 0) (pa_cons pe_int pa_nil))) pe_int) pe_int))
      (pss_cons (ps_if (pt_cmpR op_eq (pe_op op_mod (pe_own O__law_cell_at (hr.mono (by decide)) (by rfl) (passes_call (takes_of rfl rfl rfl rfl) (fun _ _ _ _ h => h)) (pa_cons (pv 0) (pa_cons pe_int pa_nil))) pe_int) pe_int (nomark _))
        (pss_cons (ps_set (i := 1) sc_law.nd rfl (Or.inl rfl) (pe_op op_add pe_int (pe_op op_mod (pe_own O__law_cell_at (hr.mono (by decide)) (by rfl) (passes_call (takes_of rfl rfl rfl rfl) (fun _ _ _ _ h => h)) (pa_cons (pv 0) (pa_cons pe_int pa_nil))) pe_int)))
      (pss_one (ps_set (i := 2) sc_law.nd rfl (Or.inl rfl) (pe_op op_mod (pe_op op_fdiv (pe_own O__law_cell_at (hr.mono (by decide)) (by rfl) (passes_call (takes_of rfl rfl rfl rfl) (fun _ _ _ _ h => h)) (pa_cons (pv 0) (pa_cons pe_int pa_nil))) pe_int) pe_int))))
        pss_nil)
      (pss_cons (ps_set (i := 3) sc_law.nd rfl (Or.inl rfl) (pe_own O_patterns (hr.mono (by decide)) (by rfl) (passes_call (takes_of rfl rfl rfl rfl) (fun _ _ _ _ h => h)) (pa_cons (pv 1) (pa_cons (pv 2) pa_nil))))
      (pss_cons (ps_if (PW.pt (pw_or (pt_not (pt_val (pe_callB (id := "isinstance") (k_isi K) (by rfl) (T.free 18) (by decide +kernel) (pa_cons (pv 3) (pa_cons (pe_ty (T := "list") (T.free 20) (by decide +kernel)) pa_nil))))) (pw_or1 (pt_cmpR op_ne (pe_callB (id := "len") (k_len K) (by rfl) (T.free 19) (by decide +kernel) (pa_cons (pv 3) pa_nil)) (pe_op op_sub (pe_own O__law_power (hr.mono (by decide)) (by rfl) (passes_call (takes_of rfl rfl rfl rfl) (fun _ _ _ _ h => h)) (pa_cons (pe_op op_add (pv 2) pe_int) (pa_cons (pv 1) pa_nil))) (pe_own O__law_power (hr.mono (by decide)) (by rfl) (passes_call (takes_of rfl rfl rfl rfl) (fun _ _ _ _ h => h)) (pa_cons (pv 2) (pa_cons (pv 1) pa_nil)))) (nomark _)))))
        (pss_one (ps_ret pe_bl))
        pss_nil)
      (pss_cons (ps_for (passes_of rfl) rfl (pi_range1 (by rfl) (T.free 23) (pa_cons (pe_callB (id := "len") (k_len K) (by rfl) (T.free 19) (by decide +kernel) (pa_cons (pv 3) pa_nil)) pa_nil)) (pg_name (i := 4) sc_law.nd rfl (Or.inl rfl))
        (pss_one (ps_if (PW.pt (pw_or (pt_not (pt_val (pe_own O__law_fits (hr.mono (by decide)) (by rfl) (passes_call (takes_of rfl rfl rfl rfl) (fun _ _ _ _ h => h)) (pa_cons (pe_ix (k_ixL K) (pv 3) (pv 4) (fun _ _ => rfl)) (pa_cons (pv 1) (pa_cons (pv 2) pa_nil)))))) (pw_or1 (PW.pt (pw_and (pt_cmpR op_gt (pv 4) pe_int (nomark _)) (pw_and1 (pt_cmpR (k_geD K (units_of hr)) (pe_ix (k_ixL K) (pv 3) (pe_op op_sub (pv 4) pe_int) (fun _ _ => rfl)) (pe_ix (k_ixL K) (pv 3) (pv 4) (fun _ _ => rfl)) (nomark _))))))))
        (pss_one (ps_ret pe_bl))
        pss_nil)))
      (pss_cons (ps_if (pt_cmpR (k_notInD K (units65 hr)) (pe_own O__law_drawn (hr.mono (by decide)) (by rfl) (passes_call (takes_of rfl rfl rfl rfl) (fun _ _ _ _ h => h)) (pa_cons (pv 1) (pa_cons (pv 2) (pa_cons (pe_own O__law_cell_at (hr.mono (by decide)) (by rfl) (passes_call (takes_of rfl rfl rfl rfl) (fun _ _ _ _ h => h)) (pa_cons (pv 0) (pa_cons pe_int pa_nil))) pa_nil)))) (pv 3) (by rfl))
        (pss_one (ps_ret pe_bl))
        pss_nil)
      (pss_cons (ps_setLc (i := 5) (own := [("_law_row", 6)]) (g := gName 6) (tt := tYes) rfl sc_law.nd rfl rfl (sw_true rfl rfl rfl (by decide +kernel)) (k_piL K (pv 3)) (blkOk_by (N := ["_law_script", "_law_length", "_law_balls", "_law_found", "_law_k", "_law_again", "_law_row"]) (sc := defScope s_law) (by decide +kernel)) (fun _ _ _ _ _ => pg_name (i := 6) sc_law.nd rfl (Or.inl rfl)) (fun _ _ _ _ _ => pts_nil) (fun _ _ _ _ _ => (pe_callTy (T := "list") (k_list K) (by rfl) (T.free 20) (by decide +kernel) (pa_cons (pv 6) pa_nil))))
      (pss_cons (ps_expr (pe_bm0 PySem.F.plainAttrs_list PySem.F.slot_list_clear PySem.F.type_list_clear mt_clear (pv 3)))
      (pss_one (ps_ret (pe_cmpR (k_eqD K (units_of hr)) (pe_own O_patterns (hr.mono (by decide)) (by rfl) (passes_call (takes_of rfl rfl rfl rfl) (fun _ _ _ _ h => h)) (pa_cons (pv 1) (pa_cons (pv 2) pa_nil))) (pv 5) (nomark _))))))))))))), ?_⟩
    obtain ⟨a, cs, rfl, hs, q⟩ := h
    dsimp only [cxOf, L2.start, List.map_cons, List.map_nil, List.length_cons, List.length_nil, Nat.reduceAdd, Nat.reduceSub, List.replicate_succ, List.replicate_zero, List.cons_append, List.nil_append, Nat.zero_add, List.reduceReplicate, List.map]
    have c0 := sv_cell (k := 0) hs
    refine q_asg (v := .int (1 + cs.getD 0 0 % 4)) (by (repeat' (first | with_reducible exact ev_c | ((with_reducible show Ev (tVar _) _ _ _); exact ev_var rfl) | with_reducible exact ea_nil | with_reducible exact eo_none | with_reducible refine' ea_cons ?_ ?_ | with_reducible refine' eo_some ?_ | with_reducible refine' ev_and2 ?_ ?_ | with_reducible refine' ev_or2 ?_ ?_ | with_reducible refine' ev_notV ?_ | with_reducible exact ru_I | with_reducible refine' ev_un ?_ ?_ | with_reducible exact rv_I0 | with_reducible exact rv_isN | with_reducible exact rv_notN | with_reducible refine' rv_I ?_ | with_reducible refine' rv_eq ?_ | with_reducible refine' rv_ne ?_ | with_reducible refine' ev_op ?_ ?_ ?_ | with_reducible refine' ev_chain2 ?_ ?_ ?_ ?_ ?_ | with_reducible refine' et_B ?_ | with_reducible refine' et_test ?_ | with_reducible refine' et_and2 ?_ ?_ | with_reducible refine' et_or2 ?_ ?_ | with_reducible refine' et_not ?_ | with_reducible refine' ev_call ?_ ?_ | with_reducible refine' ev_callS ?_ ?_ | with_reducible refine' ev_cb ?_ ?_ | with_reducible exact isi_bool (by assumption) | with_reducible exact isi_int (by assumption) | with_reducible exact isi_list (by assumption) | with_reducible exact rc_len (by assumption) | with_reducible exact rc_sum (by assumption) | with_reducible exact rc_abs | with_reducible exact isi_listL (by assumption) | with_reducible exact isi_intI | with_reducible exact isi_boolI | with_reducible exact rc_lenT (by assumption) | with_reducible exact isi_tup (by assumption) | with_reducible exact rv_eqL (by assumption) (by assumption) | with_reducible exact rv_neL (by assumption) (by assumption) | with_reducible exact rv_neT (by assumption) (by assumption) | with_reducible exact rv_ixL (by assumption) (by assumption) | with_reducible exact rv_ixT (by assumption) (by assumption) | with_reducible refine' ev_din ?_ ?_ (by assumption) | with_reducible refine' ev_dnotin ?_ ?_ (by assumption) | with_reducible refine' ev_dget ?_ ?_ (by assumption) (by assumption) | ((with_reducible show SpV _ _ _ _); assumption) | ((with_reducible show RV _ _ _ _ _); assumption) | ((with_reducible show RC _ _ _ _); assumption) | ((with_reducible show CDiv _ _); exact ⟨by omega, by omega⟩) | ((with_reducible show CMul _ _); first | exact .inl ⟨by omega, by omega⟩ | exact .inr ⟨by omega, by omega⟩) | ((with_reducible show CPow _ _); exact ⟨by omega, by omega, by first | decide | assumption | omega⟩) | ((with_reducible show (0 : Int) < _); omega) | ((with_reducible show (0 : Int) ≤ _); omega) | ((with_reducible show scal _ _ = true); rfl)))) fun H1 e1 => ?_
    have c0 := sv_cell (k := 0) (ex_l e1 hs)
    refine q_asg (v := .int (cs.getD 0 0 / 4 % 4)) (by (repeat' (first | with_reducible exact ev_c | ((with_reducible show Ev (tVar _) _ _ _); exact ev_var rfl) | with_reducible exact ea_nil | with_reducible exact eo_none | with_reducible refine' ea_cons ?_ ?_ | with_reducible refine' eo_some ?_ | with_reducible refine' ev_and2 ?_ ?_ | with_reducible refine' ev_or2 ?_ ?_ | with_reducible refine' ev_notV ?_ | with_reducible exact ru_I | with_reducible refine' ev_un ?_ ?_ | with_reducible exact rv_I0 | with_reducible exact rv_isN | with_reducible exact rv_notN | with_reducible refine' rv_I ?_ | with_reducible refine' rv_eq ?_ | with_reducible refine' rv_ne ?_ | with_reducible refine' ev_op ?_ ?_ ?_ | with_reducible refine' ev_chain2 ?_ ?_ ?_ ?_ ?_ | with_reducible refine' et_B ?_ | with_reducible refine' et_test ?_ | with_reducible refine' et_and2 ?_ ?_ | with_reducible refine' et_or2 ?_ ?_ | with_reducible refine' et_not ?_ | with_reducible refine' ev_call ?_ ?_ | with_reducible refine' ev_callS ?_ ?_ | with_reducible refine' ev_cb ?_ ?_ | with_reducible exact isi_bool (by assumption) | with_reducible exact isi_int (by assumption) | with_reducible exact isi_list (by assumption) | with_reducible exact rc_len (by assumption) | with_reducible exact rc_sum (by assumption) | with_reducible exact rc_abs | with_reducible exact isi_listL (by assumption) | with_reducible exact isi_intI | with_reducible exact isi_boolI | with_reducible exact rc_lenT (by assumption) | with_reducible exact isi_tup (by assumption) | with_reducible exact rv_eqL (by assumption) (by assumption) | with_reducible exact rv_neL (by assumption) (by assumption) | with_reducible exact rv_neT (by assumption) (by assumption) | with_reducible exact rv_ixL (by assumption) (by assumption) | with_reducible exact rv_ixT (by assumption) (by assumption) | with_reducible refine' ev_din ?_ ?_ (by assumption) | with_reducible refine' ev_dnotin ?_ ?_ (by assumption) | with_reducible refine' ev_dget ?_ ?_ (by assumption) (by assumption) | ((with_reducible show SpV _ _ _ _); assumption) | ((with_reducible show RV _ _ _ _ _); assumption) | ((with_reducible show RC _ _ _ _); assumption) | ((with_reducible show CDiv _ _); exact ⟨by omega, by omega⟩) | ((with_reducible show CMul _ _); first | exact .inl ⟨by omega, by omega⟩ | exact .inr ⟨by omega, by omega⟩) | ((with_reducible show CPow _ _); exact ⟨by omega, by omega, by first | decide | assumption | omega⟩) | ((with_reducible show (0 : Int) < _); omega) | ((with_reducible show (0 : Int) ≤ _); omega) | ((with_reducible show scal _ _ = true); rfl)))) fun H2 e2 => ?_
    have hs2 := ex_l (e1.trans e2) hs
    have c1 := sv_cell (k := 1) hs2
    refine q_key (M := fun σ' H' => ∃ l b : Nat, σ' = [some (V.ref a), some (V.int (l : Int)), some (V.int (b : Int)), none, none, none, none] ∧ Ex H H' ∧ ((1 ≤ l ∧ l ≤ 4 ∧ b ≤ 3) ∨ (1 ≤ l ∧ l ≤ 6 ∧ b ≤ 2))) ?_ ?_
    case refine_2 =>
      intro key
      refine q_when (b := decide (V.int (cs.getD 1 0 % 8) = V.int 1)) (by (repeat' (first | with_reducible exact ev_c | ((with_reducible show Ev (tVar _) _ _ _); exact ev_var rfl) | with_reducible exact ea_nil | with_reducible exact eo_none | with_reducible refine' ea_cons ?_ ?_ | with_reducible refine' eo_some ?_ | with_reducible refine' ev_and2 ?_ ?_ | with_reducible refine' ev_or2 ?_ ?_ | with_reducible refine' ev_notV ?_ | with_reducible exact ru_I | with_reducible refine' ev_un ?_ ?_ | with_reducible exact rv_I0 | with_reducible exact rv_isN | with_reducible exact rv_notN | with_reducible refine' rv_I ?_ | with_reducible refine' rv_eq ?_ | with_reducible refine' rv_ne ?_ | with_reducible refine' ev_op ?_ ?_ ?_ | with_reducible refine' ev_chain2 ?_ ?_ ?_ ?_ ?_ | with_reducible refine' et_B ?_ | with_reducible refine' et_test ?_ | with_reducible refine' et_and2 ?_ ?_ | with_reducible refine' et_or2 ?_ ?_ | with_reducible refine' et_not ?_ | with_reducible refine' ev_call ?_ ?_ | with_reducible refine' ev_callS ?_ ?_ | with_reducible refine' ev_cb ?_ ?_ | with_reducible exact isi_bool (by assumption) | with_reducible exact isi_int (by assumption) | with_reducible exact isi_list (by assumption) | with_reducible exact rc_len (by assumption) | with_reducible exact rc_sum (by assumption) | with_reducible exact rc_abs | with_reducible exact isi_listL (by assumption) | with_reducible exact isi_intI | with_reducible exact isi_boolI | with_reducible exact rc_lenT (by assumption) | with_reducible exact isi_tup (by assumption) | with_reducible exact rv_eqL (by assumption) (by assumption) | with_reducible exact rv_neL (by assumption) (by assumption) | with_reducible exact rv_neT (by assumption) (by assumption) | with_reducible exact rv_ixL (by assumption) (by assumption) | with_reducible exact rv_ixT (by assumption) (by assumption) | with_reducible refine' ev_din ?_ ?_ (by assumption) | with_reducible refine' ev_dnotin ?_ ?_ (by assumption) | with_reducible refine' ev_dget ?_ ?_ (by assumption) (by assumption) | ((with_reducible show SpV _ _ _ _); assumption) | ((with_reducible show RV _ _ _ _ _); assumption) | ((with_reducible show RC _ _ _ _); assumption) | ((with_reducible show CDiv _ _); exact ⟨by omega, by omega⟩) | ((with_reducible show CMul _ _); first | exact .inl ⟨by omega, by omega⟩ | exact .inr ⟨by omega, by omega⟩) | ((with_reducible show CPow _ _); exact ⟨by omega, by omega, by first | decide | assumption | omega⟩) | ((with_reducible show (0 : Int) < _); omega) | ((with_reducible show (0 : Int) ≤ _); omega) | ((with_reducible show scal _ _ = true); rfl)))) (fun _ H3 e3 => ?_) (fun _ H3 e3 => key _ _ ?_)
      · have c03 := sv_cell (k := 0) (ex_l e3 hs2)
        refine q_asg (v := .int (1 + cs.getD 0 0 % 6)) (by (repeat' (first | with_reducible exact ev_c | ((with_reducible show Ev (tVar _) _ _ _); exact ev_var rfl) | with_reducible exact ea_nil | with_reducible exact eo_none | with_reducible refine' ea_cons ?_ ?_ | with_reducible refine' eo_some ?_ | with_reducible refine' ev_and2 ?_ ?_ | with_reducible refine' ev_or2 ?_ ?_ | with_reducible refine' ev_notV ?_ | with_reducible exact ru_I | with_reducible refine' ev_un ?_ ?_ | with_reducible exact rv_I0 | with_reducible exact rv_isN | with_reducible exact rv_notN | with_reducible refine' rv_I ?_ | with_reducible refine' rv_eq ?_ | with_reducible refine' rv_ne ?_ | with_reducible refine' ev_op ?_ ?_ ?_ | with_reducible refine' ev_chain2 ?_ ?_ ?_ ?_ ?_ | with_reducible refine' et_B ?_ | with_reducible refine' et_test ?_ | with_reducible refine' et_and2 ?_ ?_ | with_reducible refine' et_or2 ?_ ?_ | with_reducible refine' et_not ?_ | with_reducible refine' ev_call ?_ ?_ | with_reducible refine' ev_callS ?_ ?_ | with_reducible refine' ev_cb ?_ ?_ | with_reducible exact isi_bool (by assumption) | with_reducible exact isi_int (by assumption) | with_reducible exact isi_list (by assumption) | with_reducible exact rc_len (by assumption) | with_reducible exact rc_sum (by assumption) | with_reducible exact rc_abs | with_reducible exact isi_listL (by assumption) | with_reducible exact isi_intI | with_reducible exact isi_boolI | with_reducible exact rc_lenT (by assumption) | with_reducible exact isi_tup (by assumption) | with_reducible exact rv_eqL (by assumption) (by assumption) | with_reducible exact rv_neL (by assumption) (by assumption) | with_reducible exact rv_neT (by assumption) (by assumption) | with_reducible exact rv_ixL (by assumption) (by assumption) | with_reducible exact rv_ixT (by assumption) (by assumption) | with_reducible refine' ev_din ?_ ?_ (by assumption) | with_reducible refine' ev_dnotin ?_ ?_ (by assumption) | with_reducible refine' ev_dget ?_ ?_ (by assumption) (by assumption) | ((with_reducible show SpV _ _ _ _); assumption) | ((with_reducible show RV _ _ _ _ _); assumption) | ((with_reducible show RC _ _ _ _); assumption) | ((with_reducible show CDiv _ _); exact ⟨by omega, by omega⟩) | ((with_reducible show CMul _ _); first | exact .inl ⟨by omega, by omega⟩ | exact .inr ⟨by omega, by omega⟩) | ((with_reducible show CPow _ _); exact ⟨by omega, by omega, by first | decide | assumption | omega⟩) | ((with_reducible show (0 : Int) < _); omega) | ((with_reducible show (0 : Int) ≤ _); omega) | ((with_reducible show scal _ _ = true); rfl)))) fun H4 e4 => ?_
        have c04 := sv_cell (k := 0) (ex_l (e3.trans e4) hs2)
        refine s_asg (v := .int (cs.getD 0 0 / 6 % 3)) (by (repeat' (first | with_reducible exact ev_c | ((with_reducible show Ev (tVar _) _ _ _); exact ev_var rfl) | with_reducible exact ea_nil | with_reducible exact eo_none | with_reducible refine' ea_cons ?_ ?_ | with_reducible refine' eo_some ?_ | with_reducible refine' ev_and2 ?_ ?_ | with_reducible refine' ev_or2 ?_ ?_ | with_reducible refine' ev_notV ?_ | with_reducible exact ru_I | with_reducible refine' ev_un ?_ ?_ | with_reducible exact rv_I0 | with_reducible exact rv_isN | with_reducible exact rv_notN | with_reducible refine' rv_I ?_ | with_reducible refine' rv_eq ?_ | with_reducible refine' rv_ne ?_ | with_reducible refine' ev_op ?_ ?_ ?_ | with_reducible refine' ev_chain2 ?_ ?_ ?_ ?_ ?_ | with_reducible refine' et_B ?_ | with_reducible refine' et_test ?_ | with_reducible refine' et_and2 ?_ ?_ | with_reducible refine' et_or2 ?_ ?_ | with_reducible refine' et_not ?_ | with_reducible refine' ev_call ?_ ?_ | with_reducible refine' ev_callS ?_ ?_ | with_reducible refine' ev_cb ?_ ?_ | with_reducible exact isi_bool (by assumption) | with_reducible exact isi_int (by assumption) | with_reducible exact isi_list (by assumption) | with_reducible exact rc_len (by assumption) | with_reducible exact rc_sum (by assumption) | with_reducible exact rc_abs | with_reducible exact isi_listL (by assumption) | with_reducible exact isi_intI | with_reducible exact isi_boolI | with_reducible exact rc_lenT (by assumption) | with_reducible exact isi_tup (by assumption) | with_reducible exact rv_eqL (by assumption) (by assumption) | with_reducible exact rv_neL (by assumption) (by assumption) | with_reducible exact rv_neT (by assumption) (by assumption) | with_reducible exact rv_ixL (by assumption) (by assumption) | with_reducible exact rv_ixT (by assumption) (by assumption) | with_reducible refine' ev_din ?_ ?_ (by assumption) | with_reducible refine' ev_dnotin ?_ ?_ (by assumption) | with_reducible refine' ev_dget ?_ ?_ (by assumption) (by assumption) | ((with_reducible show SpV _ _ _ _); assumption) | ((with_reducible show RV _ _ _ _ _); assumption) | ((with_reducible show RC _ _ _ _); assumption) | ((with_reducible show CDiv _ _); exact ⟨by omega, by omega⟩) | ((with_reducible show CMul _ _); first | exact .inl ⟨by omega, by omega⟩ | exact .inr ⟨by omega, by omega⟩) | ((with_reducible show CPow _ _); exact ⟨by omega, by omega, by first | decide | assumption | omega⟩) | ((with_reducible show (0 : Int) < _); omega) | ((with_reducible show (0 : Int) ≤ _); omega) | ((with_reducible show scal _ _ = true); rfl)))) fun H5 e5 => key _ _ ⟨(1 + cs.getD 0 0 % 6).toNat, (cs.getD 0 0 / 6 % 3).toNat, ?_, ((((e1.trans e2).trans e3).trans e4).trans e5), .inr (by omega)⟩
        have w1 : (((1 + cs.getD 0 0 % 6).toNat : Nat) : Int) = 1 + cs.getD 0 0 % 6 := by omega
        have w2 : (((cs.getD 0 0 / 6 % 3).toNat : Nat) : Int) = cs.getD 0 0 / 6 % 3 := by omega
        rw [w1, w2]
        rfl
      · refine ⟨(1 + cs.getD 0 0 % 4).toNat, (cs.getD 0 0 / 4 % 4).toNat, ?_, ((e1.trans e2).trans e3), .inl (by omega)⟩
        have w1 : (((1 + cs.getD 0 0 % 4).toNat : Nat) : Int) = 1 + cs.getD 0 0 % 4 := by omega
        have w2 : (((cs.getD 0 0 / 4 % 4).toNat : Nat) : Int) = cs.getD 0 0 / 4 % 4 := by omega
        rw [w1, w2]
        rfl
    rintro σ' H3 ⟨l, b, rfl, e3, hlb⟩
    have g := good_pair hlb
    have l1 : 1 ≤ l ∧ l ≤ 6 ∧ b ≤ 3 := by omega
    obtain ⟨l1, l6, b3⟩ := l1
    have hs3 := ex_l e3 hs
    refine q_callX (vs := [.int (l : Int), .int (b : Int)]) (by (repeat' (first | with_reducible exact ev_c | ((with_reducible show Ev (tVar _) _ _ _); exact ev_var rfl) | with_reducible exact ea_nil | with_reducible exact eo_none | with_reducible refine' ea_cons ?_ ?_ | with_reducible refine' eo_some ?_ | with_reducible refine' ev_and2 ?_ ?_ | with_reducible refine' ev_or2 ?_ ?_ | with_reducible refine' ev_notV ?_ | with_reducible exact ru_I | with_reducible refine' ev_un ?_ ?_ | with_reducible exact rv_I0 | with_reducible exact rv_isN | with_reducible exact rv_notN | with_reducible refine' rv_I ?_ | with_reducible refine' rv_eq ?_ | with_reducible refine' rv_ne ?_ | with_reducible refine' ev_op ?_ ?_ ?_ | with_reducible refine' ev_chain2 ?_ ?_ ?_ ?_ ?_ | with_reducible refine' et_B ?_ | with_reducible refine' et_test ?_ | with_reducible refine' et_and2 ?_ ?_ | with_reducible refine' et_or2 ?_ ?_ | with_reducible refine' et_not ?_ | with_reducible refine' ev_call ?_ ?_ | with_reducible refine' ev_callS ?_ ?_ | with_reducible refine' ev_cb ?_ ?_ | with_reducible exact isi_bool (by assumption) | with_reducible exact isi_int (by assumption) | with_reducible exact isi_list (by assumption) | with_reducible exact rc_len (by assumption) | with_reducible exact rc_sum (by assumption) | with_reducible exact rc_abs | with_reducible exact isi_listL (by assumption) | with_reducible exact isi_intI | with_reducible exact isi_boolI | with_reducible exact rc_lenT (by assumption) | with_reducible exact isi_tup (by assumption) | with_reducible exact rv_eqL (by assumption) (by assumption) | with_reducible exact rv_neL (by assumption) (by assumption) | with_reducible exact rv_neT (by assumption) (by assumption) | with_reducible exact rv_ixL (by assumption) (by assumption) | with_reducible exact rv_ixT (by assumption) (by assumption) | with_reducible refine' ev_din ?_ ?_ (by assumption) | with_reducible refine' ev_dnotin ?_ ?_ (by assumption) | with_reducible refine' ev_dget ?_ ?_ (by assumption) (by assumption) | ((with_reducible show SpV _ _ _ _); assumption) | ((with_reducible show RV _ _ _ _ _); assumption) | ((with_reducible show RC _ _ _ _); assumption) | ((with_reducible show CDiv _ _); exact ⟨by omega, by omega⟩) | ((with_reducible show CMul _ _); first | exact .inl ⟨by omega, by omega⟩ | exact .inr ⟨by omega, by omega⟩) | ((with_reducible show CPow _ _); exact ⟨by omega, by omega, by first | decide | assumption | omega⟩) | ((with_reducible show (0 : Int) < _); omega) | ((with_reducible show (0 : Int) ≤ _); omega) | ((with_reducible show scal _ _ = true); rfl)))) fun H4 e4 => pat_call l1 l6 (by omega) g.size fun f rs H5 hf e5 h5 hh => ?_
    have hs5 := ex_l (e4.trans e5) hs3
    have rlen := hh.1
    have pl : (patN l b).length ≤ 1000 := by
      unfold patN
      rw [List.length_map]
      exact g.size l (Nat.le_refl _)
    have s5 : SqL K H5 f (rs.map V.ref) := sq_of h5
    have pw : ∀ {H9 : Hp} {x : Int} (k : Nat), x = (k : Int) → k ≤ 4 → SpV sp_power [.int x, .int (l : Int)] H9 (.int ((k ^ l : Nat) : Int)) := fun {H9 x} k e hk => spv_of fun H6 e6 Q E q => ⟨k, l, by rw [e], hk, l6, q⟩
    have p1 := pw (H9 := H5) (x := (b : Int) + 1) (b + 1) (by omega) (by omega)
    have p2 := pw (H9 := H5) (x := (b : Int)) b rfl (by omega)
    refine q_when (b := !true || !decide (V.int ((rs.map V.ref).length : Int) = V.int ((((b + 1) ^ l : Nat) : Int) - ((b ^ l : Nat) : Int)))) (by (repeat' (first | with_reducible exact ev_c | ((with_reducible show Ev (tVar _) _ _ _); exact ev_var rfl) | with_reducible exact ea_nil | with_reducible exact eo_none | with_reducible refine' ea_cons ?_ ?_ | with_reducible refine' eo_some ?_ | with_reducible refine' ev_and2 ?_ ?_ | with_reducible refine' ev_or2 ?_ ?_ | with_reducible refine' ev_notV ?_ | with_reducible exact ru_I | with_reducible refine' ev_un ?_ ?_ | with_reducible exact rv_I0 | with_reducible exact rv_isN | with_reducible exact rv_notN | with_reducible refine' rv_I ?_ | with_reducible refine' rv_eq ?_ | with_reducible refine' rv_ne ?_ | with_reducible refine' ev_op ?_ ?_ ?_ | with_reducible refine' ev_chain2 ?_ ?_ ?_ ?_ ?_ | with_reducible refine' et_B ?_ | with_reducible refine' et_test ?_ | with_reducible refine' et_and2 ?_ ?_ | with_reducible refine' et_or2 ?_ ?_ | with_reducible refine' et_not ?_ | with_reducible refine' ev_call ?_ ?_ | with_reducible refine' ev_callS ?_ ?_ | with_reducible refine' ev_cb ?_ ?_ | with_reducible exact isi_bool (by assumption) | with_reducible exact isi_int (by assumption) | with_reducible exact isi_list (by assumption) | with_reducible exact rc_len (by assumption) | with_reducible exact rc_sum (by assumption) | with_reducible exact rc_abs | with_reducible exact isi_listL (by assumption) | with_reducible exact isi_intI | with_reducible exact isi_boolI | with_reducible exact rc_lenT (by assumption) | with_reducible exact isi_tup (by assumption) | with_reducible exact rv_eqL (by assumption) (by assumption) | with_reducible exact rv_neL (by assumption) (by assumption) | with_reducible exact rv_neT (by assumption) (by assumption) | with_reducible exact rv_ixL (by assumption) (by assumption) | with_reducible exact rv_ixT (by assumption) (by assumption) | with_reducible refine' ev_din ?_ ?_ (by assumption) | with_reducible refine' ev_dnotin ?_ ?_ (by assumption) | with_reducible refine' ev_dget ?_ ?_ (by assumption) (by assumption) | ((with_reducible show SpV _ _ _ _); assumption) | ((with_reducible show RV _ _ _ _ _); assumption) | ((with_reducible show RC _ _ _ _); assumption) | ((with_reducible show CDiv _ _); exact ⟨by omega, by omega⟩) | ((with_reducible show CMul _ _); first | exact .inl ⟨by omega, by omega⟩ | exact .inr ⟨by omega, by omega⟩) | ((with_reducible show CPow _ _); exact ⟨by omega, by omega, by first | decide | assumption | omega⟩) | ((with_reducible show (0 : Int) < _); omega) | ((with_reducible show (0 : Int) ≤ _); omega) | ((with_reducible show scal _ _ = true); rfl)))) (fun h => ?_) (fun _ H6 e6 => ?_)
    · have e : V.int ((rs.map V.ref).length : Int) = V.int ((((b + 1) ^ l : Nat) : Int) - ((b ^ l : Nat) : Int)) := by
        have := g.count
        rw [List.length_map, rlen]
        refine congrArg V.int ?_
        omega
      rw [decide_eq_true e] at h
      simp at h
    have hrow : ∀ k, k < (patN l b).length → ∃ r w, rs[k]? = some r ∧ (patN l b)[k]? = some w ∧ w ∈ patN l b ∧ atI (rs.map V.ref) (k : Int) = some (.ref r) ∧ H5 r = some (.lst (ntV w)) := fun k hk => by
      have h1 : k < rs.length := by omega
      refine ⟨rs[k], (patN l b)[k], List.getElem?_eq_getElem h1, List.getElem?_eq_getElem hk, List.getElem_mem hk, atI_nat ?_, hh.2 k _ _ (List.getElem?_eq_getElem h1) (List.getElem?_eq_getElem hk)⟩
      rw [List.getElem?_map, List.getElem?_eq_getElem h1]
      rfl
    have s6 := ex_l e6 s5
    refine q_forR1 (n := ((rs.map V.ref).length : Int)) (by (repeat' (first | with_reducible exact ev_c | ((with_reducible show Ev (tVar _) _ _ _); exact ev_var rfl) | with_reducible exact ea_nil | with_reducible exact eo_none | with_reducible refine' ea_cons ?_ ?_ | with_reducible refine' eo_some ?_ | with_reducible refine' ev_and2 ?_ ?_ | with_reducible refine' ev_or2 ?_ ?_ | with_reducible refine' ev_notV ?_ | with_reducible exact ru_I | with_reducible refine' ev_un ?_ ?_ | with_reducible exact rv_I0 | with_reducible exact rv_isN | with_reducible exact rv_notN | with_reducible refine' rv_I ?_ | with_reducible refine' rv_eq ?_ | with_reducible refine' rv_ne ?_ | with_reducible refine' ev_op ?_ ?_ ?_ | with_reducible refine' ev_chain2 ?_ ?_ ?_ ?_ ?_ | with_reducible refine' et_B ?_ | with_reducible refine' et_test ?_ | with_reducible refine' et_and2 ?_ ?_ | with_reducible refine' et_or2 ?_ ?_ | with_reducible refine' et_not ?_ | with_reducible refine' ev_call ?_ ?_ | with_reducible refine' ev_callS ?_ ?_ | with_reducible refine' ev_cb ?_ ?_ | with_reducible exact isi_bool (by assumption) | with_reducible exact isi_int (by assumption) | with_reducible exact isi_list (by assumption) | with_reducible exact rc_len (by assumption) | with_reducible exact rc_sum (by assumption) | with_reducible exact rc_abs | with_reducible exact isi_listL (by assumption) | with_reducible exact isi_intI | with_reducible exact isi_boolI | with_reducible exact rc_lenT (by assumption) | with_reducible exact isi_tup (by assumption) | with_reducible exact rv_eqL (by assumption) (by assumption) | with_reducible exact rv_neL (by assumption) (by assumption) | with_reducible exact rv_neT (by assumption) (by assumption) | with_reducible exact rv_ixL (by assumption) (by assumption) | with_reducible exact rv_ixT (by assumption) (by assumption) | with_reducible refine' ev_din ?_ ?_ (by assumption) | with_reducible refine' ev_dnotin ?_ ?_ (by assumption) | with_reducible refine' ev_dget ?_ ?_ (by assumption) (by assumption) | ((with_reducible show SpV _ _ _ _); assumption) | ((with_reducible show RV _ _ _ _ _); assumption) | ((with_reducible show RC _ _ _ _); assumption) | ((with_reducible show CDiv _ _); exact ⟨by omega, by omega⟩) | ((with_reducible show CMul _ _); first | exact .inl ⟨by omega, by omega⟩ | exact .inr ⟨by omega, by omega⟩) | ((with_reducible show CPow _ _); exact ⟨by omega, by omega, by first | decide | assumption | omega⟩) | ((with_reducible show (0 : Int) < _); omega) | ((with_reducible show (0 : Int) ≤ _); omega) | ((with_reducible show scal _ _ = true); rfl)))) (by rw [List.length_map]; omega) (fun k σ' H' => ∃ y4 : Option V, σ' = [some (V.ref a), some (V.int (l : Int)), some (V.int (b : Int)), some (V.ref f), y4, none, none] ∧ Ex H5 H') (fun H7 e7 => ⟨_, rfl, e6.trans e7⟩) ?_ ?_
    · rintro k σ' H7 hk ⟨y4, rfl, e7⟩
      rw [List.length_map] at hk
      obtain ⟨r, w, hr, hw, hm, at1, hrw⟩ := hrow k (by omega)
      have s7 := ex_l e7 s5
      have fit := g.fits w hm
      have sf : SpV (sp_fits K) [.ref r, .int (l : Int), .int (b : Int)] H7 (.bl true) := spv_of fun H8 e8 Q E q => ⟨r, w, l, b, rfl, (e7.trans e8) _ _ hrw, l1, l6, by omega, fit.1, fit.2.1, fit.2.2, q⟩
      refine s_when (b := !true || false) (et_or2 (by (repeat' (first | with_reducible exact ev_c | ((with_reducible show Ev (tVar _) _ _ _); exact ev_var rfl) | with_reducible exact ea_nil | with_reducible exact eo_none | with_reducible refine' ea_cons ?_ ?_ | with_reducible refine' eo_some ?_ | with_reducible refine' ev_and2 ?_ ?_ | with_reducible refine' ev_or2 ?_ ?_ | with_reducible refine' ev_notV ?_ | with_reducible exact ru_I | with_reducible refine' ev_un ?_ ?_ | with_reducible exact rv_I0 | with_reducible exact rv_isN | with_reducible exact rv_notN | with_reducible refine' rv_I ?_ | with_reducible refine' rv_eq ?_ | with_reducible refine' rv_ne ?_ | with_reducible refine' ev_op ?_ ?_ ?_ | with_reducible refine' ev_chain2 ?_ ?_ ?_ ?_ ?_ | with_reducible refine' et_B ?_ | with_reducible refine' et_test ?_ | with_reducible refine' et_and2 ?_ ?_ | with_reducible refine' et_or2 ?_ ?_ | with_reducible refine' et_not ?_ | with_reducible refine' ev_call ?_ ?_ | with_reducible refine' ev_callS ?_ ?_ | with_reducible refine' ev_cb ?_ ?_ | with_reducible exact isi_bool (by assumption) | with_reducible exact isi_int (by assumption) | with_reducible exact isi_list (by assumption) | with_reducible exact rc_len (by assumption) | with_reducible exact rc_sum (by assumption) | with_reducible exact rc_abs | with_reducible exact isi_listL (by assumption) | with_reducible exact isi_intI | with_reducible exact isi_boolI | with_reducible exact rc_lenT (by assumption) | with_reducible exact isi_tup (by assumption) | with_reducible exact rv_eqL (by assumption) (by assumption) | with_reducible exact rv_neL (by assumption) (by assumption) | with_reducible exact rv_neT (by assumption) (by assumption) | with_reducible exact rv_ixL (by assumption) (by assumption) | with_reducible exact rv_ixT (by assumption) (by assumption) | with_reducible refine' ev_din ?_ ?_ (by assumption) | with_reducible refine' ev_dnotin ?_ ?_ (by assumption) | with_reducible refine' ev_dget ?_ ?_ (by assumption) (by assumption) | ((with_reducible show SpV _ _ _ _); assumption) | ((with_reducible show RV _ _ _ _ _); assumption) | ((with_reducible show RC _ _ _ _); assumption) | ((with_reducible show CDiv _ _); exact ⟨by omega, by omega⟩) | ((with_reducible show CMul _ _); first | exact .inl ⟨by omega, by omega⟩ | exact .inr ⟨by omega, by omega⟩) | ((with_reducible show CPow _ _); exact ⟨by omega, by omega, by first | decide | assumption | omega⟩) | ((with_reducible show (0 : Int) < _); omega) | ((with_reducible show (0 : Int) ≤ _); omega) | ((with_reducible show scal _ _ = true); rfl)))) ?_) (fun h => by simp at h) (fun _ H8 e8 => ⟨_, rfl, e7.trans e8⟩)
      by_cases k0 : k = 0
      · subst k0
        refine et_is (et_and (a := decide ((0 : Int) < ((0 : Nat) : Int))) (b := false) (by (repeat' (first | with_reducible exact ev_c | ((with_reducible show Ev (tVar _) _ _ _); exact ev_var rfl) | with_reducible exact ea_nil | with_reducible exact eo_none | with_reducible refine' ea_cons ?_ ?_ | with_reducible refine' eo_some ?_ | with_reducible refine' ev_and2 ?_ ?_ | with_reducible refine' ev_or2 ?_ ?_ | with_reducible refine' ev_notV ?_ | with_reducible exact ru_I | with_reducible refine' ev_un ?_ ?_ | with_reducible exact rv_I0 | with_reducible exact rv_isN | with_reducible exact rv_notN | with_reducible refine' rv_I ?_ | with_reducible refine' rv_eq ?_ | with_reducible refine' rv_ne ?_ | with_reducible refine' ev_op ?_ ?_ ?_ | with_reducible refine' ev_chain2 ?_ ?_ ?_ ?_ ?_ | with_reducible refine' et_B ?_ | with_reducible refine' et_test ?_ | with_reducible refine' et_and2 ?_ ?_ | with_reducible refine' et_or2 ?_ ?_ | with_reducible refine' et_not ?_ | with_reducible refine' ev_call ?_ ?_ | with_reducible refine' ev_callS ?_ ?_ | with_reducible refine' ev_cb ?_ ?_ | with_reducible exact isi_bool (by assumption) | with_reducible exact isi_int (by assumption) | with_reducible exact isi_list (by assumption) | with_reducible exact rc_len (by assumption) | with_reducible exact rc_sum (by assumption) | with_reducible exact rc_abs | with_reducible exact isi_listL (by assumption) | with_reducible exact isi_intI | with_reducible exact isi_boolI | with_reducible exact rc_lenT (by assumption) | with_reducible exact isi_tup (by assumption) | with_reducible exact rv_eqL (by assumption) (by assumption) | with_reducible exact rv_neL (by assumption) (by assumption) | with_reducible exact rv_neT (by assumption) (by assumption) | with_reducible exact rv_ixL (by assumption) (by assumption) | with_reducible exact rv_ixT (by assumption) (by assumption) | with_reducible refine' ev_din ?_ ?_ (by assumption) | with_reducible refine' ev_dnotin ?_ ?_ (by assumption) | with_reducible refine' ev_dget ?_ ?_ (by assumption) (by assumption) | ((with_reducible show SpV _ _ _ _); assumption) | ((with_reducible show RV _ _ _ _ _); assumption) | ((with_reducible show RC _ _ _ _); assumption) | ((with_reducible show CDiv _ _); exact ⟨by omega, by omega⟩) | ((with_reducible show CMul _ _); first | exact .inl ⟨by omega, by omega⟩ | exact .inr ⟨by omega, by omega⟩) | ((with_reducible show CPow _ _); exact ⟨by omega, by omega, by first | decide | assumption | omega⟩) | ((with_reducible show (0 : Int) < _); omega) | ((with_reducible show (0 : Int) ≤ _); omega) | ((with_reducible show scal _ _ = true); rfl)))) (fun h => ?_)) (by simp)
        have := of_decide_eq_true h
        omega
      · obtain ⟨r2, w2, hr2, hw2, _, at2, hrw2⟩ := hrow (k - 1) (by omega)
        have e1 : (k : Int) - 1 = ((k - 1 : Nat) : Int) := by omega
        rw [← e1] at at2
        have lt := lt_of_ltB (asc_at g.asc hw2 (by rw [Nat.sub_add_cancel (by omega)]; exact hw))
        rw [nt_ints] at hrw hrw2
        have sq1 := sq_of (K := K) (e7 _ _ hrw)
        have sq2 := sq_of (K := K) (e7 _ _ hrw2)
        refine et_is (et_and2 (a := decide ((0 : Int) < (k : Int))) (b := !decide (w2.map (fun k : Nat => (k : Int)) < w.map (fun k : Nat => (k : Int)))) (by (repeat' (first | with_reducible exact ev_c | ((with_reducible show Ev (tVar _) _ _ _); exact ev_var rfl) | with_reducible exact ea_nil | with_reducible exact eo_none | with_reducible refine' ea_cons ?_ ?_ | with_reducible refine' eo_some ?_ | with_reducible refine' ev_and2 ?_ ?_ | with_reducible refine' ev_or2 ?_ ?_ | with_reducible refine' ev_notV ?_ | with_reducible exact ru_I | with_reducible refine' ev_un ?_ ?_ | with_reducible exact rv_I0 | with_reducible exact rv_isN | with_reducible exact rv_notN | with_reducible refine' rv_I ?_ | with_reducible refine' rv_eq ?_ | with_reducible refine' rv_ne ?_ | with_reducible refine' ev_op ?_ ?_ ?_ | with_reducible refine' ev_chain2 ?_ ?_ ?_ ?_ ?_ | with_reducible refine' et_B ?_ | with_reducible refine' et_test ?_ | with_reducible refine' et_and2 ?_ ?_ | with_reducible refine' et_or2 ?_ ?_ | with_reducible refine' et_not ?_ | with_reducible refine' ev_call ?_ ?_ | with_reducible refine' ev_callS ?_ ?_ | with_reducible refine' ev_cb ?_ ?_ | with_reducible exact isi_bool (by assumption) | with_reducible exact isi_int (by assumption) | with_reducible exact isi_list (by assumption) | with_reducible exact rc_len (by assumption) | with_reducible exact rc_sum (by assumption) | with_reducible exact rc_abs | with_reducible exact isi_listL (by assumption) | with_reducible exact isi_intI | with_reducible exact isi_boolI | with_reducible exact rc_lenT (by assumption) | with_reducible exact isi_tup (by assumption) | with_reducible exact rv_eqL (by assumption) (by assumption) | with_reducible exact rv_neL (by assumption) (by assumption) | with_reducible exact rv_neT (by assumption) (by assumption) | with_reducible exact rv_ixL (by assumption) (by assumption) | with_reducible exact rv_ixT (by assumption) (by assumption) | with_reducible refine' ev_din ?_ ?_ (by assumption) | with_reducible refine' ev_dnotin ?_ ?_ (by assumption) | with_reducible refine' ev_dget ?_ ?_ (by assumption) (by assumption) | ((with_reducible show SpV _ _ _ _); assumption) | ((with_reducible show RV _ _ _ _ _); assumption) | ((with_reducible show RC _ _ _ _); assumption) | ((with_reducible show CDiv _ _); exact ⟨by omega, by omega⟩) | ((with_reducible show CMul _ _); first | exact .inl ⟨by omega, by omega⟩ | exact .inr ⟨by omega, by omega⟩) | ((with_reducible show CPow _ _); exact ⟨by omega, by omega, by first | decide | assumption | omega⟩) | ((with_reducible show (0 : Int) < _); omega) | ((with_reducible show (0 : Int) ≤ _); omega) | ((with_reducible show scal _ _ = true); rfl)))) (et_test (ev_op (by (repeat' (first | with_reducible exact ev_c | ((with_reducible show Ev (tVar _) _ _ _); exact ev_var rfl) | with_reducible exact ea_nil | with_reducible exact eo_none | with_reducible refine' ea_cons ?_ ?_ | with_reducible refine' eo_some ?_ | with_reducible refine' ev_and2 ?_ ?_ | with_reducible refine' ev_or2 ?_ ?_ | with_reducible refine' ev_notV ?_ | with_reducible exact ru_I | with_reducible refine' ev_un ?_ ?_ | with_reducible exact rv_I0 | with_reducible exact rv_isN | with_reducible exact rv_notN | with_reducible refine' rv_I ?_ | with_reducible refine' rv_eq ?_ | with_reducible refine' rv_ne ?_ | with_reducible refine' ev_op ?_ ?_ ?_ | with_reducible refine' ev_chain2 ?_ ?_ ?_ ?_ ?_ | with_reducible refine' et_B ?_ | with_reducible refine' et_test ?_ | with_reducible refine' et_and2 ?_ ?_ | with_reducible refine' et_or2 ?_ ?_ | with_reducible refine' et_not ?_ | with_reducible refine' ev_call ?_ ?_ | with_reducible refine' ev_callS ?_ ?_ | with_reducible refine' ev_cb ?_ ?_ | with_reducible exact isi_bool (by assumption) | with_reducible exact isi_int (by assumption) | with_reducible exact isi_list (by assumption) | with_reducible exact rc_len (by assumption) | with_reducible exact rc_sum (by assumption) | with_reducible exact rc_abs | with_reducible exact isi_listL (by assumption) | with_reducible exact isi_intI | with_reducible exact isi_boolI | with_reducible exact rc_lenT (by assumption) | with_reducible exact isi_tup (by assumption) | with_reducible exact rv_eqL (by assumption) (by assumption) | with_reducible exact rv_neL (by assumption) (by assumption) | with_reducible exact rv_neT (by assumption) (by assumption) | with_reducible exact rv_ixL (by assumption) (by assumption) | with_reducible exact rv_ixT (by assumption) (by assumption) | with_reducible refine' ev_din ?_ ?_ (by assumption) | with_reducible refine' ev_dnotin ?_ ?_ (by assumption) | with_reducible refine' ev_dget ?_ ?_ (by assumption) (by assumption) | ((with_reducible show SpV _ _ _ _); assumption) | ((with_reducible show RV _ _ _ _ _); assumption) | ((with_reducible show RC _ _ _ _); assumption) | ((with_reducible show CDiv _ _); exact ⟨by omega, by omega⟩) | ((with_reducible show CMul _ _); first | exact .inl ⟨by omega, by omega⟩ | exact .inr ⟨by omega, by omega⟩) | ((with_reducible show CPow _ _); exact ⟨by omega, by omega, by first | decide | assumption | omega⟩) | ((with_reducible show (0 : Int) < _); omega) | ((with_reducible show (0 : Int) ≤ _); omega) | ((with_reducible show scal _ _ = true); rfl)))) (by (repeat' (first | with_reducible exact ev_c | ((with_reducible show Ev (tVar _) _ _ _); exact ev_var rfl) | with_reducible exact ea_nil | with_reducible exact eo_none | with_reducible refine' ea_cons ?_ ?_ | with_reducible refine' eo_some ?_ | with_reducible refine' ev_and2 ?_ ?_ | with_reducible refine' ev_or2 ?_ ?_ | with_reducible refine' ev_notV ?_ | with_reducible exact ru_I | with_reducible refine' ev_un ?_ ?_ | with_reducible exact rv_I0 | with_reducible exact rv_isN | with_reducible exact rv_notN | with_reducible refine' rv_I ?_ | with_reducible refine' rv_eq ?_ | with_reducible refine' rv_ne ?_ | with_reducible refine' ev_op ?_ ?_ ?_ | with_reducible refine' ev_chain2 ?_ ?_ ?_ ?_ ?_ | with_reducible refine' et_B ?_ | with_reducible refine' et_test ?_ | with_reducible refine' et_and2 ?_ ?_ | with_reducible refine' et_or2 ?_ ?_ | with_reducible refine' et_not ?_ | with_reducible refine' ev_call ?_ ?_ | with_reducible refine' ev_callS ?_ ?_ | with_reducible refine' ev_cb ?_ ?_ | with_reducible exact isi_bool (by assumption) | with_reducible exact isi_int (by assumption) | with_reducible exact isi_list (by assumption) | with_reducible exact rc_len (by assumption) | with_reducible exact rc_sum (by assumption) | with_reducible exact rc_abs | with_reducible exact isi_listL (by assumption) | with_reducible exact isi_intI | with_reducible exact isi_boolI | with_reducible exact rc_lenT (by assumption) | with_reducible exact isi_tup (by assumption) | with_reducible exact rv_eqL (by assumption) (by assumption) | with_reducible exact rv_neL (by assumption) (by assumption) | with_reducible exact rv_neT (by assumption) (by assumption) | with_reducible exact rv_ixL (by assumption) (by assumption) | with_reducible exact rv_ixT (by assumption) (by assumption) | with_reducible refine' ev_din ?_ ?_ (by assumption) | with_reducible refine' ev_dnotin ?_ ?_ (by assumption) | with_reducible refine' ev_dget ?_ ?_ (by assumption) (by assumption) | ((with_reducible show SpV _ _ _ _); assumption) | ((with_reducible show RV _ _ _ _ _); assumption) | ((with_reducible show RC _ _ _ _); assumption) | ((with_reducible show CDiv _ _); exact ⟨by omega, by omega⟩) | ((with_reducible show CMul _ _); first | exact .inl ⟨by omega, by omega⟩ | exact .inr ⟨by omega, by omega⟩) | ((with_reducible show CPow _ _); exact ⟨by omega, by omega, by first | decide | assumption | omega⟩) | ((with_reducible show (0 : Int) < _); omega) | ((with_reducible show (0 : Int) ≤ _); omega) | ((with_reducible show scal _ _ = true); rfl)))) (rv_geD sq2 sq1)))) ?_
        rw [decide_eq_true lt]
        simp
    rintro σ' H7 ⟨y4, rfl, e7⟩
    have hs7 := ex_l e7 hs5
    have c2 := sv_cell (k := 2) hs7
    have s7 := ex_l e7 s5
    have dpr : ∀ {H9 : Hp}, Ex H5 H9 → Dp K H9 (.ref f) (.list (dRow (patN l b))) := fun {H9} e => .lst (ex_l e s5) (held_dpR (hh.mono fun _ _ _ z => e _ _ z))
    refine q_when (b := false) (et_relNotIn (P := Drw l b) (vs := [.int (l : Int), .int (b : Int), .int (cs.getD 2 0)]) (q := f) (by (repeat' (first | with_reducible exact ev_c | ((with_reducible show Ev (tVar _) _ _ _); exact ev_var rfl) | with_reducible exact ea_nil | with_reducible exact eo_none | with_reducible refine' ea_cons ?_ ?_ | with_reducible refine' eo_some ?_ | with_reducible refine' ev_and2 ?_ ?_ | with_reducible refine' ev_or2 ?_ ?_ | with_reducible refine' ev_notV ?_ | with_reducible exact ru_I | with_reducible refine' ev_un ?_ ?_ | with_reducible exact rv_I0 | with_reducible exact rv_isN | with_reducible exact rv_notN | with_reducible refine' rv_I ?_ | with_reducible refine' rv_eq ?_ | with_reducible refine' rv_ne ?_ | with_reducible refine' ev_op ?_ ?_ ?_ | with_reducible refine' ev_chain2 ?_ ?_ ?_ ?_ ?_ | with_reducible refine' et_B ?_ | with_reducible refine' et_test ?_ | with_reducible refine' et_and2 ?_ ?_ | with_reducible refine' et_or2 ?_ ?_ | with_reducible refine' et_not ?_ | with_reducible refine' ev_call ?_ ?_ | with_reducible refine' ev_callS ?_ ?_ | with_reducible refine' ev_cb ?_ ?_ | with_reducible exact isi_bool (by assumption) | with_reducible exact isi_int (by assumption) | with_reducible exact isi_list (by assumption) | with_reducible exact rc_len (by assumption) | with_reducible exact rc_sum (by assumption) | with_reducible exact rc_abs | with_reducible exact isi_listL (by assumption) | with_reducible exact isi_intI | with_reducible exact isi_boolI | with_reducible exact rc_lenT (by assumption) | with_reducible exact isi_tup (by assumption) | with_reducible exact rv_eqL (by assumption) (by assumption) | with_reducible exact rv_neL (by assumption) (by assumption) | with_reducible exact rv_neT (by assumption) (by assumption) | with_reducible exact rv_ixL (by assumption) (by assumption) | with_reducible exact rv_ixT (by assumption) (by assumption) | with_reducible refine' ev_din ?_ ?_ (by assumption) | with_reducible refine' ev_dnotin ?_ ?_ (by assumption) | with_reducible refine' ev_dget ?_ ?_ (by assumption) (by assumption) | ((with_reducible show SpV _ _ _ _); assumption) | ((with_reducible show RV _ _ _ _ _); assumption) | ((with_reducible show RC _ _ _ _); assumption) | ((with_reducible show CDiv _ _); exact ⟨by omega, by omega⟩) | ((with_reducible show CMul _ _); first | exact .inl ⟨by omega, by omega⟩ | exact .inr ⟨by omega, by omega⟩) | ((with_reducible show CPow _ _); exact ⟨by omega, by omega, by first | decide | assumption | omega⟩) | ((with_reducible show (0 : Int) < _); omega) | ((with_reducible show (0 : Int) ≤ _); omega) | ((with_reducible show scal _ _ = true); rfl)))) (fun H8 e8 Q E k => ⟨l, b, _, rfl, l1, l6, by omega, k⟩) (fun H8 e8 => ev_var rfl) (fun ts p H8 dr e8 hp => ?_)) (fun h => by cases h) (fun _ H8 e8 => ?_)
    · obtain ⟨r, rfl, hm⟩ := drw_mem dr l1
      refine fun H9 e9 Q q => ⟨.list (dInts (r.map fun k : Nat => (k : Int))), dRow (patN l b), .lst (sq_of (e9 _ _ hp)) (dp_ints _), dpr ((e7.trans e8).trans e9), shaped_list _, dRow_shaped _, ?_⟩
      rw [dRow_any hm]
      exact q H9 (Ex.refl H9)
    have e58 := e7.trans e8
    have h8 := e58 _ _ h5
    refine q_lcRel (K := K) (a := f) (xs := rs.map V.ref) (fun Dl i acc H' => ∃ qs : List Addr, acc = qs.map V.ref ∧ HeldR H' qs ((patN l b).take i) ∧ ∀ x ∈ qs, x ≠ Dl ∧ H8 x = none) (by (repeat' (first | with_reducible exact ev_c | ((with_reducible show Ev (tVar _) _ _ _); exact ev_var rfl) | with_reducible exact ea_nil | with_reducible exact eo_none | with_reducible refine' ea_cons ?_ ?_ | with_reducible refine' eo_some ?_ | with_reducible refine' ev_and2 ?_ ?_ | with_reducible refine' ev_or2 ?_ ?_ | with_reducible refine' ev_notV ?_ | with_reducible exact ru_I | with_reducible refine' ev_un ?_ ?_ | with_reducible exact rv_I0 | with_reducible exact rv_isN | with_reducible exact rv_notN | with_reducible refine' rv_I ?_ | with_reducible refine' rv_eq ?_ | with_reducible refine' rv_ne ?_ | with_reducible refine' ev_op ?_ ?_ ?_ | with_reducible refine' ev_chain2 ?_ ?_ ?_ ?_ ?_ | with_reducible refine' et_B ?_ | with_reducible refine' et_test ?_ | with_reducible refine' et_and2 ?_ ?_ | with_reducible refine' et_or2 ?_ ?_ | with_reducible refine' et_not ?_ | with_reducible refine' ev_call ?_ ?_ | with_reducible refine' ev_callS ?_ ?_ | with_reducible refine' ev_cb ?_ ?_ | with_reducible exact isi_bool (by assumption) | with_reducible exact isi_int (by assumption) | with_reducible exact isi_list (by assumption) | with_reducible exact rc_len (by assumption) | with_reducible exact rc_sum (by assumption) | with_reducible exact rc_abs | with_reducible exact isi_listL (by assumption) | with_reducible exact isi_intI | with_reducible exact isi_boolI | with_reducible exact rc_lenT (by assumption) | with_reducible exact isi_tup (by assumption) | with_reducible exact rv_eqL (by assumption) (by assumption) | with_reducible exact rv_neL (by assumption) (by assumption) | with_reducible exact rv_neT (by assumption) (by assumption) | with_reducible exact rv_ixL (by assumption) (by assumption) | with_reducible exact rv_ixT (by assumption) (by assumption) | with_reducible refine' ev_din ?_ ?_ (by assumption) | with_reducible refine' ev_dnotin ?_ ?_ (by assumption) | with_reducible refine' ev_dget ?_ ?_ (by assumption) (by assumption) | ((with_reducible show SpV _ _ _ _); assumption) | ((with_reducible show RV _ _ _ _ _); assumption) | ((with_reducible show RC _ _ _ _); assumption) | ((with_reducible show CDiv _ _); exact ⟨by omega, by omega⟩) | ((with_reducible show CMul _ _); first | exact .inl ⟨by omega, by omega⟩ | exact .inr ⟨by omega, by omega⟩) | ((with_reducible show CPow _ _); exact ⟨by omega, by omega, by first | decide | assumption | omega⟩) | ((with_reducible show (0 : Int) < _); omega) | ((with_reducible show (0 : Int) ≤ _); omega) | ((with_reducible show scal _ _ = true); rfl)))) (sq_of h8) (by rw [List.length_map]; omega) (fun _ => rfl) (fun Dl H' _ => ⟨[], rfl, ⟨by simp, fun i r w h => by simp at h⟩, fun x h => nomatch h⟩) (fun i x acc Dl H' hi e9 hD hl ⟨qs, hq, hR, hne⟩ P kP => ?_) (fun Dl acc H9 hD e9 hl ⟨qs, hq, hR, hne⟩ => ?_)
    · rw [List.getElem?_map] at hi
      obtain ⟨r, hr, rfl⟩ := Option.map_eq_some_iff.mp hi
      have hil : i < (patN l b).length := by
        have := (List.getElem?_eq_some_iff.mp hr).1
        omega
      obtain ⟨r', w, hr', hw, _, _, hrw⟩ := hrow i hil
      rw [hr] at hr'
      injection hr' with hr'
      subst hr'
      have el : EvL (tCB (rListS K) (tCons (tVar 6) tNil)) ((wipe [some (V.ref a), some (V.int (l : Int)), some (V.int (b : Int)), some (V.ref f), y4, none, none] [6]).set 6 (some (.ref r))) H' (ntV w) := el_cb (ea_cons (ev_var rfl) ea_nil) (rcl_list (sq_of ((e58.trans e9) _ _ hrw)))
      refine el H' (Ex.refl H') _ fun y H2 hy e2 h2 => kP _ _ e2 ⟨qs ++ [y], by rw [hq, List.map_append]; rfl, ?_, fun x hx => ?_⟩
      · have ht : (patN l b).take (i + 1) = (patN l b).take i ++ [w] := by
          rw [List.take_add_one, hw]
          rfl
        have hyD : y ≠ Dl := fun z => by rw [z, hl] at hy; cases hy
        rw [ht]
        refine HeldR.snoc (hR.mono fun x u hx hu => ?_) ?_
        · rw [upd_ne (hne x hx).1]
          exact e2 _ _ hu
        · rw [upd_ne hyD]
          exact h2
      · rcases List.mem_append.mp hx with m | m
        · exact hne x m
        · rw [List.mem_singleton.mp m]
          exact ⟨(fun z => by
            rw [z, hl] at hy
            cases hy), fresh_back e9 hy⟩
    rw [List.length_map, rlen, List.take_length] at hR
    subst hq
    have h9 := e9 _ _ h8
    refine q_clearE (l := f) (by (repeat' (first | with_reducible exact ev_c | ((with_reducible show Ev (tVar _) _ _ _); exact ev_var rfl) | with_reducible exact ea_nil | with_reducible exact eo_none | with_reducible refine' ea_cons ?_ ?_ | with_reducible refine' eo_some ?_ | with_reducible refine' ev_and2 ?_ ?_ | with_reducible refine' ev_or2 ?_ ?_ | with_reducible refine' ev_notV ?_ | with_reducible exact ru_I | with_reducible refine' ev_un ?_ ?_ | with_reducible exact rv_I0 | with_reducible exact rv_isN | with_reducible exact rv_notN | with_reducible refine' rv_I ?_ | with_reducible refine' rv_eq ?_ | with_reducible refine' rv_ne ?_ | with_reducible refine' ev_op ?_ ?_ ?_ | with_reducible refine' ev_chain2 ?_ ?_ ?_ ?_ ?_ | with_reducible refine' et_B ?_ | with_reducible refine' et_test ?_ | with_reducible refine' et_and2 ?_ ?_ | with_reducible refine' et_or2 ?_ ?_ | with_reducible refine' et_not ?_ | with_reducible refine' ev_call ?_ ?_ | with_reducible refine' ev_callS ?_ ?_ | with_reducible refine' ev_cb ?_ ?_ | with_reducible exact isi_bool (by assumption) | with_reducible exact isi_int (by assumption) | with_reducible exact isi_list (by assumption) | with_reducible exact rc_len (by assumption) | with_reducible exact rc_sum (by assumption) | with_reducible exact rc_abs | with_reducible exact isi_listL (by assumption) | with_reducible exact isi_intI | with_reducible exact isi_boolI | with_reducible exact rc_lenT (by assumption) | with_reducible exact isi_tup (by assumption) | with_reducible exact rv_eqL (by assumption) (by assumption) | with_reducible exact rv_neL (by assumption) (by assumption) | with_reducible exact rv_neT (by assumption) (by assumption) | with_reducible exact rv_ixL (by assumption) (by assumption) | with_reducible exact rv_ixT (by assumption) (by assumption) | with_reducible refine' ev_din ?_ ?_ (by assumption) | with_reducible refine' ev_dnotin ?_ ?_ (by assumption) | with_reducible refine' ev_dget ?_ ?_ (by assumption) (by assumption) | ((with_reducible show SpV _ _ _ _); assumption) | ((with_reducible show RV _ _ _ _ _); assumption) | ((with_reducible show RC _ _ _ _); assumption) | ((with_reducible show CDiv _ _); exact ⟨by omega, by omega⟩) | ((with_reducible show CMul _ _); first | exact .inl ⟨by omega, by omega⟩ | exact .inr ⟨by omega, by omega⟩) | ((with_reducible show CPow _ _); exact ⟨by omega, by omega, by first | decide | assumption | omega⟩) | ((with_reducible show (0 : Int) < _); omega) | ((with_reducible show (0 : Int) ≤ _); omega) | ((with_reducible show scal _ _ = true); rfl)))) h9 fun H10 e10 => ?_
    refine s_retC (vs := [.int (l : Int), .int (b : Int)]) (by (repeat' (first | with_reducible exact ev_c | ((with_reducible show Ev (tVar _) _ _ _); exact ev_var rfl) | with_reducible exact ea_nil | with_reducible exact eo_none | with_reducible refine' ea_cons ?_ ?_ | with_reducible refine' eo_some ?_ | with_reducible refine' ev_and2 ?_ ?_ | with_reducible refine' ev_or2 ?_ ?_ | with_reducible refine' ev_notV ?_ | with_reducible exact ru_I | with_reducible refine' ev_un ?_ ?_ | with_reducible exact rv_I0 | with_reducible exact rv_isN | with_reducible exact rv_notN | with_reducible refine' rv_I ?_ | with_reducible refine' rv_eq ?_ | with_reducible refine' rv_ne ?_ | with_reducible refine' ev_op ?_ ?_ ?_ | with_reducible refine' ev_chain2 ?_ ?_ ?_ ?_ ?_ | with_reducible refine' et_B ?_ | with_reducible refine' et_test ?_ | with_reducible refine' et_and2 ?_ ?_ | with_reducible refine' et_or2 ?_ ?_ | with_reducible refine' et_not ?_ | with_reducible refine' ev_call ?_ ?_ | with_reducible refine' ev_callS ?_ ?_ | with_reducible refine' ev_cb ?_ ?_ | with_reducible exact isi_bool (by assumption) | with_reducible exact isi_int (by assumption) | with_reducible exact isi_list (by assumption) | with_reducible exact rc_len (by assumption) | with_reducible exact rc_sum (by assumption) | with_reducible exact rc_abs | with_reducible exact isi_listL (by assumption) | with_reducible exact isi_intI | with_reducible exact isi_boolI | with_reducible exact rc_lenT (by assumption) | with_reducible exact isi_tup (by assumption) | with_reducible exact rv_eqL (by assumption) (by assumption) | with_reducible exact rv_neL (by assumption) (by assumption) | with_reducible exact rv_neT (by assumption) (by assumption) | with_reducible exact rv_ixL (by assumption) (by assumption) | with_reducible exact rv_ixT (by assumption) (by assumption) | with_reducible refine' ev_din ?_ ?_ (by assumption) | with_reducible refine' ev_dnotin ?_ ?_ (by assumption) | with_reducible refine' ev_dget ?_ ?_ (by assumption) (by assumption) | ((with_reducible show SpV _ _ _ _); assumption) | ((with_reducible show RV _ _ _ _ _); assumption) | ((with_reducible show RC _ _ _ _); assumption) | ((with_reducible show CDiv _ _); exact ⟨by omega, by omega⟩) | ((with_reducible show CMul _ _); first | exact .inl ⟨by omega, by omega⟩ | exact .inr ⟨by omega, by omega⟩) | ((with_reducible show CPow _ _); exact ⟨by omega, by omega, by first | decide | assumption | omega⟩) | ((with_reducible show (0 : Int) < _); omega) | ((with_reducible show (0 : Int) ≤ _); omega) | ((with_reducible show scal _ _ = true); rfl)))) fun H11 e11 => pat_call l1 l6 (by omega) g.size fun f2 rs2 H12 hf2 e12 h12 hh2 => ?_
    have hne2 : Dl ≠ f := fun z => by rw [z, h8] at hD; cases hD
    have hDl : H12 Dl = some (.lst (qs.map V.ref)) := (e11.trans e12) _ _ (by
      rw [upd_ne hne2]
      exact e10 _ _ hl)
    have hR12 : HeldR H12 qs (patN l b) := hR.mono fun x u hx hu => (e11.trans e12) _ _ (by
      rw [upd_ne fun z => by
        have := (hne x hx).2
        rw [z, h8] at this
        cases this]
      exact e10 _ _ hu)
    refine ⟨.ref Dl, rfl, .list (dRow (patN l b)), .list (dRow (patN l b)), .lst (sq_of h12) (held_dpR hh2), .lst (sq_of hDl) (held_dpR hR12), dRow_shaped _, dRow_shaped _, ?_⟩
    rw [PyData.eqv, dRow_eq]
    exact q _

end TB

/-! ### the head's run -/
namespace TB
open PySem PySem.Spec PyProof.Rows L2 Evl
abbrev R : PySem.W.OpenRow := PySem.W.OpenLaw.row PySem.Challenge.rw_tossbook_k14_all_patterns
abbrev hk : PySem.W.Hook := hookM 5 fa fn ex
def ob (s : PySem.W.SharedT) : AlM := obsMG 5 fa fn ex (HandSHeadRun.getT s)
theorem ob_eq (s : PySem.W.SharedT) : ob s = hk.obs s.abs := obsMG_eq (HandSHeadRun.getT_eq s)
theorem run (w : World) : HandSHeadRun.RunEq R (PySem.W.view R.prog [18]) hk ob 4000 ((["TossError", "OutOfBounds", "is_whole", "within", "longer", "patterns", "_law_cell_at", "_law_mixed", "_law_size_by", "_law_spots_by", "_law_whole", "_law_fits", "_law_power", "_law_drawn"] : List PySem.Str)) w := by
  intro os
  kernel_rfl
end TB

/-! ### the end -/
namespace TB
open PySem PySem.Spec PyProof.Rows L2 Evl
theorem ref_inj {a b : Addr} (h : (some (.ref a) : Option Value) = some (.ref b)) : a = b := by
  cases h
  rfl
theorem fn_cx0 {P : Program} {w : World} {K : PySem.W.Frag} {mg : Str → Option Value} {base : Heap} {k : Nat} {f : Addr} {fd : FuncData} {ps : List Str} {sp : Sp} (F : FnOk P w K mg base (L2.CX P w) k f fd ps sp) :
    FnOk P w K mg base CX0 k f fd ps (fun vs H Q _ => sp vs H Q (fun _ _ _ => False)) :=
  ⟨fun vs H Q E h => F.len vs H Q _ h, fun A outer s H args us vs Q E hr he hb hv hs => codeAny_mono (F.run A outer s H args us vs Q (fun _ _ _ => False) hr he hb hv hs) fun r s' hq => by
    cases r with
    | error e =>
      obtain ⟨_, _, _, _, _, _, _, _, _, _, _, _, z⟩ := (show L2.CX P w outer H s (fun _ _ _ => False) e s' from hq)
      exact z.elim
    | ok fl => cases fl <;> exact hq⟩
end TB
open PySem PySem.W PySem.Calls PyProof.Rows
theorem PySem.Challenge.cw_tossbook_k14_all_patterns_holds : PySem.Challenge.rw_tossbook_k14_all_patterns.Holds := by
  w_on; o_law
  refine HandSHeadRun.head_any (r := OpenLaw.row PySem.Challenge.rw_tossbook_k14_all_patterns) (q := view (OpenLaw.row PySem.Challenge.rw_tossbook_k14_all_patterns).prog [18]) (H := TB.hk) (ob := TB.ob) (M := 4000) (loose := (["TossError", "OutOfBounds", "is_whole", "within", "longer", "patterns", "_law_cell_at", "_law_mixed", "_law_size_by", "_law_spots_by", "_law_whole", "_law_fits", "_law_power", "_law_drawn"] : List PySem.Str)) (d := HandSHeadRun.topDef (OpenLaw.row PySem.Challenge.rw_tossbook_k14_all_patterns).prog 18) (kwd := []) TB.ob_eq
    (by kernel_rfl) (fun s => by kernel_rfl) TB.run (by kernel_rfl) (by kernel_rfl) (by kernel_rfl) (by rfl) (by first | assumption | decide +kernel) (by decide +kernel) ⟨rfl, rfl, rfl, rfl, rfl, by decide +kernel⟩ ?hw ?hc
  case hw => w_witness2
  case hc =>
    refine L2.walk_ofE (l := PySem.Challenge.rw_tossbook_k14_all_patterns) (n := 63) (k := TB.lawLevel) (x := "_law_script") (CX := L2.CX0) rfl (by decide) (by kernel_rfl) ⟨rfl, by decide, by decide⟩ ?F (fun _ _ _ _ z => z)
    intro w mg fa h Y G hmg0
    obtain ⟨K, KX, c⟩ := Y
    have hmg : mg ("law" : PySem.Str) = some (.ref fa) := by
      have e : (HandSHeadRun.topDef (OpenLaw.row PySem.Challenge.rw_tossbook_k14_all_patterns).prog 18).name = ("law" : PySem.Str) := by kernel_rfl
      rw [← e]
      exact hmg0
    have T : TB.TXT K mg := ⟨⟨h, KX, G⟩, c⟩
    obtain ⟨f0, fd, g, bA, F⟩ := (TB.ok_law (P := (PySem.Challenge.rw_tossbook_k14_all_patterns).prog) (w := w) T).ex
    have ef : f0 = fa := TB.ref_inj (g.symm.trans hmg)
    subst ef
    exact ⟨K, fd, _, KX, fun s v => bA s [v] rfl, fun H a ns hl _ hS => TB.law_true H a ns hl hS, fun base _ _ => TB.fn_cx0 (F base)⟩
#print axioms PySem.Challenge.cw_tossbook_k14_all_patterns_holds


