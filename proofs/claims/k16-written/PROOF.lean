import PyProof.Rows.All
import Wide.All
import OpenK.AllK
import Wide.FinOn
import KE.KStateDown
import HandS.ForMost
import HandS.ForExc
import HandS.ExcInit
import HandS.ExcField
import HandS.ExcIs
import HandS.TryMany
import HandS.IsInst
import HandS.Evl
import HandS.Defaults
import HandS.Flow
import HandS.Style
import HandS.SortInts
import HandS.Head0
import HandS.Head1
import HandS.Head2
import HandS.HeadEnd
import HandS.HeadHook1
import HandS.HeadHook2
import HandS.Zip
import HandS.SortRule
import HandS.Finally
import HandS.More
import HandS.Walk
import HandS.Deep
import HandS.Codes
import HandS.Replace
import HandS.Text
import HandS.Iter
import HandS.ClsMeth
import HandS.SetFor
import KE.DataCmp
import KE.SortData
import PySem.Challenge.RW_tossbook_k16_written
set_option Elab.async false
set_option linter.all false
set_option maxRecDepth 100000
set_option maxHeartbeats 4000000

/-! ### the head's facts, calls by name, what raises -/
namespace TB
open PySem PySem.Spec PyProof.Rows L2 Evl

/-! the hook: the defs, the facts, one Bool more -/
abbrev AlM : Type := He.AlD × Bool
def obsMG (n : Nat) (fa : List He.Fa) (fn : List He.DefD) (ex : PySem.W.Frag → Bool) (g : Addr → Option Obj) : AlM :=
  (He.obsD fa fn (He.frG g (He.asD g n)), ex (He.frG g (He.asD g n)))
def SaysM (fa : List He.Fa) (fn : List He.DefD) (ex : PySem.W.Frag → Bool) (K : PySem.W.Frag) : Prop := He.SaysD fa fn K ∧ ex K = true
def hookM (n : Nat) (fa : List He.Fa) (fn : List He.DefD) (ex : PySem.W.Frag → Bool) : PySem.W.Hook where
  α := AlM
  obs := fun s => obsMG n fa fn ex s.heap.get?
  val := fun _ => (He.valD fn, true)
  says := fun _ h => ∃ K : PySem.W.Frag, K.In h ∧ SaysM fa fn ex K
  of := fun _ _ e => ⟨_, He.frG_in, congrArg (fun z : AlM => z.1) e, congrArg (fun z : AlM => z.2) e⟩
  keeps := fun _ _ _ ⟨K, hK, c⟩ k => ⟨K, PySem.W.Frag.In.keeps hK k, c⟩
theorem obsMG_eq {n : Nat} {fa : List He.Fa} {fn : List He.DefD} {ex : PySem.W.Frag → Bool} {g : Addr → Option Obj} {s : Shared} (h : ∀ a, g a = s.heap.get? a) : obsMG n fa fn ex g = (hookM n fa fn ex).obs s := by
  have e : g = s.heap.get? := funext h
  rw [e] <;> rfl

/-- what the walk asks of the top -/
structure TX (fa : List He.Fa) (fn : List He.DefD) (ex : PySem.W.Frag → Bool) (K : PySem.W.Frag) (mg : Str → Option Value) : Prop where
  kx : ∃ h : Heap, K.In h ∧ h.Ns mainGlobals mg
  c : SaysM fa fn ex K
section
variable {fa : List He.Fa} {fn : List He.DefD} {ex : PySem.W.Frag → Bool} {K : PySem.W.Frag} {mg : Str → Option Value}
theorem TX.fact (T : TX fa fn ex K mg) (i : Nat) {f : He.Fa} (h : fa[i]? = some f := by rfl) : f.ok K = true := T.c.1.fact i h
theorem TX.glo (T : TX fa fn ex K mg) (i : Nat) {x : Str} (h : fa[i]? = some (.glo x) := by rfl) : mg x = some (.ref (He.ga K x)) := by
  obtain ⟨h0, X, G⟩ := T.kx
  exact He.glo_ok X G (T.fact i h)
theorem TX.free (T : TX fa fn ex K mg) (i : Nat) {x : Str} (h : fa[i]? = some (.free x) := by rfl) : mg x = none := by
  obtain ⟨h0, X, G⟩ := T.kx
  exact He.free_ok X G (T.fact i h)
theorem TX.int (T : TX fa fn ex K mg) (i : Nat) {x : Str} {j : Int} (h : fa[i]? = some (.int x j) := by rfl) : ∃ t, mg x = some (.int j t) := by
  obtain ⟨h0, X, G⟩ := T.kx
  exact He.int_ok X G (T.fact i h)
theorem TX.str (T : TX fa fn ex K mg) (i : Nat) {x z : Str} (h : fa[i]? = some (.str x z) := by rfl) : ∃ t, mg x = some (.str z t) := by
  obtain ⟨h0, X, G⟩ := T.kx
  exact He.str_ok X G (T.fact i h)
theorem TX.def_ (T : TX fa fn ex K mg) (i : Nat) {d : He.DefD} (h : fn[i]? = some d := by rfl) : ∃ fd, FunD K d.name d.qual d.params d.body d.scope (d.dvs K) (d.kws K) (He.fAd K d.at_) fd := T.c.1.def_ i h
end

/-- a def of the top keeps its promise, and is called by its name -/
structure OK (P : Program) (w : World) (K : PySem.W.Frag) (mg : Str → Option Value) (base : Heap) (x : Str) (ps : List Str) (k : Nat) (sp : Sp) : Prop where
  ex : ∃ f fd, mg x = some (.ref f) ∧ PySem.W.keepIn K (.ref f) = true ∧ Binds K fd ps [] ∧ FnOk P w K mg base (L2.CX P w) k f fd ps sp ∧ ∀ (s : Shared) (us : List Value), us.length = ps.length → BindsTo s fd ⟨us, []⟩ (ps.zip us)
/-- the law's own def -/
structure OKL (P : Program) (w : World) (K : PySem.W.Frag) (mg : Str → Option Value) (x : Str) (ps : List Str) (k : Nat) (sp : Sp) : Prop where
  ex : ∃ f fd, mg x = some (.ref f) ∧ (∀ (s : Shared) (us : List Value), us.length = ps.length → BindsTo s fd ⟨us, []⟩ (ps.zip us)) ∧ ∀ base : Heap, FnOk P w K mg base (L2.CX P w) k f fd ps sp
section
variable {X : Cx} {k : Nat} {ps : List Str} {sp : Sp} {E : XK} {x : Str} {p pos : Pos} {e : Expr} {es : List Expr} {t : TA} {te : TE}
theorem pe_own (O : OK X.prog X.w X.K X.mg X.base x ps k sp) (hr : Room k X.A) (hg : Gl X x) (hx : Passes (L2.CX X.prog X.w) X E) (ha : PA X (e :: es) t)
    (hdb : (x == ("__debug__" : Str)) = false := by decide) (he : starEach (e :: es) X.env = (false, eval e X.env) :: starEach es X.env := by rfl) (hpl : (backTo pos (starEach es X.env)).any (·.1) = false := by rfl) :
    PE X (.Call (.Name x p) (e :: es) [] pos) (tCall sp [] E t) := by
  obtain ⟨f, fd, g, kp, b, F, _⟩ := O.ex
  exact pe_call F hr hg g kp b .nil hx ha hdb he hpl
theorem pe_own0 (O : OK X.prog X.w X.K X.mg X.base x [] k sp) (hr : Room k X.A) (hg : Gl X x) (hx : Passes (L2.CX X.prog X.w) X E)
    (hdb : (x == ("__debug__" : Str)) = false := by decide) :
    PE X (.Call (.Name x p) [] [] pos) (tCall sp [] E tNil) := by
  obtain ⟨f, fd, g, kp, b, F, _⟩ := O.ex
  exact pe_call0 F hr hg g kp b .nil hx hdb
theorem pe_ownS {E : L2.St → XK} (O : OK X.prog X.w X.K X.mg X.base x ps k sp) (hr : Room k X.A) (hg : Gl X x) (hx : ∀ σ, PassesAt (L2.CX X.prog X.w) X σ (E σ)) (ha : PA X (e :: es) t)
    (hdb : (x == ("__debug__" : Str)) = false := by decide) (he : starEach (e :: es) X.env = (false, eval e X.env) :: starEach es X.env := by rfl) (hpl : (backTo pos (starEach es X.env)).any (·.1) = false := by rfl) :
    PE X (.Call (.Name x p) (e :: es) [] pos) (tCallS sp E t) := by
  obtain ⟨f, fd, g, kp, b, F, _⟩ := O.ex
  exact pe_callS F hr hg g kp b hx ha hdb he hpl
theorem pe_gi {i : Int} (h : ∃ t, X.mg x = some (.int i t)) (hg : Gl X x := by rfl) (hd : (x == ("__debug__" : Str)) = false := by decide) : PE X (.Name x pos) (tC (.int i)) := by
  obtain ⟨t, h⟩ := h
  exact pe_glob hg h ⟨t, rfl⟩ hd
theorem pe_gs {z : Str} (h : ∃ t, X.mg x = some (.str z t)) (hg : Gl X x := by rfl) (hd : (x == ("__debug__" : Str)) = false := by decide) : PE X (.Name x pos) (tC (.str z)) := by
  obtain ⟨t, h⟩ := h
  exact pe_glob hg h ⟨t, rfl⟩ hd
/-- a built-in class as a value -/
theorem pe_ty {T : String} (hm : X.mg x = none) (hv : bootBuiltins x = some (.type T)) (hg : Gl X x := by rfl) (hn : x ≠ "__name__" := by decide) (hd : (x == ("__debug__" : Str)) = false := by decide) : PE X (.Name x pos) (tC (.ty T)) :=
  pe_bltn hg hm hv rfl hn hd
/-- an own class, an own def as a value -/
theorem pe_cls {C : Addr} (hm : X.mg x = some (.ref C)) (hg : Gl X x := by rfl) (hd : (x == ("__debug__" : Str)) = false := by decide) : PE X (.Name x pos) (tC (.ref C)) :=
  pe_glob hg hm rfl hd
end

/-! ### what leaves by an exception -/
def Rz (te : TE) (σ : L2.St) (H : Hp) : Prop := ∀ H1, Ex H H1 → ∀ Q : VK, te σ H1 Q
def RzT (tt : TT) (σ : L2.St) (H : Hp) : Prop := ∀ H1, Ex H H1 → ∀ Q : Bool → Hp → Prop, tt σ H1 Q
def RzA (ta : TA) (σ : L2.St) (H : Hp) : Prop := ∀ H1, Ex H H1 → ∀ Q : List V → Hp → Prop, ta σ H1 Q
section
variable {σ : L2.St} {H H' : Hp} {ta tb te tx : TE} {t u : TT} {x y z v : V} {r : R2} {D : Ends} {tu tw tz : TS} {g : TG}
theorem Rz.mono (e : Ex H H') (h : Rz te σ H) : Rz te σ H' := fun H1 a Q => h H1 (e.trans a) Q
theorem rz_call {sp : Sp} {dvs vs : List V} {E : XK} {ta : TA} (h : EvA ta σ H vs) (hs : ∀ H1, Ex H H1 → ∀ Q : VK, sp (vs ++ dvs) H1 Q E) : Rz (tCall sp dvs E ta) σ H := fun H1 e Q =>
  h H1 e _ fun H2 e2 => hs H2 (e.trans e2) Q
theorem rz_callS {sp : Sp} {vs : List V} {E : L2.St → XK} {ta : TA} (h : EvA ta σ H vs) (hs : ∀ H1, Ex H H1 → ∀ Q : VK, sp vs H1 Q (E σ)) : Rz (tCallS sp E ta) σ H := fun H1 e Q =>
  h H1 e _ fun H2 e2 => hs H2 (e.trans e2) Q
theorem ev_callS {sp : Sp} {vs : List V} {E : L2.St → XK} {ta : TA} (h : EvA ta σ H vs) (hs : SpV sp vs H z) : Ev (tCallS sp E ta) σ H z := fun H1 e Q q =>
  h H1 e _ fun H2 e2 => hs H2 (e.trans e2) Q (fun H3 e3 => q H3 (e2.trans e3)) (E σ)
theorem el_callS {sp : Sp} {vs xs : List V} {E : L2.St → XK} {ta : TA} (h : EvA ta σ H vs) (hs : SpL sp vs H xs) : EvL (tCallS sp E ta) σ H xs := fun H1 e Q q =>
  h H1 e _ fun H2 e2 => hs H2 (e.trans e2) Q (fun p H3 hp e3 h3 => q p H3 (fresh_back e2 hp) (e2.trans e3) h3) (E σ)
theorem rz_op1 (h : Rz ta σ H) : Rz (tOp r ta tb) σ H := fun H1 e Q => h H1 e _
theorem rz_op2 (ha : Ev ta σ H x) (h : Rz tb σ H) : Rz (tOp r ta tb) σ H := fun H1 e Q => ha H1 e _ fun H2 e2 => h H2 (e.trans e2) _
theorem rz_un {r : V → Hp → VK → Prop} (h : Rz ta σ H) : Rz (tUn r ta) σ H := fun H1 e Q => h H1 e _
theorem rz_cons1 {tr : TA} (h : Rz ta σ H) : RzA (tCons ta tr) σ H := fun H1 e Q => h H1 e _
theorem rz_cons2 {tr : TA} (ha : Ev ta σ H x) (h : RzA tr σ H) : RzA (tCons ta tr) σ H := fun H1 e Q => ha H1 e _ fun H2 e2 => h H2 (e.trans e2) _
theorem rz_callA {sp : Sp} {dvs : List V} {E : XK} {ta : TA} (h : RzA ta σ H) : Rz (tCall sp dvs E ta) σ H := fun H1 e Q => h H1 e _
theorem rz_cbA {r : List V → Hp → VK → Prop} {ta : TA} (h : RzA ta σ H) : Rz (tCB r ta) σ H := fun H1 e Q => h H1 e _
theorem x_asg (h : Rz te σ H) : tAsg te g D σ H := h H (Ex.refl H) _
theorem x_drop (h : Rz te σ H) : tDrop te D σ H := h H (Ex.refl H) _
theorem x_ret (h : Rz te σ H) : tRet te D σ H := h H (Ex.refl H) _
theorem x_seq (h : ∀ D, tu D σ H) : tSeq tu tz D σ H := h _
theorem xq_asg (h : Rz te σ H) : tSeq (tAsg te g) tz D σ H := h H (Ex.refl H) _
theorem xq_drop (h : Rz te σ H) : tSeq (tDrop te) tz D σ H := h H (Ex.refl H) _
end
end TB

/-! ### exceptions by facts, kinds of values, steps -/
namespace TB
open PySem PySem.Spec PyProof.Rows L2 Evl
theorem units_of {A : Around} {k : Nat} (hr : Room k A) : A.units + 64 < cLine := by
  have h := hr.un
  omega
section
variable {X : Cx} {k : Nat} {x m : Str} {p p2 pos : Pos} {j : Nat}
/-- X('m'), an own class without __init__ -/
theorem pmk_ex (f : (He.Fa.exc x).ok X.K = true) (g : X.mg x = some (.ref (He.ga X.K x))) (hg : Gl X x := by rfl) (hdb : (x == ("__debug__" : Str)) = false := by decide) :
    PMk X (.Call (.Name x p) [.Constant (.str m) j p2] [] pos) (fun _ H Q => Q (.ref (He.ga X.K x)) none H) := by
  obtain ⟨e1, e2, e3, e4⟩ := He.exc_ok f
  exact pmk_own PySem.F.excBase_ValueError e1 g e2 (raises_own e3 e4) hg hdb
/-- what the head tells of an own exception class with an __init__ -/
def oexB (K : PySem.W.Frag) (C : Addr) : Bool := match K.lookup C with
  | some ⟨.type "type", _, .cls cd, sl⟩ => (match cd.mro, sl.toList with
    | .ref C' :: bm, [_, _, _, _, some (.builtin n), _] => C' == C && n == "ValueError.__new__" && !cd.hasDel && cd.hasDict && PySem.HandSPX.refsVE bm
    | _, _ => false)
  | _ => false
theorem oexB_ok {K : PySem.W.Frag} {C : Addr} (q : oexB K C = true) : ∃ nm q N bs bm sn sub ab col dd k0 k1 k2 k3 k5, K.lookup C = some (excClassObj nm q C N bs bm true sn sub ab col dd k0 k1 k2 k3 k5 "ValueError.__new__") ∧ PySem.HandSPX.refsVE bm = true := by
  unfold oexB at q
  split at q
  · rename_i dd cd sl ho
    split at q
    · rename_i C' bm k0 k1 k2 k3 n k5 hm hs
      simp only [Bool.and_eq_true, beq_iff_eq, Bool.not_eq_true'] at q
      obtain ⟨⟨⟨⟨rfl, rfl⟩, hdel⟩, hd⟩, ht⟩ := q
      obtain ⟨nm, bs, mro, ns, qn, hdi, sn, sub, ab, col, del⟩ := cd
      dsimp only at hm hdel hd
      subst hm hdel hd
      have hsl : sl = #[k0, k1, k2, k3, some (.builtin "ValueError.__new__"), k5] := by
        obtain ⟨l⟩ := sl
        simp only at hs
        rw [hs]
      subst hsl
      exact ⟨nm, qn, ns, bs, bm, sn, sub, ab, col, dd, k0, k1, k2, k3, k5, ho, ht⟩
    · cases q
  · cases q
def clashB (K : PySem.W.Frag) (C : Addr) : Bool := oexB K C && (xfB K C && (decide (PySem.W.findIn K (.ref C) "__setattr__" = some (some (.builtin "object.__setattr__"))) && (decide (PySem.W.typeIn K (.ref C) = some (.type "type")) && (PySem.W.keepIn K (.ref C) &&
  (decide (PySem.W.findIn K (.ref C) "__init__" = some (some (.ref (He.ma K C "__init__")))) && (decide (PySem.W.typeIn K (.ref (He.ma K C "__init__")) = some (.type "function")) && decide (PySem.W.findIn K (.ref C) "beats" = some none)))))))
structure ClashC (K : PySem.W.Frag) (C : Addr) : Prop where
  o : OexC K C
  x : XfC K C
  i : PySem.W.findIn K (.ref C) "__init__" = some (some (.ref (He.ma K C "__init__")))
  t : PySem.W.typeIn K (.ref (He.ma K C "__init__")) = some (.type "function")
  n : PySem.W.findIn K (.ref C) "beats" = some none
theorem clashB_ok {K : PySem.W.Frag} {C : Addr} (h : clashB K C = true) : ClashC K C := by
  obtain ⟨h1, h⟩ := Bool.and_eq_true_iff.mp h
  obtain ⟨h2, h⟩ := Bool.and_eq_true_iff.mp h
  obtain ⟨h3, h⟩ := Bool.and_eq_true_iff.mp h
  obtain ⟨h4, h⟩ := Bool.and_eq_true_iff.mp h
  obtain ⟨h5, h⟩ := Bool.and_eq_true_iff.mp h
  obtain ⟨h6, h⟩ := Bool.and_eq_true_iff.mp h
  obtain ⟨h7, h8⟩ := Bool.and_eq_true_iff.mp h
  have xf := xfB_ok h2
  exact ⟨⟨oexB_ok h1, of_decide_eq_true h3, xf.exC, of_decide_eq_true h4, h5⟩, xf, of_decide_eq_true h6, of_decide_eq_true h7, of_decide_eq_true h8⟩
/-- Clash(beats), by its own __init__ -/
structure OKE (P : Program) (w : World) (K : PySem.W.Frag) (mg : Str → Option Value) (base : Heap) (x : Str) (ps : List Str) (k : Nat) (sp : Sp) : Prop where
  ex : ∃ fd, ClashC K (He.ga K x) ∧ mg x = some (.ref (He.ga K x)) ∧ Binds K fd ps [] ∧ FnOk P w K mg base (L2.CX P w) k (He.ma K (He.ga K x) "__init__") fd ps sp
theorem passF {X : Cx} : Passes (L2.CX X.prog X.w) X (fun _ _ _ => False) := passL
theorem pmk_oexT {ps : List Str} {sp : Sp} {e : Expr} {es : List Expr} {ta : TA} (O : OKE X.prog X.w X.K X.mg X.base x ps k sp) (hr : Room (k + 1) X.A) (ha : PA X (e :: es) ta) (hg : Gl X x := by rfl) (hdb : (x == ("__debug__" : Str)) = false := by decide)
    (he : starEach (e :: es) X.env = (false, eval e X.env) :: starEach es X.env := by rfl) (hpl : (backTo pos (starEach es X.env)).any (·.1) = false := by rfl) :
    PMk X (.Call (.Name x p) (e :: es) [] pos) (tMkO (He.ga X.K x) sp [] ta) := by
  obtain ⟨fd, c, g, b, F⟩ := O.ex
  exact pmk_oex c.o c.i c.t F hr b .nil passF hg g ha hdb he hpl
end
/-! the kinds of values that the text knows -/
inductive Kd (H : Hp) : V → Prop where
  | non : Kd H .non
  | bl (b : Bool) : Kd H (.bl b)
  | int (i : Int) : Kd H (.int i)
  | str (z : Str) : Kd H (.str z)
  | lst {a : Addr} {xs : List V} (h : H a = some (.lst xs)) : Kd H (.ref a)
  | tup {a : Addr} {xs : List V} (h : H a = some (.tup xs)) : Kd H (.ref a)
theorem Kd.mono {H H' : Hp} {v : V} (e : Ex H H') (h : Kd H v) : Kd H' v := by
  cases h with
  | non => exact .non
  | bl b => exact .bl b
  | int i => exact .int i
  | str z => exact .str z
  | lst h => exact .lst (e _ _ h)
  | tup h => exact .tup (e _ _ h)
def isI : V → Bool
  | .int _ => true
  | _ => false
def isB : V → Bool
  | .bl _ => true
  | _ => false
theorem isi_int {K : PySem.W.Frag} {H : Hp} {v : V} (h : Kd H v) : RC (rIsi K) [v, .ty "int"] H (.bl (isI v || isB v)) := fun H1 e Q q => by
  have h1 := h.mono e
  cases h1 with
  | non => exact ⟨_, _, _, _, false, rfl, .ty _, .base .non, kit_ty (by decide +kernel), q H1 (Ex.refl H1)⟩
  | bl b => exact ⟨_, _, _, _, true, rfl, .ty _, .base (.bl b), kit_ty (by decide +kernel), q H1 (Ex.refl H1)⟩
  | int i => exact ⟨_, _, _, _, true, rfl, .ty _, .base (.int i), kit_ty (by decide +kernel), q H1 (Ex.refl H1)⟩
  | str z => exact ⟨_, _, _, _, false, rfl, .ty _, .base (.str z), kit_ty (by decide +kernel), q H1 (Ex.refl H1)⟩
  | lst z1 => exact ⟨_, _, _, _, false, rfl, .ty _, .base (.lst z1), kit_ty (by decide +kernel), q H1 (Ex.refl H1)⟩
  | tup z1 => exact ⟨_, _, _, _, false, rfl, .ty _, .base (.tup z1), kit_ty (by decide +kernel), q H1 (Ex.refl H1)⟩
theorem isi_bool {K : PySem.W.Frag} {H : Hp} {v : V} (h : Kd H v) : RC (rIsi K) [v, .ty "bool"] H (.bl (isB v)) := fun H1 e Q q => by
  have h1 := h.mono e
  cases h1 with
  | non => exact ⟨_, _, _, _, false, rfl, .ty _, .base .non, kit_ty (by decide +kernel), q H1 (Ex.refl H1)⟩
  | bl b => exact ⟨_, _, _, _, true, rfl, .ty _, .base (.bl b), kit_ty (by decide +kernel), q H1 (Ex.refl H1)⟩
  | int i => exact ⟨_, _, _, _, false, rfl, .ty _, .base (.int i), kit_ty (by decide +kernel), q H1 (Ex.refl H1)⟩
  | str z => exact ⟨_, _, _, _, false, rfl, .ty _, .base (.str z), kit_ty (by decide +kernel), q H1 (Ex.refl H1)⟩
  | lst z1 => exact ⟨_, _, _, _, false, rfl, .ty _, .base (.lst z1), kit_ty (by decide +kernel), q H1 (Ex.refl H1)⟩
  | tup z1 => exact ⟨_, _, _, _, false, rfl, .ty _, .base (.tup z1), kit_ty (by decide +kernel), q H1 (Ex.refl H1)⟩
/-- what is at v, if it is a list: its items -/
inductive Ls (H : Hp) : V → Option (List V) → Prop where
  | lst {a : Addr} {xs : List V} (h : H a = some (.lst xs)) : Ls H (.ref a) (some xs)
  | tup {a : Addr} {xs : List V} (h : H a = some (.tup xs)) : Ls H (.ref a) none
  | non : Ls H .non none
  | bl (b : Bool) : Ls H (.bl b) none
  | int (i : Int) : Ls H (.int i) none
  | str (z : Str) : Ls H (.str z) none
theorem Ls.mono {H H' : Hp} {v : V} {o : Option (List V)} (e : Ex H H') (h : Ls H v o) : Ls H' v o := by
  cases h with
  | lst h => exact .lst (e _ _ h)
  | tup h => exact .tup (e _ _ h)
  | non => exact .non
  | bl b => exact .bl b
  | int i => exact .int i
  | str z => exact .str z
theorem isi_list {K : PySem.W.Frag} {H : Hp} {v : V} {o : Option (List V)} (h : Ls H v o) : RC (rIsi K) [v, .ty "list"] H (.bl o.isSome) := fun H1 e Q q => by
  have h1 := h.mono e
  cases h1 with
  | lst z1 => exact ⟨_, _, _, _, true, rfl, .ty _, .base (.lst z1), kit_ty (by decide +kernel), q H1 (Ex.refl H1)⟩
  | tup z1 => exact ⟨_, _, _, _, false, rfl, .ty _, .base (.tup z1), kit_ty (by decide +kernel), q H1 (Ex.refl H1)⟩
  | non => exact ⟨_, _, _, _, false, rfl, .ty _, .base .non, kit_ty (by decide +kernel), q H1 (Ex.refl H1)⟩
  | bl b => exact ⟨_, _, _, _, false, rfl, .ty _, .base (.bl b), kit_ty (by decide +kernel), q H1 (Ex.refl H1)⟩
  | int i => exact ⟨_, _, _, _, false, rfl, .ty _, .base (.int i), kit_ty (by decide +kernel), q H1 (Ex.refl H1)⟩
  | str z => exact ⟨_, _, _, _, false, rfl, .ty _, .base (.str z), kit_ty (by decide +kernel), q H1 (Ex.refl H1)⟩
/-! the rules that name the written part, K said -/
section
variable {X : Cx}
theorem k_isi (K : PySem.W.Frag) (h : X.K = K := by rfl) : CallR X (.builtin "isinstance") (rIsi K) := by
  subst h
  exact call_isi
theorem k_isiT (K : PySem.W.Frag) (h : X.K = K := by rfl) : CallR X (.builtin "isinstance") (rIsiT K) := by
  subst h
  exact call_isiT
theorem k_len (K : PySem.W.Frag) (h : X.K = K := by rfl) : CallR X (.builtin "len") (rLenS K) := by
  subst h
  exact call_len_seq
theorem k_sum (K : PySem.W.Frag) (hc : X.calm = true) (h : X.K = K := by rfl) : CallR X (.builtin "sum") (rSum K) := by
  subst h
  exact cr_sum hc
theorem k_all (K : PySem.W.Frag) (hc : X.calm = true) (h : X.K = K := by rfl) : CallR X (.builtin "all") (rAll K) := by
  subst h
  exact cr_all hc
theorem k_any (K : PySem.W.Frag) (hc : X.calm = true) (h : X.K = K := by rfl) : CallR X (.builtin "any") (rAny K) := by
  subst h
  exact cr_any hc
theorem k_max (K : PySem.W.Frag) (hc : X.calm = true) (h : X.K = K := by rfl) : CallR X (.builtin "max") (rMax K) := by
  subst h
  exact cr_max hc
theorem k_min (K : PySem.W.Frag) (hc : X.calm = true) (h : X.K = K := by rfl) : CallR X (.builtin "min") (rMin K) := by
  subst h
  exact cr_min hc
theorem k_sorted (K : PySem.W.Frag) (h : X.K = K := by rfl) : CallR X (.builtin "sorted") (rSortedI K) := by
  subst h
  exact cr_sortedI
theorem k_list (K : PySem.W.Frag) (h : X.K = K := by rfl) : CallR X (.type "list") (rListS K) := by
  subst h
  exact call_list_of
theorem k_ixL (K : PySem.W.Frag) (h : X.K = K := by rfl) : IxR X (rIxL K) := by
  subst h
  exact ix_list
theorem k_ixT (K : PySem.W.Frag) (h : X.K = K := by rfl) : IxR X (rIxT K) := by
  subst h
  exact ix_tup
theorem k_in (K : PySem.W.Frag) (h : X.K = K := by rfl) : OpR X (compareOp .In) (rIn K false) := by
  subst h
  exact op_in_seq
theorem k_notIn (K : PySem.W.Frag) (h : X.K = K := by rfl) : OpR X (compareOp .NotIn) (rIn K true) := by
  subst h
  exact op_notIn_seq
theorem k_eqD (K : PySem.W.Frag) (hu : X.A.units + 64 < cLine) (h : X.K = K := by rfl) : OpR X (compareOp .Eq) (rEqD K) := by
  subst h
  exact op_eqD hu
theorem k_neD (K : PySem.W.Frag) (hu : X.A.units + 64 < cLine) (h : X.K = K := by rfl) : OpR X (compareOp .NotEq) (rNeD K) := by
  subst h
  exact op_neD hu
theorem k_slL (K : PySem.W.Frag) (h : X.K = K := by rfl) : SlR X (rSlL K) := by
  subst h
  exact sl_list
theorem k_piL (K : PySem.W.Frag) {tg l : Expr} {tl : TE} (hl : PE X l tl) (h : X.K = K := by rfl) : PI X tg l (iList K tl) := by
  subst h
  exact pi_list hl
theorem k_piT (K : PySem.W.Frag) {tg l : Expr} {tl : TE} (hl : PE X l tl) (h : X.K = K := by rfl) : PI X tg l (iTup K tl) := by
  subst h
  exact pi_tup hl
end
end TB

/-! ### what evaluates to what: further -/
namespace TB
open PySem PySem.Spec PyProof.Rows L2 Evl
def dInts (ns : List Int) : List PyData := ns.map PyData.int
theorem lay_ints : ∀ ns : List Int, PyData.canLayAll0 (dInts ns) = true
  | [] => rfl
  | n :: r => by
    show (PyData.canLay0 (.int n) && PyData.canLayAll0 (dInts r)) = true
    rw [lay_ints r]
    rfl
theorem dep_ints : ∀ ns : List Int, PyData.depthAll (dInts ns) = 0
  | [] => rfl
  | n :: r => by
    show max (PyData.depth (.int n)) (PyData.depthAll (dInts r)) = 0
    rw [dep_ints r]
    rfl
theorem shaped_list (ns : List Int) : SeqAt.shaped (.list (dInts ns)) = true := by
  show (PyData.canLayAll0 (dInts ns) && decide (PyData.depthAll (dInts ns) + 1 ≤ 64)) = true
  rw [lay_ints, dep_ints]
  rfl
theorem shaped_tuple (ns : List Int) : SeqAt.shaped (.tuple (dInts ns)) = true := by
  show (PyData.canLayAll0 (dInts ns) && decide (PyData.depthAll (dInts ns) + 1 ≤ 64)) = true
  rw [lay_ints, dep_ints]
  rfl
theorem eqvAll_ints : ∀ ns ms : List Int, PyData.eqvAll (dInts ns) (dInts ms) = decide (ns = ms)
  | [], [] => rfl
  | [], _ :: _ => rfl
  | _ :: _, [] => rfl
  | a :: r, b :: t => by
    show (PyData.eqv (.int a) (.int b) && PyData.eqvAll (dInts r) (dInts t)) = _
    rw [eqvAll_ints r t]
    show ((a == b) && decide (r = t)) = _
    rw [Bool.eq_iff_iff]
    simp
theorem eqv_list (ns ms : List Int) : PyData.eqv (.list (dInts ns)) (.list (dInts ms)) = decide (ns = ms) := by
  rw [← eqvAll_ints]
  rw [PyData.eqv]
theorem eqv_tuple (ns ms : List Int) : PyData.eqv (.tuple (dInts ns)) (.tuple (dInts ms)) = decide (ns = ms) := by
  rw [← eqvAll_ints]
  rw [PyData.eqv]
def RetU (xs : List V) (H : Hp) (Q : VK) : Prop := ∀ p H2, H p = none → Ex H H2 → H2 p = some (.tup xs) → Q (.ref p) H2
/-- what a def gives: a value, a new list, a new tuple, a refusal -/
inductive Re where
  | val (v : V)
  | lst (xs : List V)
  | tup (xs : List V)
  | err (x : Str)
  | clash (i j : Int)
def Give (K : PySem.W.Frag) (r : Re) (H : Hp) (Q : VK) (E : XK) : Prop := match r with
  | .val v => RetV v H Q
  | .lst xs => RetL xs H Q
  | .tup xs => RetU xs H Q
  | .err x => ∀ H2, Ex H H2 → E (.ref (He.ga K x)) none H2
  | .clash i j => ∀ H2 d p, H d = none → Ex H H2 → H2 d = some (.xd [(("beats" : Str), .ref p)]) → H2 p = some (.tup [.int i, .int j]) → E (.ref (He.ga K "Clash")) (some d) H2
section
variable {K : PySem.W.Frag} {σ : L2.St} {H H' : Hp} {ta tb tc te tl tx : TE} {t u : TT} {x y z v : V} {r r' : R2} {D : Ends} {tu tw tz : TS} {g : TG} {Q : VK} {E : XK}
theorem RetV.mono (e : Ex H H') (h : RetV v H Q) : RetV v H' Q := fun H2 e2 => h H2 (e.trans e2)
theorem RetL.mono {xs : List V} (e : Ex H H') (h : RetL xs H Q) : RetL xs H' Q := fun p H2 hp e2 h2 => h p H2 (fresh_back e hp) (e.trans e2) h2
theorem RetU.mono {xs : List V} (e : Ex H H') (h : RetU xs H Q) : RetU xs H' Q := fun p H2 hp e2 h2 => h p H2 (fresh_back e hp) (e.trans e2) h2
theorem Give.mono {r : Re} (e : Ex H H') (h : Give K r H Q E) : Give K r H' Q E := by
  cases r with
  | val v => exact RetV.mono e h
  | lst xs => exact RetL.mono e h
  | tup xs => exact RetU.mono e h
  | err x => exact fun H2 e2 => h H2 (e.trans e2)
  | clash i j => exact fun H2 d p hd e2 h1 h2 => h H2 d p (fresh_back e hd) (e.trans e2) h1 h2
theorem ev_chain {b c : Bool} (ha : Ev ta σ H x) (hb : Ev tb σ H y) (hr : RV r x y H (.bl b)) (hc : b = true → Ev tc σ H z) (hr' : b = true → RV r' y z H (.bl c)) : Ev (tChain r r' ta tb tc) σ H (.bl (b && c)) := fun H1 e Q q =>
  ha H1 e _ fun H2 e2 => hb H2 (e.trans e2) _ fun H3 e3 => hr H3 ((e.trans e2).trans e3) _ fun H4 e4 => ⟨b, rfl, by
    cases b with
    | true =>
      show tc σ H4 fun w' H4 => r' y w' H4 Q
      exact hc rfl H4 (((e.trans e2).trans e3).trans e4) _ fun H5 e5 => hr' rfl H5 ((((e.trans e2).trans e3).trans e4).trans e5) Q fun H6 e6 => q H6 ((((e2.trans e3).trans e4).trans e5).trans e6)
    | false =>
      show Q (.bl false) H4
      exact q H4 ((e2.trans e3).trans e4)⟩
theorem ev_and2 {a b : Bool} (h1 : Ev ta σ H (.bl a)) (h2 : Ev tb σ H (.bl b)) : Ev (tAndV ta tb) σ H (.bl (a && b)) := ev_andV h1 fun _ => h2
theorem ev_or2 {a b : Bool} (h1 : Ev ta σ H (.bl a)) (h2 : Ev tb σ H (.bl b)) : Ev (tOrV ta tb) σ H (.bl (a || b)) := ev_orV h1 fun _ => h2
theorem et_and2 {a b : Bool} (h1 : EvT t σ H a) (h2 : EvT u σ H b) : EvT (tAnd t u) σ H (a && b) := et_and h1 fun _ => h2
theorem et_or2 {a b : Bool} (h1 : EvT t σ H a) (h2 : EvT u σ H b) : EvT (tOr t u) σ H (a || b) := et_or h1 fun _ => h2
theorem ev_chain2 {b c : Bool} (ha : Ev ta σ H x) (hb : Ev tb σ H y) (hr : RV r x y H (.bl b)) (hc : Ev tc σ H z) (hr' : RV r' y z H (.bl c)) : Ev (tChain r r' ta tb tc) σ H (.bl (b && c)) := ev_chain ha hb hr (fun _ => hc) fun _ => hr'
/-- tests by truth -/
theorem et_tru {b : Bool} (h : Ev te σ H v) (ht : ∀ H1, Ex H H1 → TruV K v H1 b) : EvT (fun σ H Q => te σ H fun x H' => ∃ k, TruV K x H' k ∧ Q k H') σ H b := fun H1 e Q q =>
  h H1 e _ fun H2 e2 => ⟨b, ht H2 (e.trans e2), q H2 e2⟩
theorem rv_isN : RV (fun x y H Q => y = .non ∧ Q (.bl (decide (x = .non))) H) x .non H (.bl (decide (x = .non))) := fun H1 _ _ q => ⟨rfl, q H1 (Ex.refl H1)⟩
theorem rv_notN : RV (fun x y H Q => y = .non ∧ Q (.bl (!decide (x = .non))) H) x .non H (.bl (!decide (x = .non))) := fun H1 _ _ q => ⟨rfl, q H1 (Ex.refl H1)⟩
theorem ru_I {g : Int → V} {i : Int} : RU (rU g) (.int i) H (g i) := fun H1 _ _ q => ⟨i, rfl, q H1 (Ex.refl H1)⟩
/-- len of a list -/
theorem rc_len {p : Addr} {xs : List V} (h : SqL K H p xs) : RC (rLenS K) [.ref p] H (.int (xs.length : Int)) := fun H1 e _ q => ⟨p, xs, rfl, .inl (ex_l e h), q H1 (Ex.refl H1)⟩
theorem rc_lenT {p : Addr} {xs : List V} (h : SqT K H p xs) : RC (rLenS K) [.ref p] H (.int (xs.length : Int)) := fun H1 e _ q => ⟨p, xs, rfl, .inr (ex_t e h), q H1 (Ex.refl H1)⟩
theorem rc_sum {p : Addr} {ns : List Int} (h : SqL K H p (ns.map V.int)) : RC (rSum K) [.ref p] H (.int ns.sum) := fun H1 e _ q => ⟨p, ns, rfl, ex_l e h, q H1 (Ex.refl H1)⟩
theorem rc_abs {i : Int} : RC (fun xs H Q => ∃ i, xs = [.int i] ∧ Q (.int (if i < 0 then -i else i)) H) [.int i] H (.int (if i < 0 then -i else i)) := fun H1 _ _ q => ⟨i, rfl, q H1 (Ex.refl H1)⟩
theorem rcl_list {p : Addr} {xs : List V} (h : SqL K H p xs) : RCL (rListS K) [.ref p] H xs := fun H1 e _ q =>
  ⟨p, xs, rfl, .inl (ex_l e h), fun l hl => q l _ hl (Ex.new hl) upd_same⟩
theorem ev_all {bs : List Bool} (h : EvL te σ H (bs.map V.bl)) : Ev (tCB (rAll K) (tCons te tNil)) σ H (.bl (bs.all id)) := fun H1 e Q q =>
  h H1 e _ fun p H2 _ e2 h2 => ⟨p, bs, rfl, sq_of h2, q H2 e2⟩
theorem ev_any {bs : List Bool} (h : EvL te σ H (bs.map V.bl)) : Ev (tCB (rAny K) (tCons te tNil)) σ H (.bl (bs.any id)) := fun H1 e Q q =>
  h H1 e _ fun p H2 _ e2 h2 => ⟨p, bs, rfl, sq_of h2, q H2 e2⟩
theorem ev_sumN {ns : List Int} (h : EvL te σ H (ns.map V.int)) : Ev (tCB (rSum K) (tCons te tNil)) σ H (.int ns.sum) := fun H1 e Q q =>
  h H1 e _ fun p H2 _ e2 h2 => ⟨p, ns, rfl, sq_of h2, q H2 e2⟩
theorem et_yes : EvT tYes σ H true := fun H1 _ _ q => q H1 (Ex.refl H1)
theorem given_all (n : Nat) (v : Nat → V) : given n (fun _ => true) v = (List.range n).map v := by
  unfold given
  rw [List.filter_eq_self.mpr (fun _ _ => rfl)]
theorem given_map {xs : List V} {g : V → V} (v : Nat → V) (h : ∀ i x, xs[i]? = some x → v i = g x) : given xs.length (fun _ => true) v = xs.map g := by
  rw [given_all]
  apply List.ext_getElem
  · simp
  · intro i h1 h2
    simp only [List.getElem_map, List.getElem_range]
    have h3 : i < xs.length := by simpa using h2
    exact h i _ (List.getElem?_eq_getElem h3)
/-- [e for x in xs] -/
theorem el_map {a : Addr} {xs : List V} {j : Nat} {vs : List Nat} (g : V → V) (h : Ev tl σ H (.ref a)) (hx : SqL K H a xs) (hz : xs.length ≤ 40000) (hw : ∀ x, wipe ((wipe σ vs).set j (some x)) vs = wipe σ vs)
    (he : ∀ (x : V) H1, Ex H H1 → x ∈ xs → Ev te ((wipe σ vs).set j (some x)) H1 (g x)) :
    EvL (tLc (iList K tl) (gName j) tYes te vs) σ H (xs.map g) := by
  have q := el_lcL (te := te) (t := tYes) (fun _ => true) (fun i => g (xs.getD i .non)) h hx hz hw (fun _ _ _ _ _ => et_yes) (fun i x H1 e hi _ => by
    have e2 : xs.getD i .non = x := by
      rw [List.getD_eq_getElem?_getD, hi]
      rfl
    rw [e2]
    exact he x H1 e (List.mem_of_getElem? hi))
  rw [given_map (g := g) _ (fun i x hi => by
    have e2 : xs.getD i .non = x := by
      rw [List.getD_eq_getElem?_getD, hi]
      rfl
    rw [e2])] at q
  exact q
theorem el_mapT {a : Addr} {xs : List V} {j : Nat} {vs : List Nat} (gg : V → V) (h : Ev tl σ H (.ref a)) (hx : SqT K H a xs) (hz : xs.length ≤ 40000) (hw : ∀ x, wipe ((wipe σ vs).set j (some x)) vs = wipe σ vs)
    (he : ∀ (x : V) H1, Ex H H1 → x ∈ xs → Ev te ((wipe σ vs).set j (some x)) H1 (gg x)) :
    EvL (tLc (iTup K tl) (gName j) tYes te vs) σ H (xs.map gg) := fun H0 e Q q => h H0 e _ fun H1 e1 => ⟨a, rfl, ⟨xs, ex_t (e.trans e1) hx⟩, fun Dl hD =>
  lc_tup (xs := xs) (fun i H' => H1 Dl = none ∧ Ex H1 H' ∧ H' Dl = some (.lst ((xs.take i).map gg))) ⟨hD, Ex.new hD, by rw [upd_same]; rfl⟩ (fun i H' _ p => ex_t ((e.trans e1).trans p.2.1) hx) (fun i x H' hi p => ⟨hw x, by
    show te _ H' (fun y H4 => ∃ acc, H4 Dl = some (.lst acc) ∧ acc.length < sizeLine ∧ (H1 Dl = none ∧ Ex H1 (upd H4 Dl (.lst (acc ++ [y]))) ∧ (upd H4 Dl (.lst (acc ++ [y]))) Dl = some (.lst ((xs.take (i + 1)).map gg))))
    have hm := List.mem_of_getElem? hi
    have hil := (List.getElem?_eq_some_iff.mp hi).1
    refine he x H' ((e.trans e1).trans p.2.1) hm H' (Ex.refl H') _ fun H4 e4 => ⟨_, e4 _ _ p.2.2, sz_lt (by rw [List.length_map, List.length_take]; omega), p.1, Ex.mut (p.2.1.trans e4) p.1, ?_⟩
    rw [upd_same, List.take_add_one, hi, List.map_append]
    rfl⟩) (fun H' p => q Dl H' (fresh_back e1 p.1) (e1.trans p.2.1) (by
      have z := p.2.2
      rw [List.take_length] at z
      exact z))⟩
theorem isi_tup {a : Addr} {xs : List V} (h : H a = some (.tup xs)) : RC (rIsi K) [.ref a, .ty "tuple"] H (.bl true) := fun H1 e Q q =>
  ⟨_, _, _, _, true, rfl, .ty _, .base (.tup (e _ _ h)), kit_ty (by decide +kernel), q H1 (Ex.refl H1)⟩
theorem rv_eqD {d f : PyData} (h1 : ∀ H1, Ex H H1 → Dp K H1 x d) (h2 : ∀ H1, Ex H H1 → Dp K H1 y f) (s1 : SeqAt.shaped d = true) (s2 : SeqAt.shaped f = true) : RV (rEqD K) x y H (.bl (PyData.eqv d f)) := fun H1 e _ q => ⟨d, f, h1 H1 e, h2 H1 e, s1, s2, q H1 (Ex.refl H1)⟩
theorem rv_neD {d f : PyData} (h1 : ∀ H1, Ex H H1 → Dp K H1 x d) (h2 : ∀ H1, Ex H H1 → Dp K H1 y f) (s1 : SeqAt.shaped d = true) (s2 : SeqAt.shaped f = true) : RV (rNeD K) x y H (.bl (!PyData.eqv d f)) := fun H1 e _ q => ⟨d, f, h1 H1 e, h2 H1 e, s1, s2, q H1 (Ex.refl H1)⟩
theorem dp_ints : ∀ ns : List Int, DpAll K H (ns.map V.int) (dInts ns)
  | [] => .nil
  | n :: r => .cons (.int n) (dp_ints r)
theorem dp_list {a : Addr} {ns : List Int} (h : SqL K H a (ns.map V.int)) : ∀ H1, Ex H H1 → Dp K H1 (.ref a) (.list (dInts ns)) := fun H1 e => .lst (ex_l e h) (dp_ints ns)
theorem dp_tuple {a : Addr} {ns : List Int} (h : SqT K H a (ns.map V.int)) : ∀ H1, Ex H H1 → Dp K H1 (.ref a) (.tuple (dInts ns)) := fun H1 e => .tup (ex_t e h) (dp_ints ns)
/-- == and != of lists, of tuples of whole numbers -/
theorem rv_eqL {a b : Addr} {ns ms : List Int} (h1 : SqL K H a (ns.map V.int)) (h2 : SqL K H b (ms.map V.int)) : RV (rEqD K) (.ref a) (.ref b) H (.bl (decide (ns = ms))) := by
  have z := rv_eqD (dp_list h1) (dp_list h2) (shaped_list ns) (shaped_list ms)
  rw [eqv_list] at z
  exact z
theorem rv_neL {a b : Addr} {ns ms : List Int} (h1 : SqL K H a (ns.map V.int)) (h2 : SqL K H b (ms.map V.int)) : RV (rNeD K) (.ref a) (.ref b) H (.bl (!decide (ns = ms))) := by
  have z := rv_neD (dp_list h1) (dp_list h2) (shaped_list ns) (shaped_list ms)
  rw [eqv_list] at z
  exact z
theorem rv_neT {a b : Addr} {ns ms : List Int} (h1 : SqT K H a (ns.map V.int)) (h2 : SqT K H b (ms.map V.int)) : RV (rNeD K) (.ref a) (.ref b) H (.bl (!decide (ns = ms))) := by
  have z := rv_neD (dp_tuple h1) (dp_tuple h2) (shaped_tuple ns) (shaped_tuple ms)
  rw [eqv_tuple] at z
  exact z
/-- [e for k in range(n)] -/
theorem el_rng {ta : TA} {j : Nat} {vs : List Nat} {n : Int} (g : Nat → V) (h : EvA ta σ H [.int n]) (hn : 0 ≤ n ∧ n ≤ 40000) (hw : ∀ x, wipe ((wipe σ vs).set j (some x)) vs = wipe σ vs)
    (he : ∀ (i : Nat) H1, Ex H H1 → (i : Int) < n → Ev te ((wipe σ vs).set j (some (.int (i : Int)))) H1 (g i)) :
    EvL (tLc (iRng1 ta) (gName j) tYes te vs) σ H ((List.range n.toNat).map g) := by
  have q := el_lcR1 (te := te) (t := tYes) (fun _ => true) g h hn hw (fun _ _ _ _ => et_yes) (fun i H1 e hi _ => he i H1 e hi)
  rw [given_all] at q
  exact q
theorem el_filtR {ta : TA} {j : Nat} {vs : List Nat} {n : Int} (f : Nat → Bool) (g : Nat → V) (h : EvA ta σ H [.int n]) (hn : 0 ≤ n ∧ n ≤ 40000) (hw : ∀ x, wipe ((wipe σ vs).set j (some x)) vs = wipe σ vs)
    (ht : ∀ (i : Nat) H1, Ex H H1 → (i : Int) < n → EvT t ((wipe σ vs).set j (some (.int (i : Int)))) H1 (f i))
    (he : ∀ (i : Nat) H1, Ex H H1 → (i : Int) < n → f i = true → Ev te ((wipe σ vs).set j (some (.int (i : Int)))) H1 (g i)) :
    EvL (tLc (iRng1 ta) (gName j) t te vs) σ H (((List.range n.toNat).filter f).map g) := el_lcR1 f g h hn hw ht he
/-- what a call of an own def gives -/
theorem spv_of {sp : Sp} {vs : List V} (h : ∀ H1, Ex H H1 → ∀ (Q : VK) (E : XK), RetV z H1 Q → sp vs H1 Q E) : SpV sp vs H z := fun H1 e Q q E => h H1 e Q E q
theorem spl_of {sp : Sp} {vs xs : List V} (h : ∀ H1, Ex H H1 → ∀ (Q : VK) (E : XK), RetL xs H1 Q → sp vs H1 Q E) : SpL sp vs H xs := fun H1 e Q q E => h H1 e Q E q
/-- a call in the making of a tuple -/
def SpU (sp : Sp) (vs : List V) (H : Hp) (xs : List V) : Prop := ∀ H1, Ex H H1 → ∀ Q : VK, RetU xs H1 Q → ∀ E : XK, sp vs H1 Q E
theorem eu_call {sp : Sp} {dvs vs xs : List V} {E : XK} {ta : TA} (h : EvA ta σ H vs) (hs : SpU sp (vs ++ dvs) H xs) : EvU (tCall sp dvs E ta) σ H xs := fun H1 e Q q =>
  h H1 e _ fun H2 e2 => hs H2 (e.trans e2) Q (fun p H3 hp e3 h3 => q p H3 (fresh_back e2 hp) (e2.trans e3) h3) E
/-- a call that gives some new list, of which P holds -/
theorem q_relL {sp : Sp} {vs dvs : List V} {E : XK} {ta : TA} {i : Nat} {P : List Int → Prop} (h : EvA ta σ H vs) (hs : ∀ H1, Ex H H1 → ∀ (Q : VK) (E : XK), (∀ xs, P xs → RetL (xs.map V.int) H1 Q) → sp (vs ++ dvs) H1 Q E)
    (k : ∀ xs p H1, P xs → H p = none → Ex H H1 → H1 p = some (.lst (xs.map V.int)) → tz D (σ.set i (some (.ref p))) H1) : tSeq (tAsg (tCall sp dvs E ta) (gName i)) tz D σ H :=
  h H (Ex.refl H) _ fun H1 e1 => hs H1 e1 _ E fun xs hx p H2 hp e2 h2 => k xs p H2 hx (fresh_back e1 hp) (e1.trans e2) h2
/-- what follows a statement, shown once -/
theorem q_key {M : L2.St → Hp → Prop} (key : ∀ σ' H', M σ' H' → tz D σ' H') (h : (∀ σ' H', M σ' H' → tz D σ' H') → tSeq tu tz D σ H) : tSeq tu tz D σ H := h key
/-! dicts with whole keys -/
theorem ev_din {kvs : List (Key × V)} {a : Addr} {i : Int} {td ty : TE} (hy : Ev ty σ H (.int i)) (hd : Ev td σ H (.ref a)) (h : H a = some (.dK kvs)) : Ev (tDIn ty td) σ H (.bl (valV kvs (Sum.inl i)).isSome) := fun H1 e Q q =>
  hy H1 e _ fun H2 e2 => hd H2 (e.trans e2) _ fun H3 e3 => ⟨a, _, rfl, DGet.k (k := Sum.inl i) (((e.trans e2).trans e3) _ _ h), q H3 (e2.trans e3)⟩
theorem ev_dnotin {kvs : List (Key × V)} {a : Addr} {i : Int} {td ty : TE} (hy : Ev ty σ H (.int i)) (hd : Ev td σ H (.ref a)) (h : H a = some (.dK kvs)) : Ev (tDNotIn ty td) σ H (.bl (!(valV kvs (Sum.inl i)).isSome)) := fun H1 e Q q =>
  hy H1 e _ fun H2 e2 => hd H2 (e.trans e2) _ fun H3 e3 => ⟨a, _, rfl, DGet.k (k := Sum.inl i) (((e.trans e2).trans e3) _ _ h), q H3 (e2.trans e3)⟩
theorem ev_dget {kvs : List (Key × V)} {a : Addr} {i : Int} {td ty : TE} (hd : Ev td σ H (.ref a)) (hy : Ev ty σ H (.int i)) (h : H a = some (.dK kvs)) (hv : valV kvs (Sum.inl i) = some v) : Ev (tDGet td ty) σ H v := fun H1 e Q q =>
  hd H1 e _ fun H2 e2 => hy H2 (e.trans e2) _ fun H3 e3 => ⟨a, v, rfl, by
    have z := DGet.k (k := Sum.inl i) (((e.trans e2).trans e3) _ _ h)
    rw [hv] at z
    exact z, q H3 (e2.trans e3)⟩
theorem s_dput {kvs : List (Key × V)} {a : Addr} {i : Int} {td ty : TE} (h : H a = some (.dK kvs)) (hv : Ev te σ H v) (hd : Ev td σ H (.ref a)) (hy : Ev ty σ H (.int i)) (hz : kvs.length < 100000) (k : ∀ H1, Ex H H1 → D.nx σ (upd H1 a (.dK (putK kvs (Sum.inl i) v)))) :
    sDPut td ty te D σ H := hv H (Ex.refl H) _ fun H1 e1 => hd H1 e1 _ fun H2 e2 => hy H2 (e1.trans e2) _ fun H3 e3 => ⟨a, _, rfl, DPut.k (k := Sum.inl i) (((e1.trans e2).trans e3) _ _ h) (sz_lt hz), k H3 ((e1.trans e2).trans e3)⟩
theorem q_dput {kvs : List (Key × V)} {a : Addr} {i : Int} {td ty : TE} (h : H a = some (.dK kvs)) (hv : Ev te σ H v) (hd : Ev td σ H (.ref a)) (hy : Ev ty σ H (.int i)) (hz : kvs.length < 100000) (k : ∀ H1, Ex H H1 → tz D σ (upd H1 a (.dK (putK kvs (Sum.inl i) v)))) :
    tSeq (sDPut td ty te) tz D σ H := s_dput (D := { D with nx := tz D }) h hv hd hy hz k
/-- d = {} -/
theorem q_dnew {i : Nat} (k : ∀ p, H p = none → tz D (σ.set i (some (.ref p))) (upd H p (.dK []))) : tSeq (tAsg tDNewK (gName i)) tz D σ H := fun p hp => k p hp
/-- a tuple given back -/
theorem s_retU2 {xs : List V} {ta : TA} (h : EvA ta σ H xs) (hl : xs.length ≤ 100000) (k : RetU xs H D.rt) : tRet (tTup ta) D σ H := s_retU (eu_tup h hl) k
end
theorem atI_int {ns : List Int} {j : Nat} (h : j < ns.length) : atI (ns.map V.int) (j : Int) = some (.int (ns.getD j 0)) := by
  apply atI_nat
  rw [List.getElem?_map, List.getElem?_eq_getElem h, List.getD_eq_getElem?_getD, List.getElem?_eq_getElem h]
  rfl
end TB
namespace TB
open PySem PySem.Spec PyProof.Rows L2 Evl
section
variable {K : PySem.W.Frag} {σ : L2.St} {H H' : Hp} {te : TE} {tz : TS} {D : Ends}
/-- the greatest of a list -/
def mx : List Int → Int
  | [] => 0
  | x :: r => r.foldl max x
theorem foldl_max_ge : ∀ (r : List Int) (x : Int), x ≤ r.foldl max x ∧ ∀ y ∈ r, y ≤ r.foldl max x
  | [], x => ⟨Int.le_refl _, fun _ h => nomatch h⟩
  | a :: r, x => by
    obtain ⟨h1, h2⟩ := foldl_max_ge r (max x a)
    refine ⟨Int.le_trans (Int.le_max_left _ _) h1, fun y hy => ?_⟩
    rcases List.mem_cons.mp hy with rfl | hy
    · exact Int.le_trans (Int.le_max_right _ _) h1
    · exact h2 y hy
theorem foldl_max_mem : ∀ (r : List Int) (x : Int), r.foldl max x = x ∨ r.foldl max x ∈ r
  | [], x => .inl rfl
  | a :: r, x => by
    rcases foldl_max_mem r (max x a) with h | h
    · show r.foldl max (max x a) = x ∨ r.foldl max (max x a) ∈ a :: r
      rw [h]
      by_cases e : x ≤ a
      · rw [Int.max_eq_right e]
        exact .inr List.mem_cons_self
      · rw [Int.max_eq_left (by omega)]
        exact .inl rfl
    · exact .inr (List.mem_cons_of_mem _ h)
theorem mx_mem {l : List Int} (h : l ≠ []) : mx l ∈ l := by
  cases l with
  | nil => exact absurd rfl h
  | cons x r =>
    rcases foldl_max_mem r x with e | e
    · show r.foldl max x ∈ x :: r
      rw [e]
      exact List.mem_cons_self
    · exact List.mem_cons_of_mem _ e
theorem mx_ge {l : List Int} {y : Int} (h : y ∈ l) : y ≤ mx l := by
  cases l with
  | nil => cases h
  | cons x r =>
    obtain ⟨h1, h2⟩ := foldl_max_ge r x
    rcases List.mem_cons.mp h with rfl | h
    · exact h1
    · exact h2 y h
theorem mx_eq {l : List Int} {m : Int} (h1 : m ∈ l) (h2 : ∀ y, y ∈ l → y ≤ m) : m = mx l := by
  have ne : l ≠ [] := fun e => by
    rw [e] at h1
    cases h1
  have a := mx_ge h1
  have b := h2 _ (mx_mem ne)
  omega
theorem ev_maxN {ns : List Int} (h : EvL te σ H (ns.map V.int)) (h0 : 0 < ns.length) : Ev (tCB (rMax K) (tCons te tNil)) σ H (.int (mx ns)) := fun H1 e Q q =>
  h H1 e _ fun p H2 _ e2 h2 => ⟨p, ns, rfl, sq_of h2, h0, fun m hm hle => by
    rw [mx_eq hm hle]
    exact q H2 e2⟩
theorem rc_max {p : Addr} {ns : List Int} (h : SqL K H p (ns.map V.int)) (h0 : 0 < ns.length) : RC (rMax K) [.ref p] H (.int (mx ns)) := fun H1 e _ q => ⟨p, ns, rfl, ex_l e h, h0, fun m hm hle => by
  rw [mx_eq hm hle]
  exact q H1 (Ex.refl H1)⟩
/-- the greatest of what is beyond nothing is within -/
theorem mx_abs {ns : List Int} (h : ns ≠ []) (b : Int) : decide (b < mx (ns.map fun n => if n < 0 then -n else n)) = !(ns.all fun n => decide (-b ≤ n) && decide (n ≤ b)) := by
  rw [Bool.eq_iff_iff, decide_eq_true_iff, Bool.not_eq_true', List.all_eq_false]
  constructor
  · intro hb
    have hm := mx_mem (l := ns.map fun n => if n < 0 then -n else n) (by simpa using h)
    obtain ⟨n, hn, e⟩ := List.mem_map.mp hm
    refine ⟨n, hn, ?_⟩
    rw [← e] at hb
    simp only [Bool.and_eq_true, decide_eq_true_iff]
    split at hb <;> omega
  · rintro ⟨n, hn, hb⟩
    simp only [Bool.and_eq_true, decide_eq_true_iff] at hb
    have hg := mx_ge (List.mem_map.mpr ⟨n, hn, rfl⟩ : (if n < 0 then -n else n) ∈ ns.map fun n => if n < 0 then -n else n)
    split at hg <;> omega
/-- a call that gives some number, of which P holds -/
theorem q_relV {sp : Sp} {vs dvs : List V} {E : XK} {ta : TA} {i : Nat} {P : Int → Prop} (h : EvA ta σ H vs) (hs : ∀ H1, Ex H H1 → ∀ (Q : VK) (E : XK), (∀ x, P x → RetV (.int x) H1 Q) → sp (vs ++ dvs) H1 Q E)
    (k : ∀ x H1, P x → Ex H H1 → tz D (σ.set i (some (.int x))) H1) : tSeq (tAsg (tCall sp dvs E ta) (gName i)) tz D σ H :=
  h H (Ex.refl H) _ fun H1 e1 => hs H1 e1 _ E fun x hx H2 e2 => k x H2 hx (e1.trans e2)
theorem isi_listL {a : Addr} {xs : List V} (h : H a = some (.lst xs)) : RC (rIsi K) [.ref a, .ty "list"] H (.bl true) := fun H1 e Q q =>
  ⟨_, _, _, _, true, rfl, .ty _, .base (.lst (e _ _ h)), kit_ty (by decide +kernel), q H1 (Ex.refl H1)⟩
theorem isi_intI {i : Int} : RC (rIsi K) [.int i, .ty "int"] H (.bl true) := isi_int (.int i)
theorem isi_boolI {i : Int} : RC (rIsi K) [.int i, .ty "bool"] H (.bl false) := isi_bool (.int i)
end
theorem atI_lt {ns : List Int} {j : Int} (h0 : 0 ≤ j) (h : j < (ns.length : Int)) : atI (ns.map V.int) j = some (.int (ns.getD j.toNat 0)) := by
  have e : j = ((j.toNat : Nat) : Int) := by omega
  have z := atI_int (ns := ns) (j := j.toNat) (by omega)
  rw [← e] at z
  exact z
end TB
namespace TB
open PySem PySem.Spec PyProof.Rows L2 Evl
section
variable {K : PySem.W.Frag} {σ : L2.St} {H H' : Hp} {te tl : TE} {tz : TS} {D : Ends}
/-- [e for n in ns], whole numbers to whole numbers -/
theorem el_mapI {a : Addr} {ns : List Int} {j : Nat} {vs : List Nat} (f : Int → Int) (h : Ev tl σ H (.ref a)) (hx : SqL K H a (ns.map V.int)) (hz : ns.length ≤ 40000) (hw : ∀ x, wipe ((wipe σ vs).set j (some x)) vs = wipe σ vs)
    (he : ∀ (n : Int) H1, Ex H H1 → n ∈ ns → Ev te ((wipe σ vs).set j (some (.int n))) H1 (.int (f n))) : EvL (tLc (iList K tl) (gName j) tYes te vs) σ H ((ns.map f).map V.int) := by
  have z := el_map (K := K) (te := te) (tl := tl) (j := j) (vs := vs) (σ := σ) (H := H) (fun x => match x with | .int n => .int (f n) | _ => .non) h hx (by rw [List.length_map]; exact hz) hw (fun x H1 e hx => by
    obtain ⟨n, hn, rfl⟩ := List.mem_map.mp hx
    exact he n H1 e hn)
  rw [List.map_map] at z ⊢
  exact z
theorem el_rngI {ta : TA} {j : Nat} {vs : List Nat} {n : Nat} (f : Nat → Int) (h : EvA ta σ H [.int (n : Int)]) (hn : n ≤ 40000) (hw : ∀ x, wipe ((wipe σ vs).set j (some x)) vs = wipe σ vs)
    (he : ∀ (i : Nat) H1, Ex H H1 → i < n → Ev te ((wipe σ vs).set j (some (.int (i : Int)))) H1 (.int (f i))) : EvL (tLc (iRng1 ta) (gName j) tYes te vs) σ H (((List.range n).map f).map V.int) := by
  have z := el_rng (te := te) (j := j) (vs := vs) (σ := σ) (H := H) (fun i => .int (f i)) h (by omega) hw (fun i H1 e hi => he i H1 e (by omega))
  rw [List.map_map]
  exact z
end
end TB
namespace TB
open PySem PySem.Spec PyProof.Rows L2 Evl
section
variable {K : PySem.W.Frag} {σ : L2.St} {H H' : Hp} {t1 t2 : TE} {tz : TS} {D : Ends} {sp : Sp} {dvs xs ys : List V} {E : XK} {v z : V}
/-- calls of two arguments, new lists among them -/
theorem ev_cLL (h1 : EvL t1 σ H xs) (h2 : EvL t2 σ H ys) (hs : ∀ p r H1, H1 p = some (.lst xs) → H1 r = some (.lst ys) → Ex H H1 → SpV sp ([.ref p, .ref r] ++ dvs) H1 z) : Ev (tCall sp dvs E (tCons t1 (tCons t2 tNil))) σ H z := fun H1 e Q q =>
  h1 H1 e _ fun p H2 _ e2 g1 => h2 H2 (e.trans e2) _ fun r H3 _ e3 g2 => hs p r H3 (e3 _ _ g1) g2 ((e.trans e2).trans e3) H3 (Ex.refl H3) Q (fun H4 e4 => q H4 ((e2.trans e3).trans e4)) E
theorem ev_cLV (h1 : EvL t1 σ H xs) (h2 : Ev t2 σ H v) (hs : ∀ p H1, H1 p = some (.lst xs) → Ex H H1 → SpV sp ([.ref p, v] ++ dvs) H1 z) : Ev (tCall sp dvs E (tCons t1 (tCons t2 tNil))) σ H z := fun H1 e Q q =>
  h1 H1 e _ fun p H2 _ e2 g1 => h2 H2 (e.trans e2) _ fun H3 e3 => hs p H3 (e3 _ _ g1) ((e.trans e2).trans e3) H3 (Ex.refl H3) Q (fun H4 e4 => q H4 ((e2.trans e3).trans e4)) E
theorem ev_cVL (h1 : Ev t1 σ H v) (h2 : EvL t2 σ H ys) (hs : ∀ r H1, H1 r = some (.lst ys) → Ex H H1 → SpV sp ([v, .ref r] ++ dvs) H1 z) : Ev (tCall sp dvs E (tCons t1 (tCons t2 tNil))) σ H z := fun H1 e Q q =>
  h1 H1 e _ fun H2 e2 => h2 H2 (e.trans e2) _ fun r H3 _ e3 g2 => hs r H3 g2 ((e.trans e2).trans e3) H3 (Ex.refl H3) Q (fun H4 e4 => q H4 ((e2.trans e3).trans e4)) E
theorem ev_cL (h1 : EvL t1 σ H xs) (hs : ∀ p H1, H1 p = some (.lst xs) → Ex H H1 → SpV sp ([.ref p] ++ dvs) H1 z) : Ev (tCall sp dvs E (tCons t1 tNil)) σ H z := fun H1 e Q q =>
  h1 H1 e _ fun p H2 _ e2 g1 => hs p H2 g1 (e.trans e2) H2 (Ex.refl H2) Q (fun H4 e4 => q H4 (e2.trans e4)) E
/-- .. the second argument some number, of which P holds -/
theorem ev_cVR {sp2 : Sp} {dvs2 vs2 : List V} {E2 : XK} {ta : TA} {P : Int → Prop} (h1 : Ev t1 σ H v) (h2 : EvA ta σ H vs2) (hs2 : ∀ H1, Ex H H1 → ∀ (Q : VK) (E : XK), (∀ x, P x → RetV (.int x) H1 Q) → sp2 (vs2 ++ dvs2) H1 Q E)
    (hs : ∀ x H1, P x → Ex H H1 → SpV sp ([v, .int x] ++ dvs) H1 z) : Ev (tCall sp dvs E (tCons t1 (tCons (tCall sp2 dvs2 E2 ta) tNil))) σ H z := fun H1 e Q q =>
  h1 H1 e _ fun H2 e2 => h2 H2 (e.trans e2) _ fun H3 e3 => hs2 H3 ((e.trans e2).trans e3) _ E2 fun x hx H4 e4 => hs x H4 hx (((e.trans e2).trans e3).trans e4) H4 (Ex.refl H4) Q (fun H5 e5 => q H5 (((e2.trans e3).trans e4).trans e5)) E
end
end TB
/-! isinstance asked of the caught exception -/
namespace TB
open PySem PySem.Spec PyProof.Rows L2 Evl
def excB (K : PySem.W.Frag) (D : Addr) : Bool := decide (PySem.W.findIn K (.ref D) "__getattribute__" = some (some (.builtin "BaseException.__getattribute__"))) && (decide (PySem.W.findIn K (.ref D) "__getattr__" = some none) && (decide (PySem.W.subIn K (.ref D) (.type "BaseException") = some true) && (PySem.W.hasDictIn K D &&
  (decide (PySem.W.findIn K (.ref D) "__class__" = some (some (.builtin "object.__class__"))) && (decide (PySem.W.specialIn K (.builtin "object.__class__") "__get__" = some (some (.builtin "getset_descriptor.__get__"))) && (decide (PySem.W.takesIn K (.builtin "object.__class__") = some true) && decide (PySem.W.mroIn K D (.type "object") = some true)))))))
theorem excB_ok {K : PySem.W.Frag} {D : Addr} (h : excB K D = true) : ExcC K D := by
  obtain ⟨h1, h⟩ := Bool.and_eq_true_iff.mp h
  obtain ⟨h2, h⟩ := Bool.and_eq_true_iff.mp h
  obtain ⟨h3, h⟩ := Bool.and_eq_true_iff.mp h
  obtain ⟨h4, h⟩ := Bool.and_eq_true_iff.mp h
  obtain ⟨h5, h⟩ := Bool.and_eq_true_iff.mp h
  obtain ⟨h6, h⟩ := Bool.and_eq_true_iff.mp h
  obtain ⟨h7, h8⟩ := Bool.and_eq_true_iff.mp h
  exact ⟨of_decide_eq_true h1, of_decide_eq_true h2, of_decide_eq_true h3, h4, of_decide_eq_true h5, of_decide_eq_true h6, of_decide_eq_true h7, of_decide_eq_true h8⟩
/-- the classes of refusals, each with what it is an instance of -/
def exB (K : PySem.W.Frag) (cs : List (Str × List (Str × Bool))) : Bool := cs.all fun r => excB K (He.ga K r.1) && ((r.2.all fun c => decide (PySem.W.kitOne K (.ref (He.ga K r.1)) (.ref (He.ga K c.1)) = some c.2)) && decide (PySem.W.kitOne K (.ref (He.ga K r.1)) (.type "ValueError") = some true))
theorem exB_row {K : PySem.W.Frag} {cs : List (Str × List (Str × Bool))} (h : exB K cs = true) (i : Nat) {r : Str × List (Str × Bool)} (hr : cs[i]? = some r) : ExcC K (He.ga K r.1) ∧ PySem.W.kitOne K (.ref (He.ga K r.1)) (.type "ValueError") = some true ∧ ∀ (j : Nat) (c : Str × Bool), r.2[j]? = some c → PySem.W.kitOne K (.ref (He.ga K r.1)) (.ref (He.ga K c.1)) = some c.2 := by
  have z := List.all_eq_true.mp h r (List.mem_of_getElem? hr)
  obtain ⟨h1, h2⟩ := Bool.and_eq_true_iff.mp z
  obtain ⟨h3, h4⟩ := Bool.and_eq_true_iff.mp h2
  exact ⟨excB_ok h1, of_decide_eq_true h4, fun j c hc => of_decide_eq_true (List.all_eq_true.mp h3 c (List.mem_of_getElem? hc))⟩
def rIsX (K : PySem.W.Frag) (cls : Value) (d : Option Addr) (a : Addr) : List V → Hp → VK → Prop := fun xs H Q => ∃ (D : Addr) (c : V) (cv : Value) (b : Bool), cls = .ref D ∧ d = none ∧ ExcC K D ∧ xs = [.ref a, c] ∧ ClsV c cv ∧ PySem.W.kitOne K (.ref D) cv = some b ∧ Q (.bl b) H
def rIsXT (K : PySem.W.Frag) (cls : Value) (d : Option Addr) (a : Addr) : List V → Hp → VK → Prop := fun xs H Q => ∃ (D tp : Addr) (cs : List V) (us : List Value) (b : Bool), cls = .ref D ∧ d = none ∧ ExcC K D ∧ xs = [.ref a, .ref tp] ∧ H tp = some (.tup cs) ∧ Paired ClsV cs us ∧ PySem.W.kitAny K (.ref D) us = some b ∧ Q (.bl b) H
section
variable {X : Cx} {a : Addr} {oe : Obj} {cls : Value} {d : Option Addr} {pn : List (Addr × Obj)}
theorem isX (hz : Zc cls d oe) (hf : ∃ vs, oe.data = .fields vs) : CallR (X.suite a ((a, oe) :: pn)) (.builtin "isinstance") (rIsX X.K cls d a) := by
  intro pins s σ H xs us Q I r h
  obtain ⟨D, c, cv, b, rfl, rfl, C, rfl, hc, e, q⟩ := h
  exact call_isE C hz hf pins s σ H _ us Q I r ⟨c, cv, b, rfl, fun u k => hc.eq k, e, q⟩
theorem isXT (hz : Zc cls d oe) (hf : ∃ vs, oe.data = .fields vs) : CallR (X.suite a ((a, oe) :: pn)) (.builtin "isinstance") (rIsXT X.K cls d a) := by
  intro pins s σ H xs us Q I r h
  obtain ⟨D, tp, cs, ws, b, rfl, rfl, C, rfl, hT, k, e, q⟩ := h
  obtain ⟨u1, u2, rfl, r1, r2⟩ := vals2 r
  cases (show u2 = Value.ref tp from r2)
  cases (show u1 = Value.ref a from r1)
  obtain ⟨hget, _⟩ := I.pin (a, oe) (List.mem_append.mpr (.inl List.mem_cons_self))
  obtain ⟨vs, hv⟩ := hf
  have J : PySem.W.InstAt s.heap a oe D none := by
    obtain ⟨oc, od, oda, osl⟩ := oe
    obtain ⟨h1, h2⟩ := hz
    dsimp only at h1 h2 hv
    subst h1 h2 hv
    exact ⟨hget, rfl, rfl, trivial⟩
  obtain ⟨_, its, rv, o, h1, h2, n, h3⟩ := (show ObjOk X.prog X.w H s.heap tp (.tup cs) from I.hok tp _ hT)
  have e3 := ClsV.all k rv
  subst e3
  obtain ⟨oc, od, dt, sl⟩ := o
  simp only at h2 h3
  subst h2 h3
  exact PySem.W.kia_tup (PySem.W.handS_kitx_exc C.hg C.hk C.hs C.hd C.ha C.hn C.ht C.hm) I.kIn J h1 e (fun z => nomatch z) fun tk => ⟨.bl b, H, I.kept (t' := tk) fun _ _ z => z, rfl, q⟩
end
section
variable {K : PySem.W.Frag} {σ : L2.St} {H H' : Hp} {te tl : TE}
/-- isinstance(e, c) -/
theorem rc_isX {D a : Addr} {c : V} {cv : Value} {b : Bool} (C : ExcC K D) (hc : ClsV c cv) (e : PySem.W.kitOne K (.ref D) cv = some b) : RC (rIsX K (.ref D) none a) [.ref a, c] H (.bl b) := fun H1 _ Q q => ⟨D, c, cv, b, rfl, rfl, C, rfl, hc, e, q H1 (Ex.refl H1)⟩
theorem rc_isXT {D a tp : Addr} {cs : List V} {us : List Value} {b : Bool} (C : ExcC K D) (h : H tp = some (.tup cs)) (hc : Paired ClsV cs us) (e : PySem.W.kitAny K (.ref D) us = some b) : RC (rIsXT K (.ref D) none a) [.ref a, .ref tp] H (.bl b) := fun H1 e1 Q q => ⟨D, tp, cs, us, b, rfl, rfl, C, rfl, e1 _ _ h, hc, e, q H1 (Ex.refl H1)⟩
/-- a built-in call of two arguments, the second a new tuple -/
theorem ev_cbU {r : List V → Hp → VK → Prop} {t1 t2 : TE} {v z : V} {xs : List V} (h1 : Ev t1 σ H v) (h2 : EvU t2 σ H xs) (hs : ∀ p H1, H1 p = some (.tup xs) → Ex H H1 → RC r [v, .ref p] H1 z) : Ev (tCB r (tCons t1 (tCons t2 tNil))) σ H z := fun H1 e Q q =>
  h1 H1 e _ fun H2 e2 => h2 H2 (e.trans e2) _ fun p H3 _ e3 g2 => hs p H3 g2 ((e.trans e2).trans e3) H3 (Ex.refl H3) Q fun H4 e4 => q H4 ((e2.trans e3).trans e4)
/-- [e for x in xs if t], whole numbers -/
theorem el_filtL {a : Addr} {ns : List Int} {j : Nat} {vs : List Nat} {t : TT} (p : Int → Bool) (f : Int → Int) (h : Ev tl σ H (.ref a)) (hx : SqL K H a (ns.map V.int)) (hz : ns.length ≤ 40000) (hw : ∀ x, wipe ((wipe σ vs).set j (some x)) vs = wipe σ vs)
    (ht : ∀ (n : Int) H1, Ex H H1 → n ∈ ns → EvT t ((wipe σ vs).set j (some (.int n))) H1 (p n)) (he : ∀ (n : Int) H1, Ex H H1 → n ∈ ns → Ev te ((wipe σ vs).set j (some (.int n))) H1 (.int (f n))) : EvL (tLc (iList K tl) (gName j) t te vs) σ H (((ns.filter p).map f).map V.int) := by
  have at_ : ∀ (i : Nat) (x : V), (ns.map V.int)[i]? = some x → x = .int (ns.getD i 0) ∧ ns.getD i 0 ∈ ns := fun i x hi => by
    rw [List.getElem?_map] at hi
    cases hg : ns[i]? with
    | none => rw [hg] at hi; cases hi
    | some y =>
      rw [hg] at hi
      have e2 : ns.getD i 0 = y := by rw [List.getD_eq_getElem?_getD, hg]; rfl
      rw [e2]
      exact ⟨(Option.some.inj hi).symm, List.mem_of_getElem? hg⟩
  have z := el_lcL (K := K) (te := te) (t := t) (tl := tl) (j := j) (vs := vs) (σ := σ) (H := H) (fun i => p (ns.getD i 0)) (fun i => .int (f (ns.getD i 0))) h hx (by rw [List.length_map]; exact hz) hw (fun i x H1 e hi => by
    obtain ⟨rfl, hm⟩ := at_ i x hi
    exact ht _ H1 e hm) (fun i x H1 e hi _ => by
    obtain ⟨rfl, hm⟩ := at_ i x hi
    exact he _ H1 e hm)
  have e : given (ns.map V.int).length (fun i => p (ns.getD i 0)) (fun i => .int (f (ns.getD i 0))) = ((ns.filter p).map f).map V.int := by
    unfold given
    rw [List.length_map]
    have w : ns = (List.range ns.length).map fun i => ns.getD i 0 := by
      apply List.ext_getElem
      · simp
      · intro i h1 h2
        rw [List.getElem_map, List.getElem_range, List.getD_eq_getElem?_getD, List.getElem?_eq_getElem h1]
        rfl
    have w2 : ns.filter p = ((List.range ns.length).filter fun i => p (ns.getD i 0)).map fun i => ns.getD i 0 := by
      conv => lhs; rw [w]
      rw [List.filter_map]
      rfl
    rw [w2, List.map_map, List.map_map]
    rfl
  rw [e] at z
  exact z
end
end TB

namespace TB
open PySem PySem.Spec PyProof.Rows L2 Evl
def top (i : Nat) : Stmt := PySem.Challenge.pw_tossbook_k16_written.main.body.getD i (.Pass ⟨0, 0, 0, 0⟩)
abbrev s_Clash___init__ : Stmt := (inClass (top 8) 0)
abbrev s_is_whole : Stmt := (top 12)
abbrev s_within : Stmt := (top 13)
abbrev s_check_row : Stmt := (top 14)
abbrev s_written : Stmt := (top 17)
abbrev s_number_of : Stmt := (top 18)
abbrev s_read : Stmt := (top 19)
abbrev s__law_cell_at : Stmt := (top 21)
abbrev s__law_mixed : Stmt := (top 22)
abbrev s__law_size_by : Stmt := (top 23)
abbrev s__law_spots_by : Stmt := (top 24)
abbrev s__law_same : Stmt := (top 25)
abbrev s__law_row_by : Stmt := (top 26)
abbrev s__law_text_of : Stmt := (top 27)
abbrev s__law_other_by : Stmt := (top 28)
abbrev s__law_few : Stmt := (top 29)
abbrev s__law_number_of : Stmt := (top 30)
abbrev s__law_row_of : Stmt := (top 31)
abbrev s__law_refused : Stmt := (top 32)
abbrev s_law : Stmt := (top 33)
def fn : List He.DefD := [
  ⟨("Clash", some "__init__"), "__init__", "Clash.__init__", defArgs s_Clash___init__, defBody s_Clash___init__, defScope s_Clash___init__, [], []⟩,
  ⟨("is_whole", none), "is_whole", "is_whole", defArgs s_is_whole, defBody s_is_whole, defScope s_is_whole, [], []⟩,
  ⟨("within", none), "within", "within", defArgs s_within, defBody s_within, defScope s_within, [], []⟩,
  ⟨("check_row", none), "check_row", "check_row", defArgs s_check_row, defBody s_check_row, defScope s_check_row, [], []⟩,
  ⟨("written", none), "written", "written", defArgs s_written, defBody s_written, defScope s_written, [], []⟩,
  ⟨("number_of", none), "number_of", "number_of", defArgs s_number_of, defBody s_number_of, defScope s_number_of, [], []⟩,
  ⟨("read", none), "read", "read", defArgs s_read, defBody s_read, defScope s_read, [], []⟩,
  ⟨("_law_cell_at", none), "_law_cell_at", "_law_cell_at", defArgs s__law_cell_at, defBody s__law_cell_at, defScope s__law_cell_at, [], []⟩,
  ⟨("_law_mixed", none), "_law_mixed", "_law_mixed", defArgs s__law_mixed, defBody s__law_mixed, defScope s__law_mixed, [], []⟩,
  ⟨("_law_size_by", none), "_law_size_by", "_law_size_by", defArgs s__law_size_by, defBody s__law_size_by, defScope s__law_size_by, [], []⟩,
  ⟨("_law_spots_by", none), "_law_spots_by", "_law_spots_by", defArgs s__law_spots_by, defBody s__law_spots_by, defScope s__law_spots_by, [], []⟩,
  ⟨("_law_same", none), "_law_same", "_law_same", defArgs s__law_same, defBody s__law_same, defScope s__law_same, [], []⟩,
  ⟨("_law_row_by", none), "_law_row_by", "_law_row_by", defArgs s__law_row_by, defBody s__law_row_by, defScope s__law_row_by, [], []⟩,
  ⟨("_law_text_of", none), "_law_text_of", "_law_text_of", defArgs s__law_text_of, defBody s__law_text_of, defScope s__law_text_of, [], []⟩,
  ⟨("_law_other_by", none), "_law_other_by", "_law_other_by", defArgs s__law_other_by, defBody s__law_other_by, defScope s__law_other_by, [], []⟩,
  ⟨("_law_few", none), "_law_few", "_law_few", defArgs s__law_few, defBody s__law_few, defScope s__law_few, [], []⟩,
  ⟨("_law_number_of", none), "_law_number_of", "_law_number_of", defArgs s__law_number_of, defBody s__law_number_of, defScope s__law_number_of, [], []⟩,
  ⟨("_law_row_of", none), "_law_row_of", "_law_row_of", defArgs s__law_row_of, defBody s__law_row_of, defScope s__law_row_of, [], []⟩,
  ⟨("_law_refused", none), "_law_refused", "_law_refused", defArgs s__law_refused, defBody s__law_refused, defScope s__law_refused, [], []⟩,
  ⟨("law", none), "law", "law", defArgs s_law, defBody s_law, defScope s_law, [], []⟩]
def fa : List He.Fa := [.glo "is_whole", .glo "within", .glo "check_row", .glo "written", .glo "number_of", .glo "read", .glo "_law_cell_at", .glo "_law_mixed", .glo "_law_size_by", .glo "_law_spots_by", .glo "_law_same", .glo "_law_row_by", .glo "_law_text_of", .glo "_law_other_by", .glo "_law_few", .glo "_law_number_of", .glo "_law_row_of", .glo "_law_refused", .glo "law", .glo "TossError", .glo "NotARow", .glo "OtherLength", .glo "OutOfBounds", .glo "NotPlain", .glo "NoThrow", .glo "NotWritten", .glo "Clash", .free "ValueError", .free "all", .free "any", .free "bool", .free "int", .free "isinstance", .free "len", .free "list", .free "range", .free "str", .int "GREATEST" 1000000, .int "LONGEST" 60, .str "SIGNS" "0123456789abcdefghijklmnopqrstuvwxyz", .exc "TossError", .exc "NotARow", .exc "OtherLength", .exc "OutOfBounds", .exc "NotPlain", .exc "NoThrow", .exc "NotWritten", .exm "TossError" "TossError" true, .exm "NotARow" "TossError" true, .exm "OtherLength" "TossError" true, .exm "OutOfBounds" "TossError" true, .exm "NotPlain" "TossError" true, .exm "NoThrow" "TossError" true, .exm "NotWritten" "TossError" true, .exm "Clash" "TossError" true]
def exs : List (Str × List (Str × Bool)) := [("TossError", [("TossError", true), ("NotARow", false), ("OtherLength", false), ("OutOfBounds", false), ("NotPlain", false), ("NoThrow", false), ("NotWritten", false), ("Clash", false)]), ("NotARow", [("TossError", true), ("NotARow", true), ("OtherLength", false), ("OutOfBounds", false), ("NotPlain", false), ("NoThrow", false), ("NotWritten", false), ("Clash", false)]), ("OtherLength", [("TossError", true), ("NotARow", false), ("OtherLength", true), ("OutOfBounds", false), ("NotPlain", false), ("NoThrow", false), ("NotWritten", false), ("Clash", false)]), ("OutOfBounds", [("TossError", true), ("NotARow", false), ("OtherLength", false), ("OutOfBounds", true), ("NotPlain", false), ("NoThrow", false), ("NotWritten", false), ("Clash", false)]), ("NotPlain", [("TossError", true), ("NotARow", false), ("OtherLength", false), ("OutOfBounds", false), ("NotPlain", true), ("NoThrow", false), ("NotWritten", false), ("Clash", false)]), ("NoThrow", [("TossError", true), ("NotARow", false), ("OtherLength", false), ("OutOfBounds", false), ("NotPlain", false), ("NoThrow", true), ("NotWritten", false), ("Clash", false)]), ("NotWritten", [("TossError", true), ("NotARow", false), ("OtherLength", false), ("OutOfBounds", false), ("NotPlain", false), ("NoThrow", false), ("NotWritten", true), ("Clash", false)]), ("Clash", [("TossError", true), ("NotARow", false), ("OtherLength", false), ("OutOfBounds", false), ("NotPlain", false), ("NoThrow", false), ("NotWritten", false), ("Clash", true)])]
def ex (K : PySem.W.Frag) : Bool := clashB K (He.ga K "Clash") && exB K exs
abbrev TXT (K : PySem.W.Frag) (mg : Str → Option Value) : Prop := TX fa fn ex K mg
theorem tx_clash {K : PySem.W.Frag} {mg : Str → Option Value} (T : TXT K mg) : clashB K (He.ga K "Clash") = true := (Bool.and_eq_true_iff.mp T.c.2).1
theorem tx_exs {K : PySem.W.Frag} {mg : Str → Option Value} (T : TXT K mg) : exB K exs = true := (Bool.and_eq_true_iff.mp T.c.2).2
theorem tx_TossError {K : PySem.W.Frag} {mg : Str → Option Value} (T : TXT K mg) : ExcC K (He.ga K "TossError") ∧ PySem.W.kitOne K (.ref (He.ga K "TossError")) (.type "ValueError") = some true ∧ ∀ (j : Nat) (c : Str × Bool), ([("TossError", true), ("NotARow", false), ("OtherLength", false), ("OutOfBounds", false), ("NotPlain", false), ("NoThrow", false), ("NotWritten", false), ("Clash", false)] : List (Str × Bool))[j]? = some c → PySem.W.kitOne K (.ref (He.ga K "TossError")) (.ref (He.ga K c.1)) = some c.2 := exB_row (tx_exs T) 0 rfl
theorem tx_NotARow {K : PySem.W.Frag} {mg : Str → Option Value} (T : TXT K mg) : ExcC K (He.ga K "NotARow") ∧ PySem.W.kitOne K (.ref (He.ga K "NotARow")) (.type "ValueError") = some true ∧ ∀ (j : Nat) (c : Str × Bool), ([("TossError", true), ("NotARow", true), ("OtherLength", false), ("OutOfBounds", false), ("NotPlain", false), ("NoThrow", false), ("NotWritten", false), ("Clash", false)] : List (Str × Bool))[j]? = some c → PySem.W.kitOne K (.ref (He.ga K "NotARow")) (.ref (He.ga K c.1)) = some c.2 := exB_row (tx_exs T) 1 rfl
theorem tx_OtherLength {K : PySem.W.Frag} {mg : Str → Option Value} (T : TXT K mg) : ExcC K (He.ga K "OtherLength") ∧ PySem.W.kitOne K (.ref (He.ga K "OtherLength")) (.type "ValueError") = some true ∧ ∀ (j : Nat) (c : Str × Bool), ([("TossError", true), ("NotARow", false), ("OtherLength", true), ("OutOfBounds", false), ("NotPlain", false), ("NoThrow", false), ("NotWritten", false), ("Clash", false)] : List (Str × Bool))[j]? = some c → PySem.W.kitOne K (.ref (He.ga K "OtherLength")) (.ref (He.ga K c.1)) = some c.2 := exB_row (tx_exs T) 2 rfl
theorem tx_OutOfBounds {K : PySem.W.Frag} {mg : Str → Option Value} (T : TXT K mg) : ExcC K (He.ga K "OutOfBounds") ∧ PySem.W.kitOne K (.ref (He.ga K "OutOfBounds")) (.type "ValueError") = some true ∧ ∀ (j : Nat) (c : Str × Bool), ([("TossError", true), ("NotARow", false), ("OtherLength", false), ("OutOfBounds", true), ("NotPlain", false), ("NoThrow", false), ("NotWritten", false), ("Clash", false)] : List (Str × Bool))[j]? = some c → PySem.W.kitOne K (.ref (He.ga K "OutOfBounds")) (.ref (He.ga K c.1)) = some c.2 := exB_row (tx_exs T) 3 rfl
theorem tx_NotPlain {K : PySem.W.Frag} {mg : Str → Option Value} (T : TXT K mg) : ExcC K (He.ga K "NotPlain") ∧ PySem.W.kitOne K (.ref (He.ga K "NotPlain")) (.type "ValueError") = some true ∧ ∀ (j : Nat) (c : Str × Bool), ([("TossError", true), ("NotARow", false), ("OtherLength", false), ("OutOfBounds", false), ("NotPlain", true), ("NoThrow", false), ("NotWritten", false), ("Clash", false)] : List (Str × Bool))[j]? = some c → PySem.W.kitOne K (.ref (He.ga K "NotPlain")) (.ref (He.ga K c.1)) = some c.2 := exB_row (tx_exs T) 4 rfl
theorem tx_NoThrow {K : PySem.W.Frag} {mg : Str → Option Value} (T : TXT K mg) : ExcC K (He.ga K "NoThrow") ∧ PySem.W.kitOne K (.ref (He.ga K "NoThrow")) (.type "ValueError") = some true ∧ ∀ (j : Nat) (c : Str × Bool), ([("TossError", true), ("NotARow", false), ("OtherLength", false), ("OutOfBounds", false), ("NotPlain", false), ("NoThrow", true), ("NotWritten", false), ("Clash", false)] : List (Str × Bool))[j]? = some c → PySem.W.kitOne K (.ref (He.ga K "NoThrow")) (.ref (He.ga K c.1)) = some c.2 := exB_row (tx_exs T) 5 rfl
theorem tx_NotWritten {K : PySem.W.Frag} {mg : Str → Option Value} (T : TXT K mg) : ExcC K (He.ga K "NotWritten") ∧ PySem.W.kitOne K (.ref (He.ga K "NotWritten")) (.type "ValueError") = some true ∧ ∀ (j : Nat) (c : Str × Bool), ([("TossError", true), ("NotARow", false), ("OtherLength", false), ("OutOfBounds", false), ("NotPlain", false), ("NoThrow", false), ("NotWritten", true), ("Clash", false)] : List (Str × Bool))[j]? = some c → PySem.W.kitOne K (.ref (He.ga K "NotWritten")) (.ref (He.ga K c.1)) = some c.2 := exB_row (tx_exs T) 6 rfl
theorem tx_Clash {K : PySem.W.Frag} {mg : Str → Option Value} (T : TXT K mg) : ExcC K (He.ga K "Clash") ∧ PySem.W.kitOne K (.ref (He.ga K "Clash")) (.type "ValueError") = some true ∧ ∀ (j : Nat) (c : Str × Bool), ([("TossError", true), ("NotARow", false), ("OtherLength", false), ("OutOfBounds", false), ("NotPlain", false), ("NoThrow", false), ("NotWritten", false), ("Clash", true)] : List (Str × Bool))[j]? = some c → PySem.W.kitOne K (.ref (He.ga K "Clash")) (.ref (He.ga K c.1)) = some c.2 := exB_row (tx_exs T) 7 rfl
end TB


/-! ### rows as texts, as data: a text is a list of signs' numbers -/
namespace TB
open PySem PySem.Spec PyProof.Rows
def sgn (c : Nat) : Option Nat := if 48 ≤ c ∧ c ≤ 57 then some (c - 48) else if 97 ≤ c ∧ c ≤ 122 then some (c - 87) else none
def signsL : List Nat := [48, 49, 50, 51, 52, 53, 54, 55, 56, 57, 97, 98, 99, 100, 101, 102, 103, 104, 105, 106, 107, 108, 109, 110, 111, 112, 113, 114, 115, 116, 117, 118, 119, 120, 121, 122]
def figsL : List Nat := [48, 49, 50, 51, 52, 53, 54, 55, 56, 57]
theorem sgn_mem (c : Nat) : decide (c ∈ signsL) = (sgn c).isSome := by
  unfold sgn
  rw [Bool.eq_iff_iff, decide_eq_true_iff]
  unfold signsL
  by_cases h1 : 48 ≤ c ∧ c ≤ 57
  · rw [if_pos h1]
    simp
    omega
  · rw [if_neg h1]
    by_cases h2 : 97 ≤ c ∧ c ≤ 122
    · rw [if_pos h2]
      simp
      omega
    · rw [if_neg h2]
      simp
      omega
theorem figs_mem (c : Nat) : decide (c ∈ figsL) = (decide (48 ≤ c) && decide (c ≤ 57)) := by
  rw [Bool.eq_iff_iff, decide_eq_true_iff, Bool.and_eq_true, decide_eq_true_iff, decide_eq_true_iff]
  unfold figsL
  simp
  omega
theorem sgn_at {c k : Nat} (h : sgn c = some k) : k < 36 ∧ signsL = signsL.take k ++ c :: signsL.drop (k + 1) ∧ c ∉ signsL.take k := by
  have hc : (List.range 123).all (fun c => match sgn c with
    | some k => decide (k < 36 ∧ signsL = signsL.take k ++ c :: signsL.drop (k + 1) ∧ c ∉ signsL.take k)
    | none => true) = true := by decide +kernel
  have hl : c < 123 := by
    unfold sgn at h
    split at h
    · omega
    · split at h
      · omega
      · cases h
  have z := List.all_eq_true.mp hc c (List.mem_range.mpr hl)
  rw [h] at z
  exact of_decide_eq_true z
def sgnOf (k : Nat) : Nat := if k < 10 then 48 + k else 87 + k
theorem sgn_of {k : Nat} (h : k < 36) : sgn (sgnOf k) = some k ∧ signsL[k]? = some (sgnOf k) := by
  have hc : (List.range 36).all (fun k => decide (sgn (sgnOf k) = some k ∧ signsL[k]? = some (sgnOf k))) = true := by decide +kernel
  exact of_decide_eq_true (List.all_eq_true.mp hc k (List.mem_range.mpr h))
/-- the figures of a throw within brackets -/
def figsOf : List Nat → List Nat
  | 45 :: r => r
  | l => l
def valOf (t : List Nat) : Int := if t.head? = some 45 then -((NumText.digitsVal (figsOf t) : Nat) : Int) else ((NumText.digitsVal (figsOf t) : Nat) : Int)
def figB (t : List Nat) : Bool := decide (1 ≤ (figsOf t).length ∧ (figsOf t).length ≤ 7) && (figsOf t).all fun c => decide (48 ≤ c) && decide (c ≤ 57)
def numOk (t : List Nat) : Bool := figB t && (!decide ((figsOf t).head? = some 48) && (!decide (0 ≤ valOf t ∧ valOf t < 36) && decide (-1000000 ≤ valOf t ∧ valOf t ≤ 1000000)))
def numOf (t : List Nat) : Option Int := if numOk t = true then some (valOf t) else none
/-- the number, written as the program's str does -/
def strL (n : Int) : List Nat := if n < 0 then 45 :: TL.numL n.natAbs else TL.numL n.toNat
theorem numL_head : ∀ {n : Nat}, 0 < n → (TL.numL n).head? ≠ some 48 := by
  intro n
  induction n using Nat.strongRecOn with
  | ind n ih =>
    intro h
    rcases Nat.lt_or_ge n 10 with c | c
    · rw [TL.numL_lt c]
      intro e
      simp at e
      omega
    · rw [TL.numL_step c]
      have z := ih (n / 10) (by omega) (by omega)
      cases e : TL.numL (n / 10) with
      | nil => exact absurd e (TL.numL_ne _)
      | cons a r =>
        rw [e] at z
        exact z
theorem digits_snoc (l : List Nat) (d : Nat) : NumText.digitsVal (l ++ [d]) = NumText.digitsVal l * 10 + (d - 48) := by
  unfold NumText.digitsVal
  rw [List.foldl_append]
  rfl
theorem snoc_ind {α : Type} {P : List α → Prop} (h0 : P []) (hs : ∀ l d, P l → P (l ++ [d])) (l : List α) : P l := by
  have z : ∀ m : List α, P m.reverse := fun m => by
    induction m with
    | nil => exact h0
    | cons a r ih =>
      rw [List.reverse_cons]
      exact hs _ _ ih
  have := z l.reverse
  rwa [List.reverse_reverse] at this
theorem digits_lt (l : List Nat) : NumText.AllDigits l → NumText.digitsVal l < 10 ^ l.length := by
  refine snoc_ind (P := fun l => NumText.AllDigits l → NumText.digitsVal l < 10 ^ l.length) (fun _ => by decide) (fun l d ih h => ?_) l
  have := ih fun c hc => h c (List.mem_append_left _ hc)
  have hd := h d (by simp)
  rw [digits_snoc, List.length_append, List.length_singleton, Nat.pow_succ]
  omega
theorem numL_canon : ∀ (l : List Nat), NumText.AllDigits l → l ≠ [] → l.head? ≠ some 48 → TL.numL (NumText.digitsVal l) = l ∧ 0 < NumText.digitsVal l := by
  intro l
  refine snoc_ind (P := fun l => NumText.AllDigits l → l ≠ [] → l.head? ≠ some 48 → TL.numL (NumText.digitsVal l) = l ∧ 0 < NumText.digitsVal l) (fun _ h => absurd rfl h) (fun l d ih ha _ hh => ?_) l
  have hd := ha d (by simp)
  have hl : NumText.AllDigits l := fun c hc => ha c (List.mem_append_left _ hc)
  rw [digits_snoc]
  cases l with
  | nil =>
    have h48 : d ≠ 48 := fun e => hh (by rw [e]; rfl)
    have e : NumText.digitsVal [] * 10 + (d - 48) = d - 48 := by
      show 0 * 10 + (d - 48) = d - 48
      omega
    rw [e, TL.numL_lt (by omega)]
    refine ⟨?_, by omega⟩
    show [48 + (d - 48)] = [d]
    congr 1
    omega
  | cons a r =>
    obtain ⟨z1, z2⟩ := ih hl (by simp) hh
    rw [TL.numL_step (by omega), show (NumText.digitsVal (a :: r) * 10 + (d - 48)) / 10 = NumText.digitsVal (a :: r) by omega, z1]
    refine ⟨?_, by omega⟩
    congr 2
    omega
theorem figsOf_eq (t : List Nat) : figsOf t = if t.head? = some 45 then t.tail else t := by
  cases t with
  | nil => rfl
  | cons a r =>
    by_cases h : a = 45
    · subst h
      rfl
    · rw [if_neg (by simpa using h)]
      unfold figsOf
      split
      · rename_i e
        injection e with e1 e2
        exact absurd e1 h
      · rfl
theorem figB_iff {t : List Nat} : figB t = true ↔ 1 ≤ (figsOf t).length ∧ (figsOf t).length ≤ 7 ∧ NumText.AllDigits (figsOf t) := by
  unfold figB
  rw [Bool.and_eq_true, decide_eq_true_iff, List.all_eq_true]
  constructor
  · rintro ⟨⟨h1, h2⟩, h3⟩
    exact ⟨h1, h2, fun c hc => by simpa using h3 c hc⟩
  · rintro ⟨h1, h2, h3⟩
    exact ⟨⟨h1, h2⟩, fun c hc => by simpa using h3 c hc⟩
theorem split_text (t : List Nat) : (t.head? = some 45 ∧ t = 45 :: figsOf t) ∨ (t.head? ≠ some 45 ∧ t = figsOf t) := by
  rw [figsOf_eq]
  by_cases h : t.head? = some 45
  · left
    rw [if_pos h]
    refine ⟨h, ?_⟩
    cases t with
    | nil => cases h
    | cons a r =>
      simp at h
      rw [h]
      rfl
  · right
    rw [if_neg h]
    exact ⟨h, rfl⟩
/-- how the law looks at a number -/
theorem num_law {t : List Nat} (h : figB t = true) : numOk t = (decide (strL (valOf t) = t) && (!decide (0 ≤ valOf t ∧ valOf t ≤ 35) && decide (-1000000 ≤ valOf t ∧ valOf t ≤ 1000000))) := by
  obtain ⟨h1, h2, h3⟩ := figB_iff.mp h
  unfold numOk
  rw [h, Bool.true_and]
  have hne : figsOf t ≠ [] := fun e => by rw [e] at h1; simp at h1
  have e35 : decide (0 ≤ valOf t ∧ valOf t < 36) = decide (0 ≤ valOf t ∧ valOf t ≤ 35) := by
    rw [decide_eq_decide]
    omega
  rw [e35]
  by_cases hv : 0 ≤ valOf t ∧ valOf t ≤ 35
  · rw [decide_eq_true hv]
    simp
  · rw [decide_eq_false hv]
    have key : ((figsOf t).head? ≠ some 48) ↔ strL (valOf t) = t := by
      rcases split_text t with ⟨c1, c2⟩ | ⟨c1, c2⟩
      · have ev : valOf t = -((NumText.digitsVal (figsOf t) : Nat) : Int) := by
          unfold valOf
          rw [if_pos c1]
        rw [ev] at hv ⊢
        have p : 0 < NumText.digitsVal (figsOf t) := by omega
        have es : strL (-((NumText.digitsVal (figsOf t) : Nat) : Int)) = 45 :: TL.numL (NumText.digitsVal (figsOf t)) := by
          unfold strL
          rw [if_pos (by omega)]
          congr 2
          omega
        rw [es]
        constructor
        · intro hh
          rw [(numL_canon _ h3 hne hh).1]
          exact c2.symm
        · intro e hh
          rw [c2] at e
          injection e with _ e
          have e : TL.numL (NumText.digitsVal (figsOf t)) = figsOf t := by
            rw [← c2] at e
            exact e
          have z := numL_head p
          rw [e] at z
          exact z hh
      · have ev : valOf t = ((NumText.digitsVal (figsOf t) : Nat) : Int) := by
          unfold valOf
          rw [if_neg c1]
        rw [ev] at hv ⊢
        have p : 0 < NumText.digitsVal (figsOf t) := by omega
        have es : strL ((NumText.digitsVal (figsOf t) : Nat) : Int) = TL.numL (NumText.digitsVal (figsOf t)) := by
          unfold strL
          rw [if_neg (by omega)]
          congr 1
        rw [es]
        constructor
        · intro hh
          rw [(numL_canon _ h3 hne hh).1]
          exact c2.symm
        · intro e hh
          have z := numL_head p
          rw [e, c2] at z
          rw [← c2] at z hh
          exact z (by rw [c2]; rw [← c2]; exact hh)
    by_cases c : strL (valOf t) = t
    · rw [decide_eq_true c, decide_eq_false (key.mpr c)]
      simp
    · have hh : (figsOf t).head? = some 48 := Decidable.byContradiction fun z => c (key.mp z)
      rw [decide_eq_false c, decide_eq_true hh]
      simp
/-- a number's own text is read back -/
theorem num_back {n : Int} (h1 : -1000000 ≤ n) (h2 : n ≤ 1000000) (h3 : ¬ (0 ≤ n ∧ n < 36)) : numOf (strL n) = some n := by
  have hd : ∀ m : Nat, m ≤ 1000000 → (TL.numL m).length ≤ 7 := fun m hm => TL.numL_len (by decide) (by omega)
  have h45 : ∀ m : Nat, (TL.numL m).head? ≠ some 45 := fun m e => by
    have : (45 : Nat) ∈ TL.numL m := List.mem_of_mem_head? (by rw [e]; rfl)
    exact TL.numL_free (by omega) this
  have l1 : ∀ m : Nat, 1 ≤ (TL.numL m).length := fun m => List.length_pos_iff.mpr (TL.numL_ne m)
  by_cases c : n < 0
  · have e : strL n = 45 :: TL.numL n.natAbs := by
      unfold strL
      rw [if_pos c]
    have ef : figsOf (strL n) = TL.numL n.natAbs := by rw [e]; rfl
    have ev : valOf (strL n) = n := by
      unfold valOf
      rw [if_pos (by rw [e]; rfl), ef, TL.numL_val]
      omega
    unfold numOf
    rw [if_pos]
    · rw [ev]
    · unfold numOk
      rw [figB_iff.mpr (by rw [ef]; exact ⟨l1 _, hd _ (by omega), TL.numL_digits _⟩), ev, ef, decide_eq_false (numL_head (by omega)), decide_eq_false h3, decide_eq_true ⟨h1, h2⟩]
      rfl
  · have e : strL n = TL.numL n.toNat := by
      unfold strL
      rw [if_neg c]
    have ef : figsOf (strL n) = TL.numL n.toNat := by
      rw [figsOf_eq, e, if_neg (h45 _)]
    have ev : valOf (strL n) = n := by
      unfold valOf
      rw [if_neg (by rw [e]; exact h45 _), ef, TL.numL_val]
      omega
    unfold numOf
    rw [if_pos]
    · rw [ev]
    · unfold numOk
      rw [figB_iff.mpr (by rw [ef]; exact ⟨l1 _, hd _ (by omega), TL.numL_digits _⟩), ev, ef, decide_eq_false (numL_head (by omega)), decide_eq_false h3, decide_eq_true ⟨h1, h2⟩]
      rfl
/-- the row that a text writes, sign by sign -/
def parse : Nat → List Int → List Nat → Option (List Int)
  | _, acc, [] => some acc
  | 0, _, _ :: _ => none
  | n + 1, acc, c :: r => match sgn c with
    | some k => parse n (acc ++ [(k : Int)]) r
    | none => if c = 40 then (match TL.par [41] [] r with
      | none => none
      | some pq => match numOf pq.1 with
        | none => none
        | some x => parse n (acc ++ [x]) pq.2) else none
def readOf (t : List Nat) : Option (List Int) := match parse t.length [] t with
  | some row => if 1 ≤ row.length ∧ row.length ≤ 60 then some row else none
  | none => none
def oneText (n : Int) : List Nat := if 0 ≤ n ∧ n < 36 then [sgnOf n.toNat] else 40 :: (strL n ++ [41])
def textOf (row : List Int) : List Nat := row.flatMap oneText
theorem parse_cons (n : Nat) (acc : List Int) (c : Nat) (r : List Nat) : parse (n + 1) acc (c :: r) = match sgn c with
    | some k => parse n (acc ++ [(k : Int)]) r
    | none => if c = 40 then (match TL.par [41] [] r with
      | none => none
      | some pq => match numOf pq.1 with
        | none => none
        | some x => parse n (acc ++ [x]) pq.2) else none := rfl
theorem parse_nil (n : Nat) (acc : List Int) : parse n acc [] = some acc := by cases n <;> rfl
theorem parse_text : ∀ (row : List Int) (acc : List Int) (n : Nat), row.length ≤ n → (∀ x ∈ row, -1000000 ≤ x ∧ x ≤ 1000000) → parse n acc (textOf row) = some (acc ++ row)
  | [], acc, n, _, _ => by
    rw [List.append_nil]
    exact parse_nil n acc
  | x :: row, acc, n, hn, hb => by
    cases n with
    | zero => simp at hn
    | succ n =>
      have ih := fun acc => parse_text row acc n (by simp at hn; omega) fun y hy => hb y (List.mem_cons_of_mem _ hy)
      have e : textOf (x :: row) = oneText x ++ textOf row := rfl
      have hx := hb x List.mem_cons_self
      have ea : acc ++ x :: row = (acc ++ [x]) ++ row := by simp
      rw [e, ea, ← ih (acc ++ [x])]
      unfold oneText
      by_cases c : 0 ≤ x ∧ x < 36
      · rw [if_pos c]
        show parse (n + 1) acc (sgnOf x.toNat :: textOf row) = _
        have z := (sgn_of (k := x.toNat) (by omega)).1
        rw [parse_cons, z]
        show parse n (acc ++ [((x.toNat : Nat) : Int)]) _ = _
        rw [show ((x.toNat : Nat) : Int) = x by omega]
      · rw [if_neg c]
        have hfree : (41 : Nat) ∉ strL x := by
          unfold strL
          split
          · intro h
            rcases List.mem_cons.mp h with h | h
            · omega
            · exact TL.numL_free (by omega) h
          · exact fun h => TL.numL_free (by omega) h
        have hp : TL.par [41] [] (strL x ++ ([41] ++ textOf row)) = some (strL x, textOf row) := SX.par_head (sep := []) _ hfree
        show parse (n + 1) acc (40 :: ((strL x ++ [41]) ++ textOf row)) = _
        rw [List.append_assoc]
        rw [parse_cons]
        dsimp only [List.append_assoc, List.singleton_append] at hp ⊢
        rw [hp, show sgn 40 = none from rfl]
        dsimp only
        rw [if_pos rfl, num_back hx.1 hx.2 c]
theorem one_len {x : Int} (h1 : -1000000 ≤ x) (h2 : x ≤ 1000000) : 1 ≤ (oneText x).length ∧ (oneText x).length ≤ 10 := by
  have hd : ∀ m : Nat, m ≤ 1000000 → (TL.numL m).length ≤ 7 := fun m hm => TL.numL_len (by decide) (by omega)
  unfold oneText
  split
  · simp
  · unfold strL
    have a := hd x.natAbs (by omega)
    have b := hd x.toNat (by omega)
    split <;> simp <;> omega
theorem text_len : ∀ {row : List Int}, (∀ x ∈ row, -1000000 ≤ x ∧ x ≤ 1000000) → row.length ≤ (textOf row).length ∧ (textOf row).length ≤ 10 * row.length
  | [], _ => ⟨Nat.le_refl _, Nat.le_refl _⟩
  | x :: row, h => by
    have ih := text_len (row := row) fun y hy => h y (List.mem_cons_of_mem _ hy)
    have a := one_len (h x List.mem_cons_self).1 (h x List.mem_cons_self).2
    show (x :: row).length ≤ (oneText x ++ textOf row).length ∧ (oneText x ++ textOf row).length ≤ _
    rw [List.length_append, List.length_cons]
    omega
theorem read_text {row : List Int} (h : ∀ x ∈ row, -1000000 ≤ x ∧ x ≤ 1000000) (h1 : 1 ≤ row.length) (h2 : row.length ≤ 60) : readOf (textOf row) = some row := by
  unfold readOf
  rw [parse_text row [] _ (text_len h).1 h]
  show (if 1 ≤ row.length ∧ row.length ≤ 60 then some row else none) = _
  rw [if_pos ⟨h1, h2⟩]
end TB

/-! ### texts: rules and readings -/
namespace TB
open PySem PySem.Spec PyProof.Rows L2 Evl SX
open Builtin.Str (occurrences strSub subAt)
section
variable {X : Cx}
theorem foldl_rep (c : Nat) : ∀ (n : Nat) (a : Array Nat), (List.replicate n (#[c] : Array Nat)).foldl (· ++ ·) a = (a.toList ++ List.replicate n c).toArray
  | 0, a => by simp
  | n + 1, a => by
    rw [List.replicate_succ, List.foldl_cons, foldl_rep c n]
    simp [List.replicate_succ]
def rRepS : R2 := fun x y H Q => ∃ (c n : Nat), x = .str (S [c]) ∧ y = .int (n : Int) ∧ 2 ≤ n ∧ n ≤ 1000 ∧ Q (.str (S (List.replicate n c))) H
theorem op_repS : OpR X (binaryOp .Mult) rRepS := by
  intro pins s σ H x y v u Q I rx ry h
  obtain ⟨c, n, rfl, rfl, h2, h3, q⟩ := h
  obtain ⟨t, rfl⟩ := rx
  obtain ⟨t2, rfl⟩ := ry
  have e1 : ¬ ((n : Int) < 1) := by omega
  have e2 : ((n : Int) == 1 || (S [c]).length == 0) = false := by
    rw [Bool.or_eq_false_iff]
    exact ⟨by simp; omega, rfl⟩
  have hr : (decide ((n : Int) < -(2 ^ 63 : Int)) || decide ((n : Int) ≥ 2 ^ 63)) = false := by
    rw [decide_eq_false (by omega), decide_eq_false (by omega)]
    rfl
  have hn : ((List.replicate ((n : Int)).toNat (S [c]).cps).foldl (· ++ ·) #[]) = (List.replicate n c).toArray := by
    rw [Int.toNat_natCast]
    exact foldl_rep c n #[]
  refine PySem.P.mul_str hr (fun _ _ => ?_) (fun _ _ => ?_) ?_
  · have hl : ((S [c]).length : Int) = 1 := rfl
    rw [hl]
    intro hgt
    have : (1 : Int) ≤ (2 ^ 63 - 1) / (n : Int) := by
      rw [Int.le_ediv_iff_mul_le (by omega)]
      omega
    omega
  · have hl : (S [c]).length * ((n : Int)).toNat = n := by
      rw [Int.toNat_natCast]
      show 1 * n = n
      omega
    rw [hl]
    show decide (n > sizeLine) = false
    rw [sizeLine_eq]
    exact decide_eq_false (by omega)
  · rw [if_neg e1, if_neg (by rw [e2]; exact Bool.false_ne_true), hn]
    refine ⟨?_, .str _, H, I.tok _, ⟨_, rfl⟩, q⟩
    show (S (List.replicate n c)).length ≤ sizeLine
    rw [S_len, List.length_replicate, sizeLine_eq]
    omega
end
/-! a sign in a text: what stands ahead of it and behind it -/
theorem par_some {c : Nat} {a p q : List Nat} (h : TL.par [c] [] a = some (p, q)) : a = p ++ c :: q ∧ c ∉ p := by
  by_cases hc : c ∈ a
  · obtain ⟨p2, q2, e, hn⟩ := List.eq_append_cons_of_mem hc
    have z := par_head (sep := []) (c := c) q2 hn
    rw [show p2 ++ (c :: [] ++ q2) = a from e.symm, h] at z
    injection z with z
    injection z with z1 z2
    subst z1 z2
    exact ⟨e, hn⟩
  · rw [par_head_none hc] at h
    cases h
theorem par_none {c : Nat} {a : List Nat} (h : TL.par [c] [] a = none) : c ∉ a := fun hc => by
  obtain ⟨p2, q2, e, hn⟩ := List.eq_append_cons_of_mem hc
  have z := par_head (sep := []) (c := c) q2 hn
  rw [show p2 ++ (c :: [] ++ q2) = a from e.symm, h] at z
  cases z
theorem par_of {c : Nat} {p q : List Nat} (h : c ∉ p) : TL.par [c] [] (p ++ c :: q) = some (p, q) := par_head (sep := []) q h
theorem occ_S {c : Nat} {a p q : List Nat} (h : TL.par [c] [] a = some (p, q)) : ∃ rest, occurrences (S a) (S [c]) 0 (S a).length 1 = p.length :: rest := by
  have e := partition_some (by simp) h
  unfold Txt.partition at e
  cases ho : occurrences (S a) (S [c]) 0 (S a).length 1 with
  | nil =>
    rw [ho] at e
    have e2 : Str.empty = S [c] := congrArg (fun x => x.2.1) e
    have := congrArg Str.length e2
    cases this
  | cons i rest =>
    rw [ho] at e
    have e1 : strSub (S a) 0 i = S p := congrArg (fun x => x.1) e
    have hi := (PySem.StrLaws.occ_spec (S a) (S [c]) 0 (S a).length 1 i (by rw [ho]; exact List.mem_cons_self)).1
    rw [S_len, S_len] at hi
    simp at hi
    have h3 : (strSub (S a) 0 i).length = i := by
      show ((S a).cps.extract 0 i).size = i
      simp
      omega
    have h4 : i = p.length := by
      rw [← h3, e1]
      exact S_len p
    exact ⟨rest, by rw [h4]⟩
theorem find_some {c : Nat} {a p q : List Nat} (h : TL.par [c] [] a = some (p, q)) : Txt.find (S a) (S [c]) = (p.length : Int) := by
  obtain ⟨rest, e⟩ := occ_S h
  unfold Txt.find
  rw [e]
theorem find_none {c : Nat} {a : List Nat} (h : TL.par [c] [] a = none) : Txt.find (S a) (S [c]) = -1 := by
  have hn := par_none h
  have z := in_one a c
  rw [decide_eq_false hn, Bool.not_eq_false', List.isEmpty_iff] at z
  unfold Txt.find
  rw [z]
theorem starts_S (t : List Nat) (c : Nat) : Txt.startswith (S t) (S [c]) = decide (t.head? = some c) := by
  unfold Txt.startswith subAt
  cases t with
  | nil => rfl
  | cons a r =>
    rw [S_len, S_len, Bool.eq_iff_iff]
    simp
theorem signs_S : ("0123456789abcdefghijklmnopqrstuvwxyz" : Str) = S signsL := by decide +kernel
theorem figs_S : ("0123456789" : Str) = S figsL := by decide +kernel
section
variable {K : PySem.W.Frag} {σ : L2.St} {H H' : Hp} {t1 t2 te tl ta : TE} {tt : TT} {tz : TS} {D : Ends}
/-- [e for c in a text] -/
theorem el_lcS {l : List Nat} {j : Nat} {vs : List Nat} (g : Nat → V) (h : Ev tl σ H (.str (S l))) (hz : l.length ≤ 40000) (hw : ∀ x, wipe ((wipe σ vs).set j (some x)) vs = wipe σ vs)
    (he : ∀ (c : Nat) H1, Ex H H1 → c ∈ l → Ev te ((wipe σ vs).set j (some (.str (S [c])))) H1 (g c)) : EvL (tLc (iStr tl) (gName j) tYes te vs) σ H (l.map g) := fun H0 e Q q =>
  h H0 e _ fun H1 e1 => ⟨S l, rfl, fun Dl hD => by
    refine lc_it (walk_str (z := S l)) (fun n H' => Ex H1 H' ∧ H' Dl = some (.lst ((l.take n).map g))) ⟨Ex.new hD, upd_same⟩ (fun n H' _ p => trivial) (fun n x H2 H3 hn p y => ?_) (fun H' p => ?_)
    · obtain ⟨rfl, c, hc, rfl⟩ := y
      have hc : l[n]? = some c := by simpa using hc
      have hm := List.mem_of_getElem? hc
      refine ⟨hw _, ?_⟩
      show te _ _ _
      refine he c H3 ((e.trans e1).trans p.1) hm H3 (Ex.refl H3) _ fun H4 e4 => ⟨_, e4 _ _ p.2, sz_lt (by rw [List.length_map, List.length_take]; omega), ?_, ?_⟩
      · exact Ex.mut (p.1.trans e4) hD
      · rw [upd_same, List.take_add_one, hc, List.map_append]
        rfl
    · obtain ⟨p1, p2⟩ := p
      rw [show (S l).cps.size = l.length by simp, List.take_length] at p2
      exact q Dl _ (fresh_back e1 hD) (e1.trans p1) p2⟩
theorem rv_inS {c : Nat} {l : List Nat} : RV (fun x y H Q => ∃ (c : Nat) (z : Str), x = .str ⟨#[c]⟩ ∧ y = .str z ∧ Q (.bl (decide (c ∈ z.cps.toList))) H) (.str (S [c])) (.str (S l)) H (.bl (decide (c ∈ l))) := fun H1 e Q q => ⟨c, S l, rfl, rfl, q H1 (Ex.refl H1)⟩
theorem rv_notInS {c : Nat} {l : List Nat} : RV (fun x y H Q => ∃ (c : Nat) (z : Str), x = .str ⟨#[c]⟩ ∧ y = .str z ∧ Q (.bl (!decide (c ∈ z.cps.toList))) H) (.str (S [c])) (.str (S l)) H (.bl (!decide (c ∈ l))) := fun H1 e Q q => ⟨c, S l, rfl, rfl, q H1 (Ex.refl H1)⟩
theorem rv_addS {a b : List Nat} (h : a.length + b.length ≤ 100000) : RV (fun x y H Q => ∃ i j, x = .str i ∧ y = .str j ∧ i.length + j.length ≤ sizeLine ∧ Q (.str (i ++ j)) H) (.str (S a)) (.str (S b)) H (.str (S (a ++ b))) := fun H1 e Q q => ⟨S a, S b, rfl, rfl, by
  rw [S_len, S_len]
  exact sz_of h, by
  rw [S_cat]
  exact q H1 (Ex.refl H1)⟩
theorem rv_ixS {l : List Nat} {i : Int} {c : Nat} (hl : l.length ≤ 100000) (h : atI l i = some c) : RV rIxS (.str (S l)) (.int i) H (.str (S [c])) := fun H1 e Q q => ⟨S l, i, c, rfl, rfl, by
  rw [S_len]
  exact sz_of hl, by simpa using h, q H1 (Ex.refl H1)⟩
theorem rc_lenS {l : List Nat} (hl : l.length ≤ 100000) : RC (fun xs H Q => ∃ z : Str, xs = [.str z] ∧ z.length ≤ sizeLine ∧ Q (.int z.length) H) [.str (S l)] H (.int (l.length : Int)) := fun H1 e Q q => ⟨S l, rfl, by
  rw [S_len]
  exact sz_of hl, by
  rw [S_len]
  exact q H1 (Ex.refl H1)⟩
theorem ev_slS {tlo thi : TO} {l m : List Nat} {lo hi : Option Int} (h : Ev te σ H (.str (S l))) (h1 : EvO tlo σ H lo) (h2 : EvO thi σ H hi) (hz : l.length ≤ 100000) (e : Txt.slice (S l) lo hi = S m) : Ev (tSl C8.rSlX te tlo thi) σ H (.str (S m)) := fun H1 e1 Q q =>
  h H1 e1 _ fun H2 e2 => h1 H2 (e1.trans e2) _ fun H3 e3 => h2 H3 ((e1.trans e2).trans e3) _ fun H4 e4 => ⟨S l, rfl, by
    rw [S_len]
    exact sz_of hz, by
    rw [e]
    exact q H4 ((e2.trans e3).trans e4)⟩
theorem ev_slFrom {l : List Nat} {i : Int} (h : Ev te σ H (.str (S l))) (h1 : Ev t1 σ H (.int i)) (h0 : 0 ≤ i) (hz : l.length ≤ 100000) : Ev (tSl C8.rSlX te (tPart t1) tNoPart) σ H (.str (S (l.drop i.toNat))) := ev_slS h (eo_some h1) eo_none hz (slice_from h0)
theorem ev_slTo {l : List Nat} {i : Int} (h : Ev te σ H (.str (S l))) (h1 : Ev t1 σ H (.int i)) (h0 : 0 ≤ i) (hz : l.length ≤ 100000) : Ev (tSl C8.rSlX te tNoPart (tPart t1)) σ H (.str (S (l.take i.toNat))) := ev_slS h eo_none (eo_some h1) hz (slice_to h0)
theorem str_S (n : Int) : Str.ofString (toString n) = S (strL n) := by
  cases n with
  | ofNat m =>
    have e : strL (Int.ofNat m) = TL.numL m := by
      unfold strL
      rw [if_neg (by show ¬ ((m : Int) < 0); omega)]
      rfl
    rw [e]
    exact num_S m
  | negSucc m =>
    have e : strL (Int.negSucc m) = 45 :: TL.numL (m + 1) := by
      unfold strL
      rw [if_pos (Int.negSucc_lt_zero m)]
      rfl
    rw [e]
    refine TL.ext_tl ?_
    rw [TL.tl_ofString]
    have z := TL.tl_num (m + 1)
    rw [TL.tl_ofString] at z
    show ("-" ++ toString (((m + 1 : Nat) : Int)) : String).toList.map Char.toNat = 45 :: TL.numL (m + 1)
    rw [String.toList_append, List.map_append, z]
    rfl
theorem rc_strI {n : Int} (h : n.natAbs < 2 ^ 64) : RC (fun xs H Q => ∃ i, xs = [.int i] ∧ i.natAbs.log2 < 1920 ∧ Q (.str (Str.ofString (toString i))) H) [.int n] H (.str (S (strL n))) := fun H1 e Q q => ⟨n, rfl, by
  by_cases c : n.natAbs = 0
  · rw [c]
    decide
  · rw [Nat.log2_lt c]
    exact Nat.lt_of_lt_of_le h (Nat.pow_le_pow_right (by decide) (by decide)), by
  rw [str_S]
  exact q H1 (Ex.refl H1)⟩
theorem rc_intS {t : List Nat} (h : figB t = true) : RC (fun xs H Q => ∃ a n, xs = [.str a] ∧ PySem.intText? a = some n ∧ a.length ≤ 640 ∧ Q (.int n) H) [.str (S t)] H (.int (valOf t)) := fun H1 e Q q => by
  obtain ⟨h1, h2, h3⟩ := figB_iff.mp h
  have hne : figsOf t ≠ [] := fun e => by rw [e] at h1; simp at h1
  have hl : t.length ≤ 8 := by
    have z := figsOf_eq t
    split at z
    · rw [z, List.length_tail] at h2
      omega
    · rw [z] at h2
      omega
  refine ⟨S t, valOf t, rfl, ?_, by rw [S_len]; omega, q H1 (Ex.refl H1)⟩
  unfold valOf
  rcases split_text t with ⟨c1, c2⟩ | ⟨c1, c2⟩
  · rw [if_pos c1]
    exact PySem.intText_neg (x := S t) (cs := figsOf t) c2 h3 hne (by rw [S_len]; omega)
  · rw [if_neg c1]
    rw [← c2] at h3 hne ⊢
    exact PySem.intText_digits (x := S t) h3 hne (by rw [S_len]; omega)
theorem ev_starts {l : List Nat} {c : Nat} (h1 : Ev t1 σ H (.str (S l))) (h2 : Ev t2 σ H (.str (S [c]))) : Ev (tM1 (fun x xs H Q => ∃ a b, x = .str a ∧ xs = [.str b] ∧ Q (.bl (Txt.startswith a b)) H) t1 t2) σ H (.bl (decide (l.head? = some c))) := fun H1 e Q q =>
  h1 H1 e _ fun H2 e2 => ⟨⟨_, rfl⟩, h2 H2 (e.trans e2) _ fun H3 e3 => ⟨S l, S [c], rfl, rfl, by
    rw [starts_S]
    exact q H3 (e2.trans e3)⟩⟩
theorem ev_sindex {l p r : List Nat} {c : Nat} (h1 : Ev t1 σ H (.str (S l))) (h2 : Ev t2 σ H (.str (S [c]))) (h : TL.par [c] [] l = some (p, r)) : Ev (tM1 (fun x xs H Q => ∃ a b i rest, x = .str a ∧ xs = [.str b] ∧ Builtin.Str.occurrences a b 0 a.length 1 = i :: rest ∧ Q (.int (i : Nat)) H) t1 t2) σ H (.int (p.length : Int)) := fun H1 e Q q =>
  h1 H1 e _ fun H2 e2 => ⟨⟨_, rfl⟩, h2 H2 (e.trans e2) _ fun H3 e3 => by
    obtain ⟨rest, eo⟩ := occ_S h
    exact ⟨S l, S [c], p.length, rest, rfl, rfl, eo, q H3 (e2.trans e3)⟩⟩
theorem ev_sfind {l : List Nat} {c : Nat} {i : Int} (h1 : Ev t1 σ H (.str (S l))) (h2 : Ev t2 σ H (.str (S [c]))) (h : Txt.find (S l) (S [c]) = i) : Ev (tM1 (fun x xs H Q => ∃ a b, x = .str a ∧ xs = [.str b] ∧ Q (.int (Txt.find a b)) H) t1 t2) σ H (.int i) := fun H1 e Q q =>
  h1 H1 e _ fun H2 e2 => ⟨⟨_, rfl⟩, h2 H2 (e.trans e2) _ fun H3 e3 => ⟨S l, S [c], rfl, rfl, by
    rw [h]
    exact q H3 (e2.trans e3)⟩⟩
theorem s_augS {i : Nat} {a b : List Nat} (hx : σ[i]? = some (some (.str (S a)))) (h : Ev te σ H (.str (S b))) (hz : a.length + b.length ≤ 100000) (k : ∀ H1, Ex H H1 → D.nx (σ.set i (some (.str (S (a ++ b))))) H1) :
    tAug i te (fun x y H Q => ∃ i j, x = .str i ∧ y = .str j ∧ i.length + j.length ≤ sizeLine ∧ Q (.str (i ++ j)) H) D σ H := ⟨_, hx, h H (Ex.refl H) _ fun H1 e1 => ⟨S a, S b, rfl, rfl, by
    rw [S_len, S_len]
    exact sz_of hz, by
    rw [S_cat]
    exact k H1 e1⟩⟩
/-- head, bracket, tail = text.partition(sign) -/
theorem q_part {n i j m : Nat} {c : Nat} {l p1 p2 p3 : List Nat} (h : Ev t1 σ H (.str (S l))) (h2 : Ev t2 σ H (.str (S [c]))) (hz : l.length ≤ 100000) (e : Txt.partition (S l) (S [c]) = (S p1, S p2, S p3)) (hn : n = 3)
    (k : ∀ H1, Ex H H1 → tz D (((σ.set i (some (.str (S p1)))).set j (some (.str (S p2)))).set m (some (.str (S p3)))) H1) :
    tSeq (tAsg (tM1 (fun x xs H Q => ∃ a b, x = .str a ∧ xs = [.str b] ∧ (b.length == 0) = false ∧ a.length ≤ sizeLine ∧ ∀ p, H p = none → Q (.ref p) (upd H p (.tup [.str (Txt.partition a b).1, .str (Txt.partition a b).2.1, .str (Txt.partition a b).2.2]))) t1 t2) (gTup K n (gCons (gName i) (gCons (gName j) (gCons (gName m) gNil))))) tz D σ H :=
  h H (Ex.refl H) _ fun H1 e1 => ⟨⟨_, rfl⟩, h2 H1 e1 _ fun H2 e2 => ⟨S l, S [c], rfl, rfl, rfl, by
    rw [S_len]
    exact sz_of hz, fun p hp => by
    rw [e]
    refine ⟨p, _, rfl, st_of upd_same, hn.symm, _, _, rfl, _, _, rfl, _, _, rfl, rfl, ?_⟩
    exact k _ ((e1.trans e2).trans (Ex.new hp))⟩⟩
/-- xs.append(a call) -/
theorem q_appC {sp : Sp} {dvs vs xs : List V} {E : XK} {l : Addr} {ts : TA} (hl : H l = some (.lst xs)) (ha : Ev ta σ H (.ref l)) (h : EvA ts σ H vs)
    (k : ∀ H1, Ex H H1 → sp (vs ++ dvs) H1 (fun v H2 => rAppend (.ref l) [v] H2 fun _ H3 => tz D σ H3) E) : tSeq (tDrop (tBM K "list" rAppend ta (tCons (tCall sp dvs E ts) tNil))) tz D σ H :=
  ha H (Ex.refl H) _ fun H1 e1 => ⟨Or.inl ⟨rfl, xs, sq_of (e1 l _ hl)⟩, h H1 e1 _ fun H2 e2 => k H2 (e1.trans e2)⟩
def isS : V → Bool
  | .str _ => true
  | _ => false
theorem isi_str {v : V} (h : Kd H v) : RC (rIsi K) [v, .ty "str"] H (.bl (isS v)) := fun H1 e Q q => by
  have h1 := h.mono e
  cases h1 with
  | non => exact ⟨_, _, _, _, false, rfl, .ty _, .base .non, kit_ty (by decide +kernel), q H1 (Ex.refl H1)⟩
  | bl b => exact ⟨_, _, _, _, false, rfl, .ty _, .base (.bl b), kit_ty (by decide +kernel), q H1 (Ex.refl H1)⟩
  | int i => exact ⟨_, _, _, _, false, rfl, .ty _, .base (.int i), kit_ty (by decide +kernel), q H1 (Ex.refl H1)⟩
  | str z => exact ⟨_, _, _, _, true, rfl, .ty _, .base (.str z), kit_ty (by decide +kernel), q H1 (Ex.refl H1)⟩
  | lst z1 => exact ⟨_, _, _, _, false, rfl, .ty _, .base (.lst z1), kit_ty (by decide +kernel), q H1 (Ex.refl H1)⟩
  | tup z1 => exact ⟨_, _, _, _, false, rfl, .ty _, .base (.tup z1), kit_ty (by decide +kernel), q H1 (Ex.refl H1)⟩
end
theorem x_minus : (Str.ofString "-") = S [45] := by decide +kernel
theorem x_open : (Str.ofString "(") = S [40] := by decide +kernel
theorem x_close : (Str.ofString ")") = S [41] := by decide +kernel
theorem x_zero : (Str.ofString "0") = S [48] := by decide +kernel
theorem x_empty : (Str.ofString "") = S [] := by decide +kernel
theorem dec_S {a b : List Nat} : decide (V.str (S a) = V.str (S b)) = decide (a = b) := by
  rw [decide_eq_decide]
  constructor
  · intro h
    injection h with h
    exact S_inj h
  · intro h
    rw [h]
end TB

/-! ### rows: is_whole, within, check_row, Clash -/
namespace TB
open PySem PySem.Spec PyProof.Rows L2 Evl
def inB (v : V) (lo hi : Int) : Bool := match v with
  | .int i => decide (lo ≤ i) && decide (i ≤ hi)
  | _ => false
def sp_is_whole : Sp := fun vs H Q E => ∃ v, vs = [v] ∧ Kd H v ∧ RetV (.bl (isI v)) H Q
def sp_within : Sp := fun vs H Q E => ∃ v lo hi, vs = [v, .int lo, .int hi] ∧ Kd H v ∧ RetV (.bl (inB v lo hi)) H Q
theorem sv_is_whole {H : Hp} {v : V} (hk : Kd H v) : SpV sp_is_whole [v] H (.bl (isI v)) := spv_of fun H1 e Q E k => ⟨v, rfl, hk.mono e, k⟩
theorem sv_within {H : Hp} {v : V} {lo hi : Int} (hk : Kd H v) : SpV sp_within [v, .int lo, .int hi] H (.bl (inB v lo hi)) := spv_of fun H1 e Q E k => ⟨v, lo, hi, rfl, hk.mono e, k⟩
theorem sc_is_whole : FnScope ["number"] ["number"] (defScope s_is_whole) := ⟨rfl, rfl, rfl, by decide +kernel, rfl, by decide +kernel, by decide +kernel⟩
theorem ok_is_whole {P : Program} {w : World} {K : PySem.W.Frag} {mg : Str → Option Value} {base : Heap} (T : TXT K mg) : OK P w K mg base "is_whole" ["number"] 1 (sp_is_whole) := by
  obtain ⟨fd, F⟩ := T.def_ 1
  refine ⟨_, fd, T.glo 0, F.kp, F.bindsN (fun _ _ _ _ _ _ us hl => match us, hl with | [_], _ => rfl), F.ok sc_is_whole (fun vs H Q E h => ?_) (fun cdv A outer s H vs Q E hr h => ?_), F.bindsA (fun _ _ _ _ _ _ us hl => match us, hl with | [_], _ => rfl)⟩
  · first | (obtain ⟨rfl, _⟩ := h; rfl) | (obtain ⟨_, rfl, _⟩ := h; rfl) | (obtain ⟨_, _, rfl, _⟩ := h; rfl) | (obtain ⟨_, _, _, rfl, _⟩ := h; rfl) | (obtain ⟨_, _, _, _, rfl, _⟩ := h; rfl) | (obtain ⟨_, _, _, _, _, rfl, _⟩ := h; rfl) | (obtain ⟨_, _, _, _, _, _, rfl, _⟩ := h; rfl) | (obtain ⟨_, _, _, _, _, _, _, rfl, _⟩ := h; rfl) | (obtain ⟨_, _, _, _, _, _, _, _, rfl, _⟩ := h; rfl)
  · replace F : FunD K "is_whole" "is_whole" (defArgs s_is_whole) (defBody s_is_whole) (defScope s_is_whole) [] [] (He.ga K "is_whole") fd := F
    refine ⟨_, (pss_one (ps_ret (pe_and (pe_callB (id := "isinstance") (k_isi K) (by rfl) (T.free 32) (by decide +kernel) (pa_cons (pv 0) (pa_cons (pe_ty (T := "int") (T.free 31) (by decide +kernel)) pa_nil))) (pe_one (pe_not (pe_callB (id := "isinstance") (k_isi K) (by rfl) (T.free 32) (by decide +kernel) (pa_cons (pv 0) (pa_cons (pe_ty (T := "bool") (T.free 30) (by decide +kernel)) pa_nil)))))))), ?_⟩
    obtain ⟨v, rfl, hk, q⟩ := h
    dsimp only [cxOf, L2.start, List.map_cons, List.map_nil, List.length_cons, List.length_nil, Nat.reduceAdd, Nat.reduceSub, List.replicate_succ, List.replicate_zero, List.cons_append, List.nil_append, Nat.zero_add, List.reduceReplicate, List.map]
    refine s_ret ?_ q
    apply ev_is
    · (repeat' (first | with_reducible exact ev_c | ((with_reducible show Ev (tVar _) _ _ _); exact ev_var rfl) | with_reducible exact ea_nil | with_reducible exact eo_none | with_reducible refine' ea_cons ?_ ?_ | with_reducible refine' eo_some ?_ | with_reducible refine' ev_and2 ?_ ?_ | with_reducible refine' ev_or2 ?_ ?_ | with_reducible refine' ev_notV ?_ | with_reducible exact ru_I | with_reducible refine' ev_un ?_ ?_ | with_reducible exact rv_I0 | with_reducible exact rv_isN | with_reducible exact rv_notN | with_reducible refine' rv_I ?_ | with_reducible refine' rv_eq ?_ | with_reducible refine' rv_ne ?_ | with_reducible refine' ev_op ?_ ?_ ?_ | with_reducible refine' ev_chain2 ?_ ?_ ?_ ?_ ?_ | with_reducible refine' et_B ?_ | with_reducible refine' et_test ?_ | with_reducible refine' et_and2 ?_ ?_ | with_reducible refine' et_or2 ?_ ?_ | with_reducible refine' et_not ?_ | with_reducible refine' ev_call ?_ ?_ | with_reducible refine' ev_callS ?_ ?_ | with_reducible refine' ev_cb ?_ ?_ | with_reducible exact isi_bool (by assumption) | with_reducible exact isi_int (by assumption) | with_reducible exact isi_list (by assumption) | with_reducible exact rc_len (by assumption) | with_reducible exact rc_sum (by assumption) | with_reducible exact rc_abs | with_reducible exact isi_listL (by assumption) | with_reducible exact isi_intI | with_reducible exact isi_boolI | with_reducible exact rc_lenT (by assumption) | with_reducible exact isi_tup (by assumption) | with_reducible exact rv_eqL (by assumption) (by assumption) | with_reducible exact rv_neL (by assumption) (by assumption) | with_reducible exact rv_neT (by assumption) (by assumption) | with_reducible exact rv_ixL (by assumption) (by assumption) | with_reducible exact rv_ixT (by assumption) (by assumption) | with_reducible refine' ev_din ?_ ?_ (by assumption) | with_reducible refine' ev_dnotin ?_ ?_ (by assumption) | with_reducible refine' ev_dget ?_ ?_ (by assumption) (by assumption) | ((with_reducible show SpV _ _ _ _); assumption) | ((with_reducible show RV _ _ _ _ _); assumption) | ((with_reducible show RC _ _ _ _); assumption) | ((with_reducible show CDiv _ _); exact ⟨by omega, by omega⟩) | ((with_reducible show CMul _ _); first | exact .inl ⟨by omega, by omega⟩ | exact .inr ⟨by omega, by omega⟩) | ((with_reducible show CPow _ _); exact ⟨by omega, by omega, by first | decide | assumption | omega⟩) | ((with_reducible show (0 : Int) < _); omega) | ((with_reducible show (0 : Int) ≤ _); omega) | ((with_reducible show scal _ _ = true); rfl)))
    · cases v <;> rfl

theorem sc_within : FnScope ["number", "low", "high"] ["number", "low", "high"] (defScope s_within) := ⟨rfl, rfl, rfl, by decide +kernel, rfl, by decide +kernel, by decide +kernel⟩
theorem ok_within {P : Program} {w : World} {K : PySem.W.Frag} {mg : Str → Option Value} {base : Heap} (T : TXT K mg) : OK P w K mg base "within" ["number", "low", "high"] 2 (sp_within) := by
  have O_is_whole := ok_is_whole (P := P) (w := w) (base := base) T
  obtain ⟨fd, F⟩ := T.def_ 2
  refine ⟨_, fd, T.glo 1, F.kp, F.bindsN (fun _ _ _ _ _ _ us hl => match us, hl with | [_, _, _], _ => rfl), F.ok sc_within (fun vs H Q E h => ?_) (fun cdv A outer s H vs Q E hr h => ?_), F.bindsA (fun _ _ _ _ _ _ us hl => match us, hl with | [_, _, _], _ => rfl)⟩
  · first | (obtain ⟨rfl, _⟩ := h; rfl) | (obtain ⟨_, rfl, _⟩ := h; rfl) | (obtain ⟨_, _, rfl, _⟩ := h; rfl) | (obtain ⟨_, _, _, rfl, _⟩ := h; rfl) | (obtain ⟨_, _, _, _, rfl, _⟩ := h; rfl) | (obtain ⟨_, _, _, _, _, rfl, _⟩ := h; rfl) | (obtain ⟨_, _, _, _, _, _, rfl, _⟩ := h; rfl) | (obtain ⟨_, _, _, _, _, _, _, rfl, _⟩ := h; rfl) | (obtain ⟨_, _, _, _, _, _, _, _, rfl, _⟩ := h; rfl)
  · replace F : FunD K "within" "within" (defArgs s_within) (defBody s_within) (defScope s_within) [] [] (He.ga K "within") fd := F
    refine ⟨_, (pss_one (ps_ret (pe_and (pe_own O_is_whole (hr.mono (by decide)) (by rfl) (passes_call (takes_of rfl rfl rfl rfl) (fun _ _ _ _ h => h)) (pa_cons (pv 0) pa_nil)) (pe_one (pe_chain op_le op_le (pv 1) (pv 0) (pv 2)))))), ?_⟩
    obtain ⟨v, lo, hi, rfl, hk, q⟩ := h
    dsimp only [cxOf, L2.start, List.map_cons, List.map_nil, List.length_cons, List.length_nil, Nat.reduceAdd, Nat.reduceSub, List.replicate_succ, List.replicate_zero, List.cons_append, List.nil_append, Nat.zero_add, List.reduceReplicate, List.map]
    have hw := sv_is_whole hk
    refine s_ret ?_ q
    cases v with
    | int i =>
      refine ev_andV (a := true) (b := decide (lo ≤ i) && decide (i ≤ hi)) ?_ (fun _ => ?_)
      · (repeat' (first | with_reducible exact ev_c | ((with_reducible show Ev (tVar _) _ _ _); exact ev_var rfl) | with_reducible exact ea_nil | with_reducible exact eo_none | with_reducible refine' ea_cons ?_ ?_ | with_reducible refine' eo_some ?_ | with_reducible refine' ev_and2 ?_ ?_ | with_reducible refine' ev_or2 ?_ ?_ | with_reducible refine' ev_notV ?_ | with_reducible exact ru_I | with_reducible refine' ev_un ?_ ?_ | with_reducible exact rv_I0 | with_reducible exact rv_isN | with_reducible exact rv_notN | with_reducible refine' rv_I ?_ | with_reducible refine' rv_eq ?_ | with_reducible refine' rv_ne ?_ | with_reducible refine' ev_op ?_ ?_ ?_ | with_reducible refine' ev_chain2 ?_ ?_ ?_ ?_ ?_ | with_reducible refine' et_B ?_ | with_reducible refine' et_test ?_ | with_reducible refine' et_and2 ?_ ?_ | with_reducible refine' et_or2 ?_ ?_ | with_reducible refine' et_not ?_ | with_reducible refine' ev_call ?_ ?_ | with_reducible refine' ev_callS ?_ ?_ | with_reducible refine' ev_cb ?_ ?_ | with_reducible exact isi_bool (by assumption) | with_reducible exact isi_int (by assumption) | with_reducible exact isi_list (by assumption) | with_reducible exact rc_len (by assumption) | with_reducible exact rc_sum (by assumption) | with_reducible exact rc_abs | with_reducible exact isi_listL (by assumption) | with_reducible exact isi_intI | with_reducible exact isi_boolI | with_reducible exact rc_lenT (by assumption) | with_reducible exact isi_tup (by assumption) | with_reducible exact rv_eqL (by assumption) (by assumption) | with_reducible exact rv_neL (by assumption) (by assumption) | with_reducible exact rv_neT (by assumption) (by assumption) | with_reducible exact rv_ixL (by assumption) (by assumption) | with_reducible exact rv_ixT (by assumption) (by assumption) | with_reducible refine' ev_din ?_ ?_ (by assumption) | with_reducible refine' ev_dnotin ?_ ?_ (by assumption) | with_reducible refine' ev_dget ?_ ?_ (by assumption) (by assumption) | ((with_reducible show SpV _ _ _ _); assumption) | ((with_reducible show RV _ _ _ _ _); assumption) | ((with_reducible show RC _ _ _ _); assumption) | ((with_reducible show CDiv _ _); exact ⟨by omega, by omega⟩) | ((with_reducible show CMul _ _); first | exact .inl ⟨by omega, by omega⟩ | exact .inr ⟨by omega, by omega⟩) | ((with_reducible show CPow _ _); exact ⟨by omega, by omega, by first | decide | assumption | omega⟩) | ((with_reducible show (0 : Int) < _); omega) | ((with_reducible show (0 : Int) ≤ _); omega) | ((with_reducible show scal _ _ = true); rfl)))
      · (repeat' (first | with_reducible exact ev_c | ((with_reducible show Ev (tVar _) _ _ _); exact ev_var rfl) | with_reducible exact ea_nil | with_reducible exact eo_none | with_reducible refine' ea_cons ?_ ?_ | with_reducible refine' eo_some ?_ | with_reducible refine' ev_and2 ?_ ?_ | with_reducible refine' ev_or2 ?_ ?_ | with_reducible refine' ev_notV ?_ | with_reducible exact ru_I | with_reducible refine' ev_un ?_ ?_ | with_reducible exact rv_I0 | with_reducible exact rv_isN | with_reducible exact rv_notN | with_reducible refine' rv_I ?_ | with_reducible refine' rv_eq ?_ | with_reducible refine' rv_ne ?_ | with_reducible refine' ev_op ?_ ?_ ?_ | with_reducible refine' ev_chain2 ?_ ?_ ?_ ?_ ?_ | with_reducible refine' et_B ?_ | with_reducible refine' et_test ?_ | with_reducible refine' et_and2 ?_ ?_ | with_reducible refine' et_or2 ?_ ?_ | with_reducible refine' et_not ?_ | with_reducible refine' ev_call ?_ ?_ | with_reducible refine' ev_callS ?_ ?_ | with_reducible refine' ev_cb ?_ ?_ | with_reducible exact isi_bool (by assumption) | with_reducible exact isi_int (by assumption) | with_reducible exact isi_list (by assumption) | with_reducible exact rc_len (by assumption) | with_reducible exact rc_sum (by assumption) | with_reducible exact rc_abs | with_reducible exact isi_listL (by assumption) | with_reducible exact isi_intI | with_reducible exact isi_boolI | with_reducible exact rc_lenT (by assumption) | with_reducible exact isi_tup (by assumption) | with_reducible exact rv_eqL (by assumption) (by assumption) | with_reducible exact rv_neL (by assumption) (by assumption) | with_reducible exact rv_neT (by assumption) (by assumption) | with_reducible exact rv_ixL (by assumption) (by assumption) | with_reducible exact rv_ixT (by assumption) (by assumption) | with_reducible refine' ev_din ?_ ?_ (by assumption) | with_reducible refine' ev_dnotin ?_ ?_ (by assumption) | with_reducible refine' ev_dget ?_ ?_ (by assumption) (by assumption) | ((with_reducible show SpV _ _ _ _); assumption) | ((with_reducible show RV _ _ _ _ _); assumption) | ((with_reducible show RC _ _ _ _); assumption) | ((with_reducible show CDiv _ _); exact ⟨by omega, by omega⟩) | ((with_reducible show CMul _ _); first | exact .inl ⟨by omega, by omega⟩ | exact .inr ⟨by omega, by omega⟩) | ((with_reducible show CPow _ _); exact ⟨by omega, by omega, by first | decide | assumption | omega⟩) | ((with_reducible show (0 : Int) < _); omega) | ((with_reducible show (0 : Int) ≤ _); omega) | ((with_reducible show scal _ _ = true); rfl)))
    | _ =>
      refine ev_andV (a := false) (b := false) ?_ (fun h => nomatch h)
      (repeat' (first | with_reducible exact ev_c | ((with_reducible show Ev (tVar _) _ _ _); exact ev_var rfl) | with_reducible exact ea_nil | with_reducible exact eo_none | with_reducible refine' ea_cons ?_ ?_ | with_reducible refine' eo_some ?_ | with_reducible refine' ev_and2 ?_ ?_ | with_reducible refine' ev_or2 ?_ ?_ | with_reducible refine' ev_notV ?_ | with_reducible exact ru_I | with_reducible refine' ev_un ?_ ?_ | with_reducible exact rv_I0 | with_reducible exact rv_isN | with_reducible exact rv_notN | with_reducible refine' rv_I ?_ | with_reducible refine' rv_eq ?_ | with_reducible refine' rv_ne ?_ | with_reducible refine' ev_op ?_ ?_ ?_ | with_reducible refine' ev_chain2 ?_ ?_ ?_ ?_ ?_ | with_reducible refine' et_B ?_ | with_reducible refine' et_test ?_ | with_reducible refine' et_and2 ?_ ?_ | with_reducible refine' et_or2 ?_ ?_ | with_reducible refine' et_not ?_ | with_reducible refine' ev_call ?_ ?_ | with_reducible refine' ev_callS ?_ ?_ | with_reducible refine' ev_cb ?_ ?_ | with_reducible exact isi_bool (by assumption) | with_reducible exact isi_int (by assumption) | with_reducible exact isi_list (by assumption) | with_reducible exact rc_len (by assumption) | with_reducible exact rc_sum (by assumption) | with_reducible exact rc_abs | with_reducible exact isi_listL (by assumption) | with_reducible exact isi_intI | with_reducible exact isi_boolI | with_reducible exact rc_lenT (by assumption) | with_reducible exact isi_tup (by assumption) | with_reducible exact rv_eqL (by assumption) (by assumption) | with_reducible exact rv_neL (by assumption) (by assumption) | with_reducible exact rv_neT (by assumption) (by assumption) | with_reducible exact rv_ixL (by assumption) (by assumption) | with_reducible exact rv_ixT (by assumption) (by assumption) | with_reducible refine' ev_din ?_ ?_ (by assumption) | with_reducible refine' ev_dnotin ?_ ?_ (by assumption) | with_reducible refine' ev_dget ?_ ?_ (by assumption) (by assumption) | ((with_reducible show SpV _ _ _ _); assumption) | ((with_reducible show RV _ _ _ _ _); assumption) | ((with_reducible show RC _ _ _ _); assumption) | ((with_reducible show CDiv _ _); exact ⟨by omega, by omega⟩) | ((with_reducible show CMul _ _); first | exact .inl ⟨by omega, by omega⟩ | exact .inr ⟨by omega, by omega⟩) | ((with_reducible show CPow _ _); exact ⟨by omega, by omega, by first | decide | assumption | omega⟩) | ((with_reducible show (0 : Int) < _); omega) | ((with_reducible show (0 : Int) ≤ _); omega) | ((with_reducible show scal _ _ = true); rfl)))

/-- a row as it is handed in: what kind of thing, what it holds -/
structure Row (H : Hp) (v : V) (o : Option (List V)) : Prop where
  ls : Ls H v o
  kd : ∀ xs, o = some xs → ∀ x ∈ xs, Kd H x
theorem Row.mono {H H' : Hp} {v : V} {o : Option (List V)} (e : Ex H H') (h : Row H v o) : Row H' v o := ⟨h.ls.mono e, fun xs q x hx => (h.kd xs q x hx).mono e⟩
def rowOk (o : Option (List V)) : Bool := match o with
  | some xs => decide (1 ≤ xs.length) && decide (xs.length ≤ 60) && xs.all fun x => inB x (-1000000) 1000000
  | none => false
def RowI (ns : List Int) : Prop := 1 ≤ ns.length ∧ ns.length ≤ 60 ∧ ∀ n ∈ ns, -1000000 ≤ n ∧ n ≤ 1000000
theorem ints_of : ∀ {xs : List V} {lo hi : Int}, (xs.all fun x => inB x lo hi) = true → ∃ ns : List Int, xs = ns.map V.int ∧ ∀ n ∈ ns, lo ≤ n ∧ n ≤ hi
  | [], _, _, _ => ⟨[], rfl, fun _ h => nomatch h⟩
  | x :: r, lo, hi, h => by
    simp only [List.all_cons, Bool.and_eq_true] at h
    obtain ⟨h1, h2⟩ := h
    obtain ⟨ns, rfl, hn⟩ := ints_of h2
    cases x with
    | int i =>
      simp only [inB, Bool.and_eq_true, decide_eq_true_eq] at h1
      refine ⟨i :: ns, rfl, fun n hm => ?_⟩
      rcases List.mem_cons.mp hm with rfl | hm
      · exact h1
      · exact hn n hm
    | _ => cases h1
theorem row_ints {o : Option (List V)} (h : rowOk o = true) : ∃ ns : List Int, o = some (ns.map V.int) ∧ RowI ns := by
  cases o with
  | none => cases h
  | some xs =>
    simp only [rowOk, Bool.and_eq_true, decide_eq_true_eq] at h
    obtain ⟨⟨h1, h2⟩, h3⟩ := h
    obtain ⟨ns, rfl, hn⟩ := ints_of h3
    rw [List.length_map] at h1 h2
    exact ⟨ns, rfl, h1, h2, hn⟩
theorem rowOk_of {ns : List Int} (h : RowI ns) : rowOk (some (ns.map V.int)) = true := by
  obtain ⟨h1, h2, h3⟩ := h
  simp only [rowOk, Bool.and_eq_true, decide_eq_true_eq, List.length_map]
  refine ⟨⟨h1, h2⟩, ?_⟩
  rw [List.all_eq_true]
  intro x hx
  obtain ⟨n, hn, rfl⟩ := List.mem_map.mp hx
  simp only [inB, Bool.and_eq_true, decide_eq_true_eq]
  exact h3 n hn
theorem Row.of {H : Hp} {a : Addr} {ns : List Int} (h : H a = some (.lst (ns.map V.int))) : Row H (.ref a) (some (ns.map V.int)) := ⟨.lst h, fun xs q x hx => by
  cases q
  obtain ⟨n, _, rfl⟩ := List.mem_map.mp hx
  exact .int n⟩
def sp_check_number (K : PySem.W.Frag) : Sp := fun vs H Q E => ∃ v, vs = [v] ∧ Kd H v ∧ Give K (if inB v (-1000000) 1000000 then .val .non else .err "OutOfBounds") H Q E
def sp_check_row (K : PySem.W.Frag) : Sp := fun vs H Q E => ∃ v o, vs = [v] ∧ Row H v o ∧ Give K (if rowOk o then .val .non else .err "NotARow") H Q E
theorem sc_check_row : FnScope ["row", "one"] ["row"] (defScope s_check_row) := ⟨rfl, rfl, rfl, by decide +kernel, rfl, by decide +kernel, by decide +kernel⟩
theorem ok_check_row {P : Program} {w : World} {K : PySem.W.Frag} {mg : Str → Option Value} {base : Heap} (T : TXT K mg) : OK P w K mg base "check_row" ["row"] 3 (sp_check_row K) := by
  have O_within := ok_within (P := P) (w := w) (base := base) T
  obtain ⟨fd, F⟩ := T.def_ 3
  refine ⟨_, fd, T.glo 2, F.kp, F.bindsN (fun _ _ _ _ _ _ us hl => match us, hl with | [_], _ => rfl), F.ok sc_check_row (fun vs H Q E h => ?_) (fun cdv A outer s H vs Q E hr h => ?_), F.bindsA (fun _ _ _ _ _ _ us hl => match us, hl with | [_], _ => rfl)⟩
  · first | (obtain ⟨rfl, _⟩ := h; rfl) | (obtain ⟨_, rfl, _⟩ := h; rfl) | (obtain ⟨_, _, rfl, _⟩ := h; rfl) | (obtain ⟨_, _, _, rfl, _⟩ := h; rfl) | (obtain ⟨_, _, _, _, rfl, _⟩ := h; rfl) | (obtain ⟨_, _, _, _, _, rfl, _⟩ := h; rfl) | (obtain ⟨_, _, _, _, _, _, rfl, _⟩ := h; rfl) | (obtain ⟨_, _, _, _, _, _, _, rfl, _⟩ := h; rfl) | (obtain ⟨_, _, _, _, _, _, _, _, rfl, _⟩ := h; rfl)
  · replace F : FunD K "check_row" "check_row" (defArgs s_check_row) (defBody s_check_row) (defScope s_check_row) [] [] (He.ga K "check_row") fd := F
    refine ⟨_, (pss_cons (ps_if (PW.pt (pw_or (pt_not (pt_val (pe_callB (id := "isinstance") (k_isi K) (by rfl) (T.free 32) (by decide +kernel) (pa_cons (pv 0) (pa_cons (pe_ty (T := "list") (T.free 34) (by decide +kernel)) pa_nil))))) (pw_or1 (pt_not (pt_chain op_le op_le pe_int (pe_callB (id := "len") (k_len K) (by rfl) (T.free 33) (by decide +kernel) (pa_cons (pv 0) pa_nil)) (pe_gi (T.int 38)))))))
        (pss_one (ps_raise rfl (takes_of rfl rfl rfl rfl) (pmk_ex (T.fact 41) (T.glo 20))))
        pss_nil)
      (pss_one (ps_if (pt_not (pt_val (pe_callB (id := "all") (k_all K rfl) (by rfl) (T.free 28) (by decide +kernel) (pa_cons (pe_lc (own := [("one", 1)]) (g := gName 1) (tt := tYes) rfl sc_check_row.nd (k_piL K (pv 0)) (blkOk_by (N := ["row", "one"]) (sc := defScope s_check_row) (by decide +kernel)) (fun _ _ _ _ _ => pg_name (i := 1) sc_check_row.nd rfl (Or.inl rfl)) (fun _ _ _ _ _ => pts_nil) (fun _ _ _ _ _ => (pe_own O_within (hr.mono (by decide)) (by rfl) passL (pa_cons (pv 1) (pa_cons (pe_un un_neg (pe_gi (T.int 37))) (pa_cons (pe_gi (T.int 37)) pa_nil)))))) pa_nil))))
        (pss_one (ps_raise rfl (takes_of rfl rfl rfl rfl) (pmk_ex (T.fact 41) (T.glo 20))))
        pss_nil))), ?_⟩
    obtain ⟨v, o, rfl, hk, q⟩ := h
    dsimp only [cxOf, L2.start, List.map_cons, List.map_nil, List.length_cons, List.length_nil, Nat.reduceAdd, Nat.reduceSub, List.replicate_succ, List.replicate_zero, List.cons_append, List.nil_append, Nat.zero_add, List.reduceReplicate, List.map]
    cases o with
    | none =>
      have hl := hk.ls
      refine q_when (b := true) ?_ (fun hb H1 e => q H1 e) (fun hb => nomatch hb)
      refine et_or (a := true) (b := false) ?_ fun h => nomatch h
      apply et_is
      · (repeat' (first | with_reducible exact ev_c | ((with_reducible show Ev (tVar _) _ _ _); exact ev_var rfl) | with_reducible exact ea_nil | with_reducible exact eo_none | with_reducible refine' ea_cons ?_ ?_ | with_reducible refine' eo_some ?_ | with_reducible refine' ev_and2 ?_ ?_ | with_reducible refine' ev_or2 ?_ ?_ | with_reducible refine' ev_notV ?_ | with_reducible exact ru_I | with_reducible refine' ev_un ?_ ?_ | with_reducible exact rv_I0 | with_reducible exact rv_isN | with_reducible exact rv_notN | with_reducible refine' rv_I ?_ | with_reducible refine' rv_eq ?_ | with_reducible refine' rv_ne ?_ | with_reducible refine' ev_op ?_ ?_ ?_ | with_reducible refine' ev_chain2 ?_ ?_ ?_ ?_ ?_ | with_reducible refine' et_B ?_ | with_reducible refine' et_test ?_ | with_reducible refine' et_and2 ?_ ?_ | with_reducible refine' et_or2 ?_ ?_ | with_reducible refine' et_not ?_ | with_reducible refine' ev_call ?_ ?_ | with_reducible refine' ev_callS ?_ ?_ | with_reducible refine' ev_cb ?_ ?_ | with_reducible exact isi_bool (by assumption) | with_reducible exact isi_int (by assumption) | with_reducible exact isi_list (by assumption) | with_reducible exact rc_len (by assumption) | with_reducible exact rc_sum (by assumption) | with_reducible exact rc_abs | with_reducible exact isi_listL (by assumption) | with_reducible exact isi_intI | with_reducible exact isi_boolI | with_reducible exact rc_lenT (by assumption) | with_reducible exact isi_tup (by assumption) | with_reducible exact rv_eqL (by assumption) (by assumption) | with_reducible exact rv_neL (by assumption) (by assumption) | with_reducible exact rv_neT (by assumption) (by assumption) | with_reducible exact rv_ixL (by assumption) (by assumption) | with_reducible exact rv_ixT (by assumption) (by assumption) | with_reducible refine' ev_din ?_ ?_ (by assumption) | with_reducible refine' ev_dnotin ?_ ?_ (by assumption) | with_reducible refine' ev_dget ?_ ?_ (by assumption) (by assumption) | ((with_reducible show SpV _ _ _ _); assumption) | ((with_reducible show RV _ _ _ _ _); assumption) | ((with_reducible show RC _ _ _ _); assumption) | ((with_reducible show CDiv _ _); exact ⟨by omega, by omega⟩) | ((with_reducible show CMul _ _); first | exact .inl ⟨by omega, by omega⟩ | exact .inr ⟨by omega, by omega⟩) | ((with_reducible show CPow _ _); exact ⟨by omega, by omega, by first | decide | assumption | omega⟩) | ((with_reducible show (0 : Int) < _); omega) | ((with_reducible show (0 : Int) ≤ _); omega) | ((with_reducible show scal _ _ = true); rfl)))
      · rfl
    | some xs =>
      have hl := hk.ls
      obtain ⟨a, rfl, ha⟩ : ∃ a, v = .ref a ∧ H a = some (.lst xs) := by
        cases hl with
        | lst h => exact ⟨_, rfl, h⟩
      have hs : SqL K H a xs := sq_of ha
      refine q_when (b := !(decide (1 ≤ xs.length) && decide (xs.length ≤ 60))) ?_ (fun hb H1 e => ?_) (fun hb H1 e => ?_)
      · apply et_is
        · (repeat' (first | with_reducible exact ev_c | ((with_reducible show Ev (tVar _) _ _ _); exact ev_var rfl) | with_reducible exact ea_nil | with_reducible exact eo_none | with_reducible refine' ea_cons ?_ ?_ | with_reducible refine' eo_some ?_ | with_reducible refine' ev_and2 ?_ ?_ | with_reducible refine' ev_or2 ?_ ?_ | with_reducible refine' ev_notV ?_ | with_reducible exact ru_I | with_reducible refine' ev_un ?_ ?_ | with_reducible exact rv_I0 | with_reducible exact rv_isN | with_reducible exact rv_notN | with_reducible refine' rv_I ?_ | with_reducible refine' rv_eq ?_ | with_reducible refine' rv_ne ?_ | with_reducible refine' ev_op ?_ ?_ ?_ | with_reducible refine' ev_chain2 ?_ ?_ ?_ ?_ ?_ | with_reducible refine' et_B ?_ | with_reducible refine' et_test ?_ | with_reducible refine' et_and2 ?_ ?_ | with_reducible refine' et_or2 ?_ ?_ | with_reducible refine' et_not ?_ | with_reducible refine' ev_call ?_ ?_ | with_reducible refine' ev_callS ?_ ?_ | with_reducible refine' ev_cb ?_ ?_ | with_reducible exact isi_bool (by assumption) | with_reducible exact isi_int (by assumption) | with_reducible exact isi_list (by assumption) | with_reducible exact rc_len (by assumption) | with_reducible exact rc_sum (by assumption) | with_reducible exact rc_abs | with_reducible exact isi_listL (by assumption) | with_reducible exact isi_intI | with_reducible exact isi_boolI | with_reducible exact rc_lenT (by assumption) | with_reducible exact isi_tup (by assumption) | with_reducible exact rv_eqL (by assumption) (by assumption) | with_reducible exact rv_neL (by assumption) (by assumption) | with_reducible exact rv_neT (by assumption) (by assumption) | with_reducible exact rv_ixL (by assumption) (by assumption) | with_reducible exact rv_ixT (by assumption) (by assumption) | with_reducible refine' ev_din ?_ ?_ (by assumption) | with_reducible refine' ev_dnotin ?_ ?_ (by assumption) | with_reducible refine' ev_dget ?_ ?_ (by assumption) (by assumption) | ((with_reducible show SpV _ _ _ _); assumption) | ((with_reducible show RV _ _ _ _ _); assumption) | ((with_reducible show RC _ _ _ _); assumption) | ((with_reducible show CDiv _ _); exact ⟨by omega, by omega⟩) | ((with_reducible show CMul _ _); first | exact .inl ⟨by omega, by omega⟩ | exact .inr ⟨by omega, by omega⟩) | ((with_reducible show CPow _ _); exact ⟨by omega, by omega, by first | decide | assumption | omega⟩) | ((with_reducible show (0 : Int) < _); omega) | ((with_reducible show (0 : Int) ≤ _); omega) | ((with_reducible show scal _ _ = true); rfl)))
        · show (!true || !(decide ((1 : Int) ≤ (xs.length : Int)) && decide ((xs.length : Int) ≤ 60))) = _
          rw [decide_eq_decide.mpr (show (1 : Int) ≤ (xs.length : Int) ↔ 1 ≤ xs.length by omega), decide_eq_decide.mpr (show (xs.length : Int) ≤ 60 ↔ xs.length ≤ 60 by omega)]
          rfl
      · have h0 : rowOk (some xs) = false := by
          simp only [rowOk]
          rw [Bool.not_eq_true'] at hb
          rw [hb]
          rfl
        rw [h0] at q
        exact q H1 e
      · rw [Bool.not_eq_false'] at hb
        have hlen : xs.length ≤ 60 := by
          simp at hb
          omega
        have h0 : rowOk (some xs) = xs.all fun x => inB x (-1000000) 1000000 := by
          simp only [rowOk, hb, Bool.true_and]
        rw [h0] at q
        have em : EvL (tLc (iList K (tVar 0)) (gName 1) tYes (tCall sp_within [] E0 (tCons (tVar 1) (tCons (tUn (rU fun i => .int (-i)) (tC (.int 1000000))) (tCons (tC (.int 1000000)) tNil)))) [1]) [some (V.ref a), none] H1 ((xs.map fun x => inB x (-1000000) 1000000).map V.bl) := by
          rw [List.map_map]
          refine el_map _ (by (repeat' (first | with_reducible exact ev_c | ((with_reducible show Ev (tVar _) _ _ _); exact ev_var rfl) | with_reducible exact ea_nil | with_reducible exact eo_none | with_reducible refine' ea_cons ?_ ?_ | with_reducible refine' eo_some ?_ | with_reducible refine' ev_and2 ?_ ?_ | with_reducible refine' ev_or2 ?_ ?_ | with_reducible refine' ev_notV ?_ | with_reducible exact ru_I | with_reducible refine' ev_un ?_ ?_ | with_reducible exact rv_I0 | with_reducible exact rv_isN | with_reducible exact rv_notN | with_reducible refine' rv_I ?_ | with_reducible refine' rv_eq ?_ | with_reducible refine' rv_ne ?_ | with_reducible refine' ev_op ?_ ?_ ?_ | with_reducible refine' ev_chain2 ?_ ?_ ?_ ?_ ?_ | with_reducible refine' et_B ?_ | with_reducible refine' et_test ?_ | with_reducible refine' et_and2 ?_ ?_ | with_reducible refine' et_or2 ?_ ?_ | with_reducible refine' et_not ?_ | with_reducible refine' ev_call ?_ ?_ | with_reducible refine' ev_callS ?_ ?_ | with_reducible refine' ev_cb ?_ ?_ | with_reducible exact isi_bool (by assumption) | with_reducible exact isi_int (by assumption) | with_reducible exact isi_list (by assumption) | with_reducible exact rc_len (by assumption) | with_reducible exact rc_sum (by assumption) | with_reducible exact rc_abs | with_reducible exact isi_listL (by assumption) | with_reducible exact isi_intI | with_reducible exact isi_boolI | with_reducible exact rc_lenT (by assumption) | with_reducible exact isi_tup (by assumption) | with_reducible exact rv_eqL (by assumption) (by assumption) | with_reducible exact rv_neL (by assumption) (by assumption) | with_reducible exact rv_neT (by assumption) (by assumption) | with_reducible exact rv_ixL (by assumption) (by assumption) | with_reducible exact rv_ixT (by assumption) (by assumption) | with_reducible refine' ev_din ?_ ?_ (by assumption) | with_reducible refine' ev_dnotin ?_ ?_ (by assumption) | with_reducible refine' ev_dget ?_ ?_ (by assumption) (by assumption) | ((with_reducible show SpV _ _ _ _); assumption) | ((with_reducible show RV _ _ _ _ _); assumption) | ((with_reducible show RC _ _ _ _); assumption) | ((with_reducible show CDiv _ _); exact ⟨by omega, by omega⟩) | ((with_reducible show CMul _ _); first | exact .inl ⟨by omega, by omega⟩ | exact .inr ⟨by omega, by omega⟩) | ((with_reducible show CPow _ _); exact ⟨by omega, by omega, by first | decide | assumption | omega⟩) | ((with_reducible show (0 : Int) < _); omega) | ((with_reducible show (0 : Int) ≤ _); omega) | ((with_reducible show scal _ _ = true); rfl)))) (ex_l e hs) (by omega) (fun _ => rfl) (fun x H2 e2 hx => ?_)
          have hw := sv_within (lo := -1000000) (hi := 1000000) ((hk.kd xs rfl x hx).mono (e.trans e2))
          (repeat' (first | with_reducible exact ev_c | ((with_reducible show Ev (tVar _) _ _ _); exact ev_var rfl) | with_reducible exact ea_nil | with_reducible exact eo_none | with_reducible refine' ea_cons ?_ ?_ | with_reducible refine' eo_some ?_ | with_reducible refine' ev_and2 ?_ ?_ | with_reducible refine' ev_or2 ?_ ?_ | with_reducible refine' ev_notV ?_ | with_reducible exact ru_I | with_reducible refine' ev_un ?_ ?_ | with_reducible exact rv_I0 | with_reducible exact rv_isN | with_reducible exact rv_notN | with_reducible refine' rv_I ?_ | with_reducible refine' rv_eq ?_ | with_reducible refine' rv_ne ?_ | with_reducible refine' ev_op ?_ ?_ ?_ | with_reducible refine' ev_chain2 ?_ ?_ ?_ ?_ ?_ | with_reducible refine' et_B ?_ | with_reducible refine' et_test ?_ | with_reducible refine' et_and2 ?_ ?_ | with_reducible refine' et_or2 ?_ ?_ | with_reducible refine' et_not ?_ | with_reducible refine' ev_call ?_ ?_ | with_reducible refine' ev_callS ?_ ?_ | with_reducible refine' ev_cb ?_ ?_ | with_reducible exact isi_bool (by assumption) | with_reducible exact isi_int (by assumption) | with_reducible exact isi_list (by assumption) | with_reducible exact rc_len (by assumption) | with_reducible exact rc_sum (by assumption) | with_reducible exact rc_abs | with_reducible exact isi_listL (by assumption) | with_reducible exact isi_intI | with_reducible exact isi_boolI | with_reducible exact rc_lenT (by assumption) | with_reducible exact isi_tup (by assumption) | with_reducible exact rv_eqL (by assumption) (by assumption) | with_reducible exact rv_neL (by assumption) (by assumption) | with_reducible exact rv_neT (by assumption) (by assumption) | with_reducible exact rv_ixL (by assumption) (by assumption) | with_reducible exact rv_ixT (by assumption) (by assumption) | with_reducible refine' ev_din ?_ ?_ (by assumption) | with_reducible refine' ev_dnotin ?_ ?_ (by assumption) | with_reducible refine' ev_dget ?_ ?_ (by assumption) (by assumption) | ((with_reducible show SpV _ _ _ _); assumption) | ((with_reducible show RV _ _ _ _ _); assumption) | ((with_reducible show RC _ _ _ _); assumption) | ((with_reducible show CDiv _ _); exact ⟨by omega, by omega⟩) | ((with_reducible show CMul _ _); first | exact .inl ⟨by omega, by omega⟩ | exact .inr ⟨by omega, by omega⟩) | ((with_reducible show CPow _ _); exact ⟨by omega, by omega, by first | decide | assumption | omega⟩) | ((with_reducible show (0 : Int) < _); omega) | ((with_reducible show (0 : Int) ≤ _); omega) | ((with_reducible show scal _ _ = true); rfl)))
        refine s_when (b := !(xs.all fun x => inB x (-1000000) 1000000)) ?_ (fun hb H2 e2 => ?_) (fun hb H2 e2 => ?_)
        · refine et_not (et_B ?_)
          have z := ev_all (K := K) em
          have z2 : ((xs.map fun x => inB x (-1000000) 1000000).all id) = xs.all fun x => inB x (-1000000) 1000000 := by
            rw [List.all_map]
            rfl
          rw [z2] at z
          exact z
        · rw [Bool.not_eq_true'] at hb
          rw [hb] at q
          exact q H2 (e.trans e2)
        · rw [Bool.not_eq_false'] at hb
          rw [hb] at q
          exact q H2 (e.trans e2)


/-! the first two beats that land together -/
def land (ns : List Int) (j : Nat) : Int := ((j : Int) + ns.getD j 0) % (ns.length : Int)
def seenAt (ns : List Int) (j : Nat) : Option Nat := (List.range j).find? fun i => decide (land ns i = land ns j)
def clashOf (ns : List Int) : Option (Nat × Nat) := (List.range ns.length).findSome? fun j => (seenAt ns j).map fun i => (i, j)
def kvAt (ns : List Int) (j : Nat) : List (Key × V) := (List.range j).map fun i => (Sum.inl (land ns i), V.int (i : Int))
theorem kvAt_val (ns : List Int) (j k : Nat) : valV (kvAt ns j) (Sum.inl (land ns k) : Key) = ((List.range j).find? fun i => decide (land ns i = land ns k)).map fun i => V.int (i : Int) := by
  unfold valV kvAt
  rw [List.find?_map]
  have e : ((fun kv : Key × V => decide (kv.1 = Sum.inl (land ns k))) ∘ fun i => ((Sum.inl (land ns i) : Key), V.int (i : Int))) = fun i => decide (land ns i = land ns k) := by
    funext i
    show decide ((Sum.inl (land ns i) : Key) = Sum.inl (land ns k)) = _
    rw [decide_eq_decide]
    exact ⟨fun z => Sum.inl.inj z, fun z => by rw [z]⟩
  rw [e]
  cases (List.range j).find? fun i => decide (land ns i = land ns k) <;> rfl
theorem kvAt_len (ns : List Int) (j : Nat) : (kvAt ns j).length = j := by simp [kvAt]
theorem kvAt_put {ns : List Int} {j : Nat} (h : seenAt ns j = none) : putK (kvAt ns j) (Sum.inl (land ns j) : Key) (V.int (j : Int)) = kvAt ns (j + 1) := by
  rw [putK_new]
  · unfold kvAt
    rw [List.range_succ, List.map_append]
    rfl
  · rw [kvAt_val]
    unfold seenAt at h
    rw [h]
    rfl
theorem findSome_at {α : Type} {f : Nat → Option α} {n j : Nat} {x : α} (hj : j < n) (h : ∀ i, i < j → f i = none) (hx : f j = some x) : (List.range n).findSome? f = some x := by
  induction n with
  | zero => omega
  | succ n ih =>
    rw [List.range_succ, List.findSome?_append]
    by_cases e : j < n
    · rw [ih e]
      rfl
    · have e2 : j = n := by omega
      subst e2
      have h0 : (List.range j).findSome? f = none := by
        rw [List.findSome?_eq_none_iff]
        intro i hi
        exact h i (List.mem_range.mp hi)
      rw [h0]
      simp [hx]
theorem findSome_none {α : Type} {f : Nat → Option α} {n : Nat} (h : ∀ i, i < n → f i = none) : (List.range n).findSome? f = none := by
  rw [List.findSome?_eq_none_iff]
  intro i hi
  exact h i (List.mem_range.mp hi)
def clashRe (ns : List Int) : Re := match clashOf ns with
  | some (i, j) => .tup [.int (i : Int), .int (j : Int)]
  | none => .val .non
def rowsOf (o : Option (List V)) : List Int := (o.getD []).map fun v => match v with
  | .int i => i
  | _ => 0
theorem rowsOf_some (ns : List Int) : rowsOf (some (ns.map V.int)) = ns := by
  simp only [rowsOf, Option.getD, List.map_map]
  have e : ((fun v : V => match v with | .int i => i | _ => 0) ∘ V.int) = id := by
    funext i
    rfl
  rw [e, List.map_id]
def sp_clash_of (K : PySem.W.Frag) : Sp := fun vs H Q E => ∃ v o, vs = [v] ∧ Row H v o ∧ Give K (if rowOk o then clashRe (rowsOf o) else .err "NotARow") H Q E
theorem sv_check_row {K : PySem.W.Frag} {H : Hp} {v : V} {o : Option (List V)} (hk : Row H v o) (h : rowOk o = true) : SpV (sp_check_row K) [v] H .non := spv_of fun H1 e Q E k => ⟨v, o, rfl, hk.mono e, by
  rw [h]
  exact k⟩
theorem sx_check_row {K : PySem.W.Frag} {H : Hp} {v : V} {o : Option (List V)} {E : XK} (hk : Row H v o) (h : rowOk o = false) (he : ∀ H2, Ex H H2 → E (.ref (He.ga K "NotARow")) none H2) : ∀ H1, Ex H H1 → ∀ Q : VK, sp_check_row K [v] H1 Q E := fun H1 e Q => ⟨v, o, rfl, hk.mono e, by
  rw [h]
  exact fun H2 e2 => he H2 (e.trans e2)⟩
end TB

/-! ### written, number_of, read -/
namespace TB
open PySem PySem.Spec PyProof.Rows L2 Evl SX
def wrRe (o : Option (List V)) : Re := if rowOk o then .val (.str (S (textOf (rowsOf o)))) else .err "NotARow"
theorem text_take {ns : List Int} {i : Nat} (h : i < ns.length) : textOf (ns.take (i + 1)) = textOf (ns.take i) ++ oneText (ns.getD i 0) := by
  unfold textOf
  rw [List.take_add_one, List.getElem?_eq_getElem h, List.getD_eq_getElem?_getD, List.getElem?_eq_getElem h, List.flatMap_append]
  congr 1
  show List.flatMap oneText [ns[i]] = oneText ns[i]
  rw [List.flatMap_singleton]
theorem signs_atI {k : Nat} (h : k < 36) : atI signsL (k : Int) = some (sgnOf k) := atI_nat (sgn_of h).2
def sp_written (K : PySem.W.Frag) : Sp := fun vs H Q E => ∃ v o, vs = [v] ∧ Row H v o ∧ Give K (wrRe o) H Q E
theorem sc_written : FnScope ["row", "text", "one"] ["row"] (defScope s_written) := ⟨rfl, rfl, rfl, by decide +kernel, rfl, by decide +kernel, by decide +kernel⟩
theorem ok_written {P : Program} {w : World} {K : PySem.W.Frag} {mg : Str → Option Value} {base : Heap} (T : TXT K mg) : OK P w K mg base "written" ["row"] 4 (sp_written K) := by
  have O_check_row := ok_check_row (P := P) (w := w) (base := base) T
  obtain ⟨fd, F⟩ := T.def_ 4
  refine ⟨_, fd, T.glo 3, F.kp, F.bindsN (fun _ _ _ _ _ _ us hl => match us, hl with | [_], _ => rfl), F.ok sc_written (fun vs H Q E h => ?_) (fun cdv A outer s H vs Q E hr h => ?_), F.bindsA (fun _ _ _ _ _ _ us hl => match us, hl with | [_], _ => rfl)⟩
  · first | (obtain ⟨rfl, _⟩ := h; rfl) | (obtain ⟨_, rfl, _⟩ := h; rfl) | (obtain ⟨_, _, rfl, _⟩ := h; rfl) | (obtain ⟨_, _, _, rfl, _⟩ := h; rfl) | (obtain ⟨_, _, _, _, rfl, _⟩ := h; rfl) | (obtain ⟨_, _, _, _, _, rfl, _⟩ := h; rfl) | (obtain ⟨_, _, _, _, _, _, rfl, _⟩ := h; rfl) | (obtain ⟨_, _, _, _, _, _, _, rfl, _⟩ := h; rfl) | (obtain ⟨_, _, _, _, _, _, _, _, rfl, _⟩ := h; rfl)
  · replace F : FunD K "written" "written" (defArgs s_written) (defBody s_written) (defScope s_written) [] [] (He.ga K "written") fd := F
    refine ⟨_, (pss_cons (ps_expr (pe_own O_check_row (hr.mono (by decide)) (by rfl) (passes_call (takes_of rfl rfl rfl rfl) (fun _ _ _ _ h => h)) (pa_cons (pv 0) pa_nil)))
      (pss_cons (ps_set (i := 1) sc_written.nd rfl (Or.inl rfl) pe_str)
      (pss_cons (ps_for (passes_of rfl) rfl (k_piL K (pv 0)) (pg_name (i := 2) sc_written.nd rfl (Or.inl rfl))
        (pss_one (ps_if (pt_chain op_le op_lt pe_int (pv 2) (pe_callB (id := "len") call_len_str (by rfl) (T.free 33) (by decide +kernel) (pa_cons (pe_gs (T.str 39)) pa_nil)))
        (pss_one (ps_aug (i := 1) sc_written.nd rfl (Or.inl rfl) (pe_ix ix_str (pe_gs (T.str 39)) (pv 2) (fun _ _ => rfl)) iop_add_str))
        (pss_one (ps_aug (i := 1) sc_written.nd rfl (Or.inl rfl) (pe_op op_add_str (pe_op op_add_str pe_str (pe_callTy (T := "str") call_str_int (by rfl) (T.free 36) (by decide +kernel) (pa_cons (pv 2) pa_nil))) pe_str) iop_add_str)))))
      (pss_one (ps_ret (pv 1)))))), ?_⟩
    obtain ⟨v, o, rfl, hk, q⟩ := h
    dsimp only [cxOf, L2.start, List.map_cons, List.map_nil, List.length_cons, List.length_nil, Nat.reduceAdd, Nat.reduceSub, List.replicate_succ, List.replicate_zero, List.cons_append, List.nil_append, Nat.zero_add, List.reduceReplicate, List.map]
    unfold wrRe at q
    by_cases ho : rowOk o = true
    case neg =>
      have ho : rowOk o = false := by simpa using ho
      rw [ho] at q
      exact xq_drop (rz_call (by (repeat' (first | with_reducible exact ev_c | ((with_reducible show Ev (tVar _) _ _ _); exact ev_var rfl) | with_reducible exact ea_nil | with_reducible exact eo_none | with_reducible refine' ea_cons ?_ ?_ | with_reducible refine' eo_some ?_ | with_reducible refine' ev_and2 ?_ ?_ | with_reducible refine' ev_or2 ?_ ?_ | with_reducible refine' ev_notV ?_ | with_reducible exact ru_I | with_reducible refine' ev_un ?_ ?_ | with_reducible exact rv_I0 | with_reducible exact rv_isN | with_reducible exact rv_notN | with_reducible refine' rv_I ?_ | with_reducible refine' rv_eq ?_ | with_reducible refine' rv_ne ?_ | with_reducible refine' ev_op ?_ ?_ ?_ | with_reducible refine' ev_chain2 ?_ ?_ ?_ ?_ ?_ | with_reducible refine' et_B ?_ | with_reducible refine' et_test ?_ | with_reducible refine' et_and2 ?_ ?_ | with_reducible refine' et_or2 ?_ ?_ | with_reducible refine' et_not ?_ | with_reducible refine' ev_call ?_ ?_ | with_reducible refine' ev_callS ?_ ?_ | with_reducible refine' ev_cb ?_ ?_ | with_reducible exact isi_bool (by assumption) | with_reducible exact isi_int (by assumption) | with_reducible exact isi_list (by assumption) | with_reducible exact rc_len (by assumption) | with_reducible exact rc_sum (by assumption) | with_reducible exact rc_abs | with_reducible exact isi_listL (by assumption) | with_reducible exact isi_intI | with_reducible exact isi_boolI | with_reducible exact rc_lenT (by assumption) | with_reducible exact isi_tup (by assumption) | with_reducible exact rv_eqL (by assumption) (by assumption) | with_reducible exact rv_neL (by assumption) (by assumption) | with_reducible exact rv_neT (by assumption) (by assumption) | with_reducible exact rv_ixL (by assumption) (by assumption) | with_reducible exact rv_ixT (by assumption) (by assumption) | with_reducible refine' ev_din ?_ ?_ (by assumption) | with_reducible refine' ev_dnotin ?_ ?_ (by assumption) | with_reducible refine' ev_dget ?_ ?_ (by assumption) (by assumption) | ((with_reducible show SpV _ _ _ _); assumption) | ((with_reducible show RV _ _ _ _ _); assumption) | ((with_reducible show RC _ _ _ _); assumption) | ((with_reducible show CDiv _ _); exact ⟨by omega, by omega⟩) | ((with_reducible show CMul _ _); first | exact .inl ⟨by omega, by omega⟩ | exact .inr ⟨by omega, by omega⟩) | ((with_reducible show CPow _ _); exact ⟨by omega, by omega, by first | decide | assumption | omega⟩) | ((with_reducible show (0 : Int) < _); omega) | ((with_reducible show (0 : Int) ≤ _); omega) | ((with_reducible show scal _ _ = true); rfl)))) (sx_check_row hk ho q))
    rw [ho] at q
    have hcr := sv_check_row (K := K) hk ho
    obtain ⟨ns, rfl, hn⟩ := row_ints ho
    obtain ⟨h1, h2, h3⟩ := hn
    rw [rowsOf_some] at q
    obtain ⟨a, rfl, ha⟩ : ∃ a, v = .ref a ∧ H a = some (.lst (ns.map V.int)) := by
      have hl := hk.ls
      cases hl with
      | lst h => exact ⟨_, rfl, h⟩
    have hs : SqL K H a (ns.map V.int) := sq_of ha
    refine q_drop (v := .non) (by (repeat' (first | with_reducible exact ev_c | ((with_reducible show Ev (tVar _) _ _ _); exact ev_var rfl) | with_reducible exact ea_nil | with_reducible exact eo_none | with_reducible refine' ea_cons ?_ ?_ | with_reducible refine' eo_some ?_ | with_reducible refine' ev_and2 ?_ ?_ | with_reducible refine' ev_or2 ?_ ?_ | with_reducible refine' ev_notV ?_ | with_reducible exact ru_I | with_reducible refine' ev_un ?_ ?_ | with_reducible exact rv_I0 | with_reducible exact rv_isN | with_reducible exact rv_notN | with_reducible refine' rv_I ?_ | with_reducible refine' rv_eq ?_ | with_reducible refine' rv_ne ?_ | with_reducible refine' ev_op ?_ ?_ ?_ | with_reducible refine' ev_chain2 ?_ ?_ ?_ ?_ ?_ | with_reducible refine' et_B ?_ | with_reducible refine' et_test ?_ | with_reducible refine' et_and2 ?_ ?_ | with_reducible refine' et_or2 ?_ ?_ | with_reducible refine' et_not ?_ | with_reducible refine' ev_call ?_ ?_ | with_reducible refine' ev_callS ?_ ?_ | with_reducible refine' ev_cb ?_ ?_ | with_reducible exact isi_bool (by assumption) | with_reducible exact isi_int (by assumption) | with_reducible exact isi_list (by assumption) | with_reducible exact rc_len (by assumption) | with_reducible exact rc_sum (by assumption) | with_reducible exact rc_abs | with_reducible exact isi_listL (by assumption) | with_reducible exact isi_intI | with_reducible exact isi_boolI | with_reducible exact rc_lenT (by assumption) | with_reducible exact isi_tup (by assumption) | with_reducible exact rv_eqL (by assumption) (by assumption) | with_reducible exact rv_neL (by assumption) (by assumption) | with_reducible exact rv_neT (by assumption) (by assumption) | with_reducible exact rv_ixL (by assumption) (by assumption) | with_reducible exact rv_ixT (by assumption) (by assumption) | with_reducible refine' ev_din ?_ ?_ (by assumption) | with_reducible refine' ev_dnotin ?_ ?_ (by assumption) | with_reducible refine' ev_dget ?_ ?_ (by assumption) (by assumption) | ((with_reducible show SpV _ _ _ _); assumption) | ((with_reducible show RV _ _ _ _ _); assumption) | ((with_reducible show RC _ _ _ _); assumption) | ((with_reducible show CDiv _ _); exact ⟨by omega, by omega⟩) | ((with_reducible show CMul _ _); first | exact .inl ⟨by omega, by omega⟩ | exact .inr ⟨by omega, by omega⟩) | ((with_reducible show CPow _ _); exact ⟨by omega, by omega, by first | decide | assumption | omega⟩) | ((with_reducible show (0 : Int) < _); omega) | ((with_reducible show (0 : Int) ≤ _); omega) | ((with_reducible show scal _ _ = true); rfl)))) fun H1 e1 => ?_
    rw [x_empty, x_open, x_close, signs_S]
    refine q_asg (v := .str (S [])) (by (repeat' (first | with_reducible exact ev_c | ((with_reducible show Ev (tVar _) _ _ _); exact ev_var rfl) | with_reducible exact ea_nil | with_reducible exact eo_none | with_reducible refine' ea_cons ?_ ?_ | with_reducible refine' eo_some ?_ | with_reducible refine' ev_and2 ?_ ?_ | with_reducible refine' ev_or2 ?_ ?_ | with_reducible refine' ev_notV ?_ | with_reducible exact ru_I | with_reducible refine' ev_un ?_ ?_ | with_reducible exact rv_I0 | with_reducible exact rv_isN | with_reducible exact rv_notN | with_reducible refine' rv_I ?_ | with_reducible refine' rv_eq ?_ | with_reducible refine' rv_ne ?_ | with_reducible refine' ev_op ?_ ?_ ?_ | with_reducible refine' ev_chain2 ?_ ?_ ?_ ?_ ?_ | with_reducible refine' et_B ?_ | with_reducible refine' et_test ?_ | with_reducible refine' et_and2 ?_ ?_ | with_reducible refine' et_or2 ?_ ?_ | with_reducible refine' et_not ?_ | with_reducible refine' ev_call ?_ ?_ | with_reducible refine' ev_callS ?_ ?_ | with_reducible refine' ev_cb ?_ ?_ | with_reducible exact isi_bool (by assumption) | with_reducible exact isi_int (by assumption) | with_reducible exact isi_list (by assumption) | with_reducible exact rc_len (by assumption) | with_reducible exact rc_sum (by assumption) | with_reducible exact rc_abs | with_reducible exact isi_listL (by assumption) | with_reducible exact isi_intI | with_reducible exact isi_boolI | with_reducible exact rc_lenT (by assumption) | with_reducible exact isi_tup (by assumption) | with_reducible exact rv_eqL (by assumption) (by assumption) | with_reducible exact rv_neL (by assumption) (by assumption) | with_reducible exact rv_neT (by assumption) (by assumption) | with_reducible exact rv_ixL (by assumption) (by assumption) | with_reducible exact rv_ixT (by assumption) (by assumption) | with_reducible refine' ev_din ?_ ?_ (by assumption) | with_reducible refine' ev_dnotin ?_ ?_ (by assumption) | with_reducible refine' ev_dget ?_ ?_ (by assumption) (by assumption) | ((with_reducible show SpV _ _ _ _); assumption) | ((with_reducible show RV _ _ _ _ _); assumption) | ((with_reducible show RC _ _ _ _); assumption) | ((with_reducible show CDiv _ _); exact ⟨by omega, by omega⟩) | ((with_reducible show CMul _ _); first | exact .inl ⟨by omega, by omega⟩ | exact .inr ⟨by omega, by omega⟩) | ((with_reducible show CPow _ _); exact ⟨by omega, by omega, by first | decide | assumption | omega⟩) | ((with_reducible show (0 : Int) < _); omega) | ((with_reducible show (0 : Int) ≤ _); omega) | ((with_reducible show scal _ _ = true); rfl)))) fun H2 e2 => ?_
    have e12 := e1.trans e2
    have tl : ∀ i, (textOf (ns.take i)).length ≤ 600 := fun i => by
      have a := (text_len (row := ns.take i) fun x hx => h3 x (List.mem_of_mem_take hx)).2
      rw [List.length_take] at a
      omega
    refine q_forL (a := a) (xs := ns.map V.int) (by (repeat' (first | with_reducible exact ev_c | ((with_reducible show Ev (tVar _) _ _ _); exact ev_var rfl) | with_reducible exact ea_nil | with_reducible exact eo_none | with_reducible refine' ea_cons ?_ ?_ | with_reducible refine' eo_some ?_ | with_reducible refine' ev_and2 ?_ ?_ | with_reducible refine' ev_or2 ?_ ?_ | with_reducible refine' ev_notV ?_ | with_reducible exact ru_I | with_reducible refine' ev_un ?_ ?_ | with_reducible exact rv_I0 | with_reducible exact rv_isN | with_reducible exact rv_notN | with_reducible refine' rv_I ?_ | with_reducible refine' rv_eq ?_ | with_reducible refine' rv_ne ?_ | with_reducible refine' ev_op ?_ ?_ ?_ | with_reducible refine' ev_chain2 ?_ ?_ ?_ ?_ ?_ | with_reducible refine' et_B ?_ | with_reducible refine' et_test ?_ | with_reducible refine' et_and2 ?_ ?_ | with_reducible refine' et_or2 ?_ ?_ | with_reducible refine' et_not ?_ | with_reducible refine' ev_call ?_ ?_ | with_reducible refine' ev_callS ?_ ?_ | with_reducible refine' ev_cb ?_ ?_ | with_reducible exact isi_bool (by assumption) | with_reducible exact isi_int (by assumption) | with_reducible exact isi_list (by assumption) | with_reducible exact rc_len (by assumption) | with_reducible exact rc_sum (by assumption) | with_reducible exact rc_abs | with_reducible exact isi_listL (by assumption) | with_reducible exact isi_intI | with_reducible exact isi_boolI | with_reducible exact rc_lenT (by assumption) | with_reducible exact isi_tup (by assumption) | with_reducible exact rv_eqL (by assumption) (by assumption) | with_reducible exact rv_neL (by assumption) (by assumption) | with_reducible exact rv_neT (by assumption) (by assumption) | with_reducible exact rv_ixL (by assumption) (by assumption) | with_reducible exact rv_ixT (by assumption) (by assumption) | with_reducible refine' ev_din ?_ ?_ (by assumption) | with_reducible refine' ev_dnotin ?_ ?_ (by assumption) | with_reducible refine' ev_dget ?_ ?_ (by assumption) (by assumption) | ((with_reducible show SpV _ _ _ _); assumption) | ((with_reducible show RV _ _ _ _ _); assumption) | ((with_reducible show RC _ _ _ _); assumption) | ((with_reducible show CDiv _ _); exact ⟨by omega, by omega⟩) | ((with_reducible show CMul _ _); first | exact .inl ⟨by omega, by omega⟩ | exact .inr ⟨by omega, by omega⟩) | ((with_reducible show CPow _ _); exact ⟨by omega, by omega, by first | decide | assumption | omega⟩) | ((with_reducible show (0 : Int) < _); omega) | ((with_reducible show (0 : Int) ≤ _); omega) | ((with_reducible show scal _ _ = true); rfl)))) (ex_l e12 hs) (fun i σ' H' => ∃ y2 : Option V, σ' = [some (V.ref a), some (V.str (S (textOf (ns.take i)))), y2] ∧ Ex H H') (fun H3 e3 => ⟨_, rfl, e12.trans e3⟩) (fun i σ' H3 _ h => by
      obtain ⟨_, _, h⟩ := h
      exact ex_l h hs) ?_ ?_
    · rintro i x σ' H3 hi ⟨y2, rfl, e3⟩
      rw [List.getElem?_map] at hi
      obtain ⟨n, hn, rfl⟩ := Option.map_eq_some_iff.mp hi
      have hil := (List.getElem?_eq_some_iff.mp hn).1
      have en : ns.getD i 0 = n := by rw [List.getD_eq_getElem?_getD, hn]; rfl
      have hb := h3 n (List.mem_of_getElem? hn)
      have tt := text_take hil
      rw [en] at tt
      have ti := tl i
      have ol := one_len hb.1 hb.2
      show tIfS _ _ _ _ _ _
      have ls : ∀ {H9 : Hp}, RC (fun xs H Q => ∃ z : Str, xs = [.str z] ∧ z.length ≤ sizeLine ∧ Q (.int z.length) H) [.str (S signsL)] H9 (.int (signsL.length : Int)) := rc_lenS (by decide)
      have ls3 := ls (H9 := H3)
      refine s_if (b := decide (0 ≤ n) && decide (n < (signsL.length : Int))) (by (repeat' (first | with_reducible exact ev_c | ((with_reducible show Ev (tVar _) _ _ _); exact ev_var rfl) | with_reducible exact ea_nil | with_reducible exact eo_none | with_reducible refine' ea_cons ?_ ?_ | with_reducible refine' eo_some ?_ | with_reducible refine' ev_and2 ?_ ?_ | with_reducible refine' ev_or2 ?_ ?_ | with_reducible refine' ev_notV ?_ | with_reducible exact ru_I | with_reducible refine' ev_un ?_ ?_ | with_reducible exact rv_I0 | with_reducible exact rv_isN | with_reducible exact rv_notN | with_reducible refine' rv_I ?_ | with_reducible refine' rv_eq ?_ | with_reducible refine' rv_ne ?_ | with_reducible refine' ev_op ?_ ?_ ?_ | with_reducible refine' ev_chain2 ?_ ?_ ?_ ?_ ?_ | with_reducible refine' et_B ?_ | with_reducible refine' et_test ?_ | with_reducible refine' et_and2 ?_ ?_ | with_reducible refine' et_or2 ?_ ?_ | with_reducible refine' et_not ?_ | with_reducible refine' ev_call ?_ ?_ | with_reducible refine' ev_callS ?_ ?_ | with_reducible refine' ev_cb ?_ ?_ | with_reducible exact isi_bool (by assumption) | with_reducible exact isi_int (by assumption) | with_reducible exact isi_list (by assumption) | with_reducible exact rc_len (by assumption) | with_reducible exact rc_sum (by assumption) | with_reducible exact rc_abs | with_reducible exact isi_listL (by assumption) | with_reducible exact isi_intI | with_reducible exact isi_boolI | with_reducible exact rc_lenT (by assumption) | with_reducible exact isi_tup (by assumption) | with_reducible exact rv_eqL (by assumption) (by assumption) | with_reducible exact rv_neL (by assumption) (by assumption) | with_reducible exact rv_neT (by assumption) (by assumption) | with_reducible exact rv_ixL (by assumption) (by assumption) | with_reducible exact rv_ixT (by assumption) (by assumption) | with_reducible refine' ev_din ?_ ?_ (by assumption) | with_reducible refine' ev_dnotin ?_ ?_ (by assumption) | with_reducible refine' ev_dget ?_ ?_ (by assumption) (by assumption) | ((with_reducible show SpV _ _ _ _); assumption) | ((with_reducible show RV _ _ _ _ _); assumption) | ((with_reducible show RC _ _ _ _); assumption) | ((with_reducible show CDiv _ _); exact ⟨by omega, by omega⟩) | ((with_reducible show CMul _ _); first | exact .inl ⟨by omega, by omega⟩ | exact .inr ⟨by omega, by omega⟩) | ((with_reducible show CPow _ _); exact ⟨by omega, by omega, by first | decide | assumption | omega⟩) | ((with_reducible show (0 : Int) < _); omega) | ((with_reducible show (0 : Int) ≤ _); omega) | ((with_reducible show scal _ _ = true); rfl)))) (fun hc H4 e4 => ?_) (fun hc H4 e4 => ?_)
      · rw [Bool.and_eq_true, decide_eq_true_iff, decide_eq_true_iff] at hc
        have hc2 : n < 36 := hc.2
        have eo : oneText n = [sgnOf n.toNat] := by
          unfold oneText
          rw [if_pos ⟨hc.1, hc2⟩]
        rw [eo] at tt
        refine s_augS (a := textOf (ns.take i)) (b := [sgnOf n.toNat]) rfl (ev_op ev_c (ev_var rfl) (rv_ixS (by decide) ?_)) (by simp; omega) fun H5 e5 => ⟨some (V.int n), ?_, (e3.trans e4).trans e5⟩
        · have z := signs_atI (k := n.toNat) (by omega)
          rw [show ((n.toNat : Nat) : Int) = n by omega] at z
          exact z
        · rw [tt]
          rfl
      · have hc2 : ¬ (0 ≤ n ∧ n < 36) := fun z => by
          rw [Bool.and_eq_false_iff, decide_eq_false_iff_not, decide_eq_false_iff_not] at hc
          have : (signsL.length : Int) = 36 := rfl
          omega
        have eo : oneText n = 40 :: (strL n ++ [41]) := by
          unfold oneText
          rw [if_neg hc2]
        rw [eo] at tt ol
        have ol : (strL n).length ≤ 10 := by
          simp at ol
          omega
        have si := rc_strI (H := H4) (n := n) (by omega)
        refine s_augS (a := textOf (ns.take i)) (b := 40 :: (strL n ++ [41])) rfl (ev_op (ev_op ev_c (ev_cb (ea_cons (ev_var rfl) ea_nil) si) (rv_addS (a := [40]) (b := strL n) (by simp; omega))) ev_c (rv_addS (a := [40] ++ strL n) (b := [41]) (by simp; omega))) (by simp; omega) fun H5 e5 => ⟨some (V.int n), ?_, (e3.trans e4).trans e5⟩
        rw [tt]
        rfl
    · rintro σ' H3 ⟨y2, rfl, e3⟩
      rw [List.length_map, List.take_length]
      exact s_ret (by (repeat' (first | with_reducible exact ev_c | ((with_reducible show Ev (tVar _) _ _ _); exact ev_var rfl) | with_reducible exact ea_nil | with_reducible exact eo_none | with_reducible refine' ea_cons ?_ ?_ | with_reducible refine' eo_some ?_ | with_reducible refine' ev_and2 ?_ ?_ | with_reducible refine' ev_or2 ?_ ?_ | with_reducible refine' ev_notV ?_ | with_reducible exact ru_I | with_reducible refine' ev_un ?_ ?_ | with_reducible exact rv_I0 | with_reducible exact rv_isN | with_reducible exact rv_notN | with_reducible refine' rv_I ?_ | with_reducible refine' rv_eq ?_ | with_reducible refine' rv_ne ?_ | with_reducible refine' ev_op ?_ ?_ ?_ | with_reducible refine' ev_chain2 ?_ ?_ ?_ ?_ ?_ | with_reducible refine' et_B ?_ | with_reducible refine' et_test ?_ | with_reducible refine' et_and2 ?_ ?_ | with_reducible refine' et_or2 ?_ ?_ | with_reducible refine' et_not ?_ | with_reducible refine' ev_call ?_ ?_ | with_reducible refine' ev_callS ?_ ?_ | with_reducible refine' ev_cb ?_ ?_ | with_reducible exact isi_bool (by assumption) | with_reducible exact isi_int (by assumption) | with_reducible exact isi_list (by assumption) | with_reducible exact rc_len (by assumption) | with_reducible exact rc_sum (by assumption) | with_reducible exact rc_abs | with_reducible exact isi_listL (by assumption) | with_reducible exact isi_intI | with_reducible exact isi_boolI | with_reducible exact rc_lenT (by assumption) | with_reducible exact isi_tup (by assumption) | with_reducible exact rv_eqL (by assumption) (by assumption) | with_reducible exact rv_neL (by assumption) (by assumption) | with_reducible exact rv_neT (by assumption) (by assumption) | with_reducible exact rv_ixL (by assumption) (by assumption) | with_reducible exact rv_ixT (by assumption) (by assumption) | with_reducible refine' ev_din ?_ ?_ (by assumption) | with_reducible refine' ev_dnotin ?_ ?_ (by assumption) | with_reducible refine' ev_dget ?_ ?_ (by assumption) (by assumption) | ((with_reducible show SpV _ _ _ _); assumption) | ((with_reducible show RV _ _ _ _ _); assumption) | ((with_reducible show RC _ _ _ _); assumption) | ((with_reducible show CDiv _ _); exact ⟨by omega, by omega⟩) | ((with_reducible show CMul _ _); first | exact .inl ⟨by omega, by omega⟩ | exact .inr ⟨by omega, by omega⟩) | ((with_reducible show CPow _ _); exact ⟨by omega, by omega, by first | decide | assumption | omega⟩) | ((with_reducible show (0 : Int) < _); omega) | ((with_reducible show (0 : Int) ≤ _); omega) | ((with_reducible show scal _ _ = true); rfl)))) fun H4 e4 => q H4 (e3.trans e4)

def numRe (t : List Nat) : Re := match numOf t with
  | some x => .val (.int x)
  | none => .err "NotWritten"
def sp_number_of (K : PySem.W.Frag) : Sp := fun vs H Q E => ∃ t : List Nat, vs = [.str (S t)] ∧ t.length ≤ 100000 ∧ Give K (numRe t) H Q E
theorem figs_take : signsL.take 10 = figsL := rfl
theorem sc_number_of : FnScope ["text", "figures", "sign", "number"] ["text"] (defScope s_number_of) := ⟨rfl, rfl, rfl, by decide +kernel, rfl, by decide +kernel, by decide +kernel⟩
theorem ok_number_of {P : Program} {w : World} {K : PySem.W.Frag} {mg : Str → Option Value} {base : Heap} (T : TXT K mg) : OK P w K mg base "number_of" ["text"] 2 (sp_number_of K) := by
  obtain ⟨fd, F⟩ := T.def_ 5
  refine ⟨_, fd, T.glo 4, F.kp, F.bindsN (fun _ _ _ _ _ _ us hl => match us, hl with | [_], _ => rfl), F.ok sc_number_of (fun vs H Q E h => ?_) (fun cdv A outer s H vs Q E hr h => ?_), F.bindsA (fun _ _ _ _ _ _ us hl => match us, hl with | [_], _ => rfl)⟩
  · first | (obtain ⟨rfl, _⟩ := h; rfl) | (obtain ⟨_, rfl, _⟩ := h; rfl) | (obtain ⟨_, _, rfl, _⟩ := h; rfl) | (obtain ⟨_, _, _, rfl, _⟩ := h; rfl) | (obtain ⟨_, _, _, _, rfl, _⟩ := h; rfl) | (obtain ⟨_, _, _, _, _, rfl, _⟩ := h; rfl) | (obtain ⟨_, _, _, _, _, _, rfl, _⟩ := h; rfl) | (obtain ⟨_, _, _, _, _, _, _, rfl, _⟩ := h; rfl) | (obtain ⟨_, _, _, _, _, _, _, _, rfl, _⟩ := h; rfl)
  · replace F : FunD K "number_of" "number_of" (defArgs s_number_of) (defBody s_number_of) (defScope s_number_of) [] [] (He.ga K "number_of") fd := F
    refine ⟨_, (pss_cons (ps_set (i := 1) sc_number_of.nd rfl (Or.inl rfl) (pv 0))
      (pss_cons (ps_if (pt_val (pe_m1 PySem.F.slot_str_startswith PySem.F.type_str_startswith mt_startswith (pv 0) pe_str))
        (pss_one (ps_set (i := 1) sc_number_of.nd rfl (Or.inl rfl) (pe_slice C8.sl_txt (pv 0) (po_some pe_int) po_none)))
        pss_nil)
      (pss_cons (ps_if (PW.pt (pw_or (pt_not (pt_chain op_le op_le pe_int (pe_callB (id := "len") call_len_str (by rfl) (T.free 33) (by decide +kernel) (pa_cons (pv 1) pa_nil)) pe_int)) (pw_or (pt_not (pt_val (pe_callB (id := "all") (k_all K rfl) (by rfl) (T.free 28) (by decide +kernel) (pa_cons (pe_lc (own := [("sign", 2)]) (g := gName 2) (tt := tYes) rfl sc_number_of.nd (pi_str (pv 1)) (blkOk_by (N := ["text", "figures", "sign", "number"]) (sc := defScope s_number_of) (by decide +kernel)) (fun _ _ _ _ _ => pg_name (i := 2) sc_number_of.nd rfl (Or.inl rfl)) (fun _ _ _ _ _ => pts_nil) (fun _ _ _ _ _ => (pe_cmpR op_in_sign (pv 2) (pe_slice C8.sl_txt (pe_gs (T.str 39)) po_none (po_some pe_int)) (by rfl)))) pa_nil)))) (pw_or1 (pt_cmpR op_eq (pe_ix ix_str (pv 1) pe_int (fun _ _ => rfl)) pe_str (nomark _))))))
        (pss_one (ps_raise rfl (takes_of rfl rfl rfl rfl) (pmk_ex (T.fact 46) (T.glo 25))))
        pss_nil)
      (pss_cons (ps_set (i := 3) sc_number_of.nd rfl (Or.inl rfl) (pe_callTy (T := "int") call_int_str (by rfl) (T.free 31) (by decide +kernel) (pa_cons (pv 0) pa_nil)))
      (pss_cons (ps_if (PW.pt (pw_or (pt_chain op_le op_lt pe_int (pv 3) (pe_callB (id := "len") call_len_str (by rfl) (T.free 33) (by decide +kernel) (pa_cons (pe_gs (T.str 39)) pa_nil))) (pw_or1 (pt_not (pt_chain op_le op_le (pe_un un_neg (pe_gi (T.int 37))) (pv 3) (pe_gi (T.int 37)))))))
        (pss_one (ps_raise rfl (takes_of rfl rfl rfl rfl) (pmk_ex (T.fact 46) (T.glo 25))))
        pss_nil)
      (pss_one (ps_ret (pv 3)))))))), ?_⟩
    obtain ⟨t, rfl, hz, q⟩ := h
    dsimp only [cxOf, L2.start, List.map_cons, List.map_nil, List.length_cons, List.length_nil, Nat.reduceAdd, Nat.reduceSub, List.replicate_succ, List.replicate_zero, List.cons_append, List.nil_append, Nat.zero_add, List.reduceReplicate, List.map]
    rw [x_minus, x_zero, signs_S]
    refine q_asg (v := .str (S t)) (by (repeat' (first | with_reducible exact ev_c | ((with_reducible show Ev (tVar _) _ _ _); exact ev_var rfl) | with_reducible exact ea_nil | with_reducible exact eo_none | with_reducible refine' ea_cons ?_ ?_ | with_reducible refine' eo_some ?_ | with_reducible refine' ev_and2 ?_ ?_ | with_reducible refine' ev_or2 ?_ ?_ | with_reducible refine' ev_notV ?_ | with_reducible exact ru_I | with_reducible refine' ev_un ?_ ?_ | with_reducible exact rv_I0 | with_reducible exact rv_isN | with_reducible exact rv_notN | with_reducible refine' rv_I ?_ | with_reducible refine' rv_eq ?_ | with_reducible refine' rv_ne ?_ | with_reducible refine' ev_op ?_ ?_ ?_ | with_reducible refine' ev_chain2 ?_ ?_ ?_ ?_ ?_ | with_reducible refine' et_B ?_ | with_reducible refine' et_test ?_ | with_reducible refine' et_and2 ?_ ?_ | with_reducible refine' et_or2 ?_ ?_ | with_reducible refine' et_not ?_ | with_reducible refine' ev_call ?_ ?_ | with_reducible refine' ev_callS ?_ ?_ | with_reducible refine' ev_cb ?_ ?_ | with_reducible exact isi_bool (by assumption) | with_reducible exact isi_int (by assumption) | with_reducible exact isi_list (by assumption) | with_reducible exact rc_len (by assumption) | with_reducible exact rc_sum (by assumption) | with_reducible exact rc_abs | with_reducible exact isi_listL (by assumption) | with_reducible exact isi_intI | with_reducible exact isi_boolI | with_reducible exact rc_lenT (by assumption) | with_reducible exact isi_tup (by assumption) | with_reducible exact rv_eqL (by assumption) (by assumption) | with_reducible exact rv_neL (by assumption) (by assumption) | with_reducible exact rv_neT (by assumption) (by assumption) | with_reducible exact rv_ixL (by assumption) (by assumption) | with_reducible exact rv_ixT (by assumption) (by assumption) | with_reducible refine' ev_din ?_ ?_ (by assumption) | with_reducible refine' ev_dnotin ?_ ?_ (by assumption) | with_reducible refine' ev_dget ?_ ?_ (by assumption) (by assumption) | ((with_reducible show SpV _ _ _ _); assumption) | ((with_reducible show RV _ _ _ _ _); assumption) | ((with_reducible show RC _ _ _ _); assumption) | ((with_reducible show CDiv _ _); exact ⟨by omega, by omega⟩) | ((with_reducible show CMul _ _); first | exact .inl ⟨by omega, by omega⟩ | exact .inr ⟨by omega, by omega⟩) | ((with_reducible show CPow _ _); exact ⟨by omega, by omega, by first | decide | assumption | omega⟩) | ((with_reducible show (0 : Int) < _); omega) | ((with_reducible show (0 : Int) ≤ _); omega) | ((with_reducible show scal _ _ = true); rfl)))) fun H1 e1 => ?_
    have fe := figsOf_eq t
    have fz : (figsOf t).length ≤ 100000 := by
      rw [fe]
      split
      · rw [List.length_tail]
        omega
      · exact hz
    refine q_ifAsg (b := decide (t.head? = some 45)) (v := .str (S (figsOf t))) (et_B (ev_starts (ev_var rfl) ev_c)) (fun h => ?_) (fun h => ?_) fun H2 e2 => ?_
    · rw [fe, if_pos (of_decide_eq_true h)]
      have z := ev_slFrom (σ := [some (V.str (S t)), some (V.str (S t)), none, none]) (H := H1) (te := tVar 0) (t1 := tC (.int 1)) (i := 1) (l := t) (ev_var rfl) ev_c (by omega) hz
      rw [show (1 : Int).toNat = 1 from rfl, List.drop_one] at z
      exact z
    · rw [fe, if_neg (of_decide_eq_false h)]
      rfl
    have q1 := q
    have qerr : numOk t = false → ∀ H9, Ex H H9 → E (.ref (He.ga K "NotWritten")) none H9 := fun hn H9 e9 => by
      unfold numRe numOf at q1
      rw [hn] at q1
      exact q1 H9 e9
    have ls : RC (fun xs H Q => ∃ z : Str, xs = [.str z] ∧ z.length ≤ sizeLine ∧ Q (.int z.length) H) [.str (S (figsOf t))] H2 (.int ((figsOf t).length : Int)) := rc_lenS fz
    have za : (figsOf t).length ≤ 40000 → EvT (tB (tCB (rAll K) (tCons (tLc (iStr (tVar 1)) (gName 2) tYes (tOp (fun x y H Q => ∃ (c : Nat) (z : Str), x = V.str { cps := #[c] } ∧ y = V.str z ∧ Q (V.bl (decide (c ∈ z.cps.toList))) H) (tVar 2) (tSl C8.rSlX (tC (V.str (S signsL))) tNoPart (tPart (tC (V.int 10))))) [2]) tNil))) [some (V.str (S t)), some (V.str (S (figsOf t))), none, none] H2 ((figsOf t).all fun c => decide (c ∈ figsL)) := fun hl => by
      have z := el_lcS (σ := [some (V.str (S t)), some (V.str (S (figsOf t))), none, none]) (H := H2) (tl := tVar 1) (te := tOp (fun x y H Q => ∃ (c : Nat) (z : Str), x = V.str { cps := #[c] } ∧ y = V.str z ∧ Q (V.bl (decide (c ∈ z.cps.toList))) H) (tVar 2) (tSl C8.rSlX (tC (V.str (S signsL))) tNoPart (tPart (tC (V.int 10))))) (l := figsOf t) (j := 2) (vs := [2]) (fun c => V.bl (decide (c ∈ figsL))) (ev_var rfl) hl (fun _ => rfl) (fun c H3 e3 hc => ev_op (ev_var rfl) (ev_slTo (l := signsL) (i := 10) ev_c ev_c (by omega) (by decide)) rv_inS)
      have ee : (figsOf t).map (fun c => V.bl (decide (c ∈ figsL))) = ((figsOf t).map fun c => decide (c ∈ figsL)).map V.bl := by
        rw [List.map_map]
        rfl
      rw [ee] at z
      refine et_B (ev_is (ev_all z) ?_)
      rw [List.all_map]
      rfl
    have fa : ((figsOf t).all fun c => decide (c ∈ figsL)) = (figsOf t).all fun c => decide (48 ≤ c) && decide (c ≤ 57) := by
      congr 1
      funext c
      exact figs_mem c
    dsimp only [List.set] at *
    have e12 := e1.trans e2
    by_cases hb : figB t = true
    case neg =>
      have hb : figB t = false := by simpa using hb
      have hno : numOk t = false := by
        unfold numOk
        rw [hb]
        rfl
      refine q_when (b := true) ?_ (fun _ H3 e3 => qerr hno H3 (e12.trans e3)) (fun h => by cases h)
      by_cases hl : 1 ≤ (figsOf t).length ∧ (figsOf t).length ≤ 7
      · have hal : ((figsOf t).all fun c => decide (c ∈ figsL)) = false := by
          unfold figB at hb
          rw [decide_eq_true hl, Bool.true_and] at hb
          rw [fa]
          exact hb
        have z := za (by omega)
        rw [hal] at z
        refine et_is (et_or (a := !(decide ((1 : Int) ≤ ((figsOf t).length : Int)) && decide (((figsOf t).length : Int) ≤ 7))) (b := true) (by (repeat' (first | with_reducible exact ev_c | ((with_reducible show Ev (tVar _) _ _ _); exact ev_var rfl) | with_reducible exact ea_nil | with_reducible exact eo_none | with_reducible refine' ea_cons ?_ ?_ | with_reducible refine' eo_some ?_ | with_reducible refine' ev_and2 ?_ ?_ | with_reducible refine' ev_or2 ?_ ?_ | with_reducible refine' ev_notV ?_ | with_reducible exact ru_I | with_reducible refine' ev_un ?_ ?_ | with_reducible exact rv_I0 | with_reducible exact rv_isN | with_reducible exact rv_notN | with_reducible refine' rv_I ?_ | with_reducible refine' rv_eq ?_ | with_reducible refine' rv_ne ?_ | with_reducible refine' ev_op ?_ ?_ ?_ | with_reducible refine' ev_chain2 ?_ ?_ ?_ ?_ ?_ | with_reducible refine' et_B ?_ | with_reducible refine' et_test ?_ | with_reducible refine' et_and2 ?_ ?_ | with_reducible refine' et_or2 ?_ ?_ | with_reducible refine' et_not ?_ | with_reducible refine' ev_call ?_ ?_ | with_reducible refine' ev_callS ?_ ?_ | with_reducible refine' ev_cb ?_ ?_ | with_reducible exact isi_bool (by assumption) | with_reducible exact isi_int (by assumption) | with_reducible exact isi_list (by assumption) | with_reducible exact rc_len (by assumption) | with_reducible exact rc_sum (by assumption) | with_reducible exact rc_abs | with_reducible exact isi_listL (by assumption) | with_reducible exact isi_intI | with_reducible exact isi_boolI | with_reducible exact rc_lenT (by assumption) | with_reducible exact isi_tup (by assumption) | with_reducible exact rv_eqL (by assumption) (by assumption) | with_reducible exact rv_neL (by assumption) (by assumption) | with_reducible exact rv_neT (by assumption) (by assumption) | with_reducible exact rv_ixL (by assumption) (by assumption) | with_reducible exact rv_ixT (by assumption) (by assumption) | with_reducible refine' ev_din ?_ ?_ (by assumption) | with_reducible refine' ev_dnotin ?_ ?_ (by assumption) | with_reducible refine' ev_dget ?_ ?_ (by assumption) (by assumption) | ((with_reducible show SpV _ _ _ _); assumption) | ((with_reducible show RV _ _ _ _ _); assumption) | ((with_reducible show RC _ _ _ _); assumption) | ((with_reducible show CDiv _ _); exact ⟨by omega, by omega⟩) | ((with_reducible show CMul _ _); first | exact .inl ⟨by omega, by omega⟩ | exact .inr ⟨by omega, by omega⟩) | ((with_reducible show CPow _ _); exact ⟨by omega, by omega, by first | decide | assumption | omega⟩) | ((with_reducible show (0 : Int) < _); omega) | ((with_reducible show (0 : Int) ≤ _); omega) | ((with_reducible show scal _ _ = true); rfl)))) fun _ => et_is (et_or (a := !false) (b := true) (et_not z) fun h => by cases h) rfl) (by rw [Bool.or_true])
      · refine et_is (et_or (a := !(decide ((1 : Int) ≤ ((figsOf t).length : Int)) && decide (((figsOf t).length : Int) ≤ 7))) (b := true) (by (repeat' (first | with_reducible exact ev_c | ((with_reducible show Ev (tVar _) _ _ _); exact ev_var rfl) | with_reducible exact ea_nil | with_reducible exact eo_none | with_reducible refine' ea_cons ?_ ?_ | with_reducible refine' eo_some ?_ | with_reducible refine' ev_and2 ?_ ?_ | with_reducible refine' ev_or2 ?_ ?_ | with_reducible refine' ev_notV ?_ | with_reducible exact ru_I | with_reducible refine' ev_un ?_ ?_ | with_reducible exact rv_I0 | with_reducible exact rv_isN | with_reducible exact rv_notN | with_reducible refine' rv_I ?_ | with_reducible refine' rv_eq ?_ | with_reducible refine' rv_ne ?_ | with_reducible refine' ev_op ?_ ?_ ?_ | with_reducible refine' ev_chain2 ?_ ?_ ?_ ?_ ?_ | with_reducible refine' et_B ?_ | with_reducible refine' et_test ?_ | with_reducible refine' et_and2 ?_ ?_ | with_reducible refine' et_or2 ?_ ?_ | with_reducible refine' et_not ?_ | with_reducible refine' ev_call ?_ ?_ | with_reducible refine' ev_callS ?_ ?_ | with_reducible refine' ev_cb ?_ ?_ | with_reducible exact isi_bool (by assumption) | with_reducible exact isi_int (by assumption) | with_reducible exact isi_list (by assumption) | with_reducible exact rc_len (by assumption) | with_reducible exact rc_sum (by assumption) | with_reducible exact rc_abs | with_reducible exact isi_listL (by assumption) | with_reducible exact isi_intI | with_reducible exact isi_boolI | with_reducible exact rc_lenT (by assumption) | with_reducible exact isi_tup (by assumption) | with_reducible exact rv_eqL (by assumption) (by assumption) | with_reducible exact rv_neL (by assumption) (by assumption) | with_reducible exact rv_neT (by assumption) (by assumption) | with_reducible exact rv_ixL (by assumption) (by assumption) | with_reducible exact rv_ixT (by assumption) (by assumption) | with_reducible refine' ev_din ?_ ?_ (by assumption) | with_reducible refine' ev_dnotin ?_ ?_ (by assumption) | with_reducible refine' ev_dget ?_ ?_ (by assumption) (by assumption) | ((with_reducible show SpV _ _ _ _); assumption) | ((with_reducible show RV _ _ _ _ _); assumption) | ((with_reducible show RC _ _ _ _); assumption) | ((with_reducible show CDiv _ _); exact ⟨by omega, by omega⟩) | ((with_reducible show CMul _ _); first | exact .inl ⟨by omega, by omega⟩ | exact .inr ⟨by omega, by omega⟩) | ((with_reducible show CPow _ _); exact ⟨by omega, by omega, by first | decide | assumption | omega⟩) | ((with_reducible show (0 : Int) < _); omega) | ((with_reducible show (0 : Int) ≤ _); omega) | ((with_reducible show scal _ _ = true); rfl)))) fun h => ?_) (by rw [Bool.or_true])
        rw [Bool.not_eq_false', Bool.and_eq_true, decide_eq_true_iff, decide_eq_true_iff] at h
        exact absurd (show 1 ≤ (figsOf t).length ∧ (figsOf t).length ≤ 7 by omega) hl
    obtain ⟨l1, l7, had⟩ := figB_iff.mp hb
    have hal : ((figsOf t).all fun c => decide (c ∈ figsL)) = true := by
      have z := hb
      unfold figB at z
      rw [Bool.and_eq_true] at z
      rw [fa]
      exact z.2
    have z := za (by omega)
    rw [hal] at z
    obtain ⟨d, r, hd⟩ : ∃ d r, figsOf t = d :: r := by
      cases hf : figsOf t with
      | nil => rw [hf] at l1; simp at l1
      | cons d r => exact ⟨d, r, rfl⟩
    have ix : atI (figsOf t) 0 = some d := by
      rw [hd]
      exact atI_nat (show (d :: r)[0]? = some d from rfl)
    have hh : decide (V.str (S [d]) = V.str (S [48])) = decide ((figsOf t).head? = some 48) := by
      rw [dec_S, hd, decide_eq_decide]
      simp
    refine q_when (b := !(decide ((1 : Int) ≤ ((figsOf t).length : Int)) && decide (((figsOf t).length : Int) ≤ 7)) || (!true || decide (V.str (S [d]) = V.str (S [48])))) (et_or2 (by (repeat' (first | with_reducible exact ev_c | ((with_reducible show Ev (tVar _) _ _ _); exact ev_var rfl) | with_reducible exact ea_nil | with_reducible exact eo_none | with_reducible refine' ea_cons ?_ ?_ | with_reducible refine' eo_some ?_ | with_reducible refine' ev_and2 ?_ ?_ | with_reducible refine' ev_or2 ?_ ?_ | with_reducible refine' ev_notV ?_ | with_reducible exact ru_I | with_reducible refine' ev_un ?_ ?_ | with_reducible exact rv_I0 | with_reducible exact rv_isN | with_reducible exact rv_notN | with_reducible refine' rv_I ?_ | with_reducible refine' rv_eq ?_ | with_reducible refine' rv_ne ?_ | with_reducible refine' ev_op ?_ ?_ ?_ | with_reducible refine' ev_chain2 ?_ ?_ ?_ ?_ ?_ | with_reducible refine' et_B ?_ | with_reducible refine' et_test ?_ | with_reducible refine' et_and2 ?_ ?_ | with_reducible refine' et_or2 ?_ ?_ | with_reducible refine' et_not ?_ | with_reducible refine' ev_call ?_ ?_ | with_reducible refine' ev_callS ?_ ?_ | with_reducible refine' ev_cb ?_ ?_ | with_reducible exact isi_bool (by assumption) | with_reducible exact isi_int (by assumption) | with_reducible exact isi_list (by assumption) | with_reducible exact rc_len (by assumption) | with_reducible exact rc_sum (by assumption) | with_reducible exact rc_abs | with_reducible exact isi_listL (by assumption) | with_reducible exact isi_intI | with_reducible exact isi_boolI | with_reducible exact rc_lenT (by assumption) | with_reducible exact isi_tup (by assumption) | with_reducible exact rv_eqL (by assumption) (by assumption) | with_reducible exact rv_neL (by assumption) (by assumption) | with_reducible exact rv_neT (by assumption) (by assumption) | with_reducible exact rv_ixL (by assumption) (by assumption) | with_reducible exact rv_ixT (by assumption) (by assumption) | with_reducible refine' ev_din ?_ ?_ (by assumption) | with_reducible refine' ev_dnotin ?_ ?_ (by assumption) | with_reducible refine' ev_dget ?_ ?_ (by assumption) (by assumption) | ((with_reducible show SpV _ _ _ _); assumption) | ((with_reducible show RV _ _ _ _ _); assumption) | ((with_reducible show RC _ _ _ _); assumption) | ((with_reducible show CDiv _ _); exact ⟨by omega, by omega⟩) | ((with_reducible show CMul _ _); first | exact .inl ⟨by omega, by omega⟩ | exact .inr ⟨by omega, by omega⟩) | ((with_reducible show CPow _ _); exact ⟨by omega, by omega, by first | decide | assumption | omega⟩) | ((with_reducible show (0 : Int) < _); omega) | ((with_reducible show (0 : Int) ≤ _); omega) | ((with_reducible show scal _ _ = true); rfl)))) (et_or2 (et_not z) (et_test (ev_op (ev_op (ev_var rfl) ev_c (rv_ixS fz ix)) ev_c (rv_eq rfl))))) (fun h H3 e3 => ?_) (fun h H3 e3 => ?_)
    · rw [decide_eq_true (show (1 : Int) ≤ ((figsOf t).length : Int) by omega), decide_eq_true (show ((figsOf t).length : Int) ≤ 7 by omega), hh] at h
      simp only [Bool.and_self, Bool.not_true, Bool.false_or] at h
      refine qerr ?_ H3 (e12.trans e3)
      unfold numOk
      rw [h]
      simp
    rw [hh] at h
    simp only [Bool.or_eq_false_iff] at h
    have h48 := h.2.2
    have ri := rc_intS (H := H3) hb
    refine q_asg (v := .int (valOf t)) (by (repeat' (first | with_reducible exact ev_c | ((with_reducible show Ev (tVar _) _ _ _); exact ev_var rfl) | with_reducible exact ea_nil | with_reducible exact eo_none | with_reducible refine' ea_cons ?_ ?_ | with_reducible refine' eo_some ?_ | with_reducible refine' ev_and2 ?_ ?_ | with_reducible refine' ev_or2 ?_ ?_ | with_reducible refine' ev_notV ?_ | with_reducible exact ru_I | with_reducible refine' ev_un ?_ ?_ | with_reducible exact rv_I0 | with_reducible exact rv_isN | with_reducible exact rv_notN | with_reducible refine' rv_I ?_ | with_reducible refine' rv_eq ?_ | with_reducible refine' rv_ne ?_ | with_reducible refine' ev_op ?_ ?_ ?_ | with_reducible refine' ev_chain2 ?_ ?_ ?_ ?_ ?_ | with_reducible refine' et_B ?_ | with_reducible refine' et_test ?_ | with_reducible refine' et_and2 ?_ ?_ | with_reducible refine' et_or2 ?_ ?_ | with_reducible refine' et_not ?_ | with_reducible refine' ev_call ?_ ?_ | with_reducible refine' ev_callS ?_ ?_ | with_reducible refine' ev_cb ?_ ?_ | with_reducible exact isi_bool (by assumption) | with_reducible exact isi_int (by assumption) | with_reducible exact isi_list (by assumption) | with_reducible exact rc_len (by assumption) | with_reducible exact rc_sum (by assumption) | with_reducible exact rc_abs | with_reducible exact isi_listL (by assumption) | with_reducible exact isi_intI | with_reducible exact isi_boolI | with_reducible exact rc_lenT (by assumption) | with_reducible exact isi_tup (by assumption) | with_reducible exact rv_eqL (by assumption) (by assumption) | with_reducible exact rv_neL (by assumption) (by assumption) | with_reducible exact rv_neT (by assumption) (by assumption) | with_reducible exact rv_ixL (by assumption) (by assumption) | with_reducible exact rv_ixT (by assumption) (by assumption) | with_reducible refine' ev_din ?_ ?_ (by assumption) | with_reducible refine' ev_dnotin ?_ ?_ (by assumption) | with_reducible refine' ev_dget ?_ ?_ (by assumption) (by assumption) | ((with_reducible show SpV _ _ _ _); assumption) | ((with_reducible show RV _ _ _ _ _); assumption) | ((with_reducible show RC _ _ _ _); assumption) | ((with_reducible show CDiv _ _); exact ⟨by omega, by omega⟩) | ((with_reducible show CMul _ _); first | exact .inl ⟨by omega, by omega⟩ | exact .inr ⟨by omega, by omega⟩) | ((with_reducible show CPow _ _); exact ⟨by omega, by omega, by first | decide | assumption | omega⟩) | ((with_reducible show (0 : Int) < _); omega) | ((with_reducible show (0 : Int) ≤ _); omega) | ((with_reducible show scal _ _ = true); rfl)))) fun H4 e4 => ?_
    have e34 := e3.trans e4
    have ls4 : RC (fun xs H Q => ∃ z : Str, xs = [.str z] ∧ z.length ≤ sizeLine ∧ Q (.int z.length) H) [.str (S signsL)] H4 (.int (signsL.length : Int)) := rc_lenS (by decide)
    have s36 : (signsL.length : Int) = 36 := rfl
    refine q_when (b := (decide (0 ≤ valOf t) && decide (valOf t < (signsL.length : Int))) || !(decide (-1000000 ≤ valOf t) && decide (valOf t ≤ 1000000))) (by (repeat' (first | with_reducible exact ev_c | ((with_reducible show Ev (tVar _) _ _ _); exact ev_var rfl) | with_reducible exact ea_nil | with_reducible exact eo_none | with_reducible refine' ea_cons ?_ ?_ | with_reducible refine' eo_some ?_ | with_reducible refine' ev_and2 ?_ ?_ | with_reducible refine' ev_or2 ?_ ?_ | with_reducible refine' ev_notV ?_ | with_reducible exact ru_I | with_reducible refine' ev_un ?_ ?_ | with_reducible exact rv_I0 | with_reducible exact rv_isN | with_reducible exact rv_notN | with_reducible refine' rv_I ?_ | with_reducible refine' rv_eq ?_ | with_reducible refine' rv_ne ?_ | with_reducible refine' ev_op ?_ ?_ ?_ | with_reducible refine' ev_chain2 ?_ ?_ ?_ ?_ ?_ | with_reducible refine' et_B ?_ | with_reducible refine' et_test ?_ | with_reducible refine' et_and2 ?_ ?_ | with_reducible refine' et_or2 ?_ ?_ | with_reducible refine' et_not ?_ | with_reducible refine' ev_call ?_ ?_ | with_reducible refine' ev_callS ?_ ?_ | with_reducible refine' ev_cb ?_ ?_ | with_reducible exact isi_bool (by assumption) | with_reducible exact isi_int (by assumption) | with_reducible exact isi_list (by assumption) | with_reducible exact rc_len (by assumption) | with_reducible exact rc_sum (by assumption) | with_reducible exact rc_abs | with_reducible exact isi_listL (by assumption) | with_reducible exact isi_intI | with_reducible exact isi_boolI | with_reducible exact rc_lenT (by assumption) | with_reducible exact isi_tup (by assumption) | with_reducible exact rv_eqL (by assumption) (by assumption) | with_reducible exact rv_neL (by assumption) (by assumption) | with_reducible exact rv_neT (by assumption) (by assumption) | with_reducible exact rv_ixL (by assumption) (by assumption) | with_reducible exact rv_ixT (by assumption) (by assumption) | with_reducible refine' ev_din ?_ ?_ (by assumption) | with_reducible refine' ev_dnotin ?_ ?_ (by assumption) | with_reducible refine' ev_dget ?_ ?_ (by assumption) (by assumption) | ((with_reducible show SpV _ _ _ _); assumption) | ((with_reducible show RV _ _ _ _ _); assumption) | ((with_reducible show RC _ _ _ _); assumption) | ((with_reducible show CDiv _ _); exact ⟨by omega, by omega⟩) | ((with_reducible show CMul _ _); first | exact .inl ⟨by omega, by omega⟩ | exact .inr ⟨by omega, by omega⟩) | ((with_reducible show CPow _ _); exact ⟨by omega, by omega, by first | decide | assumption | omega⟩) | ((with_reducible show (0 : Int) < _); omega) | ((with_reducible show (0 : Int) ≤ _); omega) | ((with_reducible show scal _ _ = true); rfl)))) (fun h H5 e5 => ?_) (fun h H5 e5 => ?_)
    · refine qerr ?_ H5 ((e12.trans e34).trans e5)
      rw [s36] at h
      unfold numOk
      rw [hb, h48]
      by_cases c1 : 0 ≤ valOf t ∧ valOf t < 36
      · rw [decide_eq_true c1]
        rfl
      · rw [decide_eq_false c1]
        have : ¬ (-1000000 ≤ valOf t ∧ valOf t ≤ 1000000) := fun c2 => by
          rw [decide_eq_true c2.1, decide_eq_true c2.2, Bool.or_eq_true, Bool.and_eq_true, decide_eq_true_iff, decide_eq_true_iff] at h
          rcases h with h | h
          · exact c1 h
          · cases h
        rw [decide_eq_false this]
        rfl
    · rw [s36, Bool.or_eq_false_iff, Bool.and_eq_false_iff, Bool.not_eq_false', Bool.and_eq_true, decide_eq_false_iff_not, decide_eq_false_iff_not, decide_eq_true_iff, decide_eq_true_iff] at h
      have hok : numOk t = true := by
        unfold numOk
        rw [hb, h48, decide_eq_false (show ¬ (0 ≤ valOf t ∧ valOf t < 36) by omega), decide_eq_true h.2]
        rfl
      unfold numRe numOf at q1
      rw [if_pos hok] at q1
      exact s_ret (by (repeat' (first | with_reducible exact ev_c | ((with_reducible show Ev (tVar _) _ _ _); exact ev_var rfl) | with_reducible exact ea_nil | with_reducible exact eo_none | with_reducible refine' ea_cons ?_ ?_ | with_reducible refine' eo_some ?_ | with_reducible refine' ev_and2 ?_ ?_ | with_reducible refine' ev_or2 ?_ ?_ | with_reducible refine' ev_notV ?_ | with_reducible exact ru_I | with_reducible refine' ev_un ?_ ?_ | with_reducible exact rv_I0 | with_reducible exact rv_isN | with_reducible exact rv_notN | with_reducible refine' rv_I ?_ | with_reducible refine' rv_eq ?_ | with_reducible refine' rv_ne ?_ | with_reducible refine' ev_op ?_ ?_ ?_ | with_reducible refine' ev_chain2 ?_ ?_ ?_ ?_ ?_ | with_reducible refine' et_B ?_ | with_reducible refine' et_test ?_ | with_reducible refine' et_and2 ?_ ?_ | with_reducible refine' et_or2 ?_ ?_ | with_reducible refine' et_not ?_ | with_reducible refine' ev_call ?_ ?_ | with_reducible refine' ev_callS ?_ ?_ | with_reducible refine' ev_cb ?_ ?_ | with_reducible exact isi_bool (by assumption) | with_reducible exact isi_int (by assumption) | with_reducible exact isi_list (by assumption) | with_reducible exact rc_len (by assumption) | with_reducible exact rc_sum (by assumption) | with_reducible exact rc_abs | with_reducible exact isi_listL (by assumption) | with_reducible exact isi_intI | with_reducible exact isi_boolI | with_reducible exact rc_lenT (by assumption) | with_reducible exact isi_tup (by assumption) | with_reducible exact rv_eqL (by assumption) (by assumption) | with_reducible exact rv_neL (by assumption) (by assumption) | with_reducible exact rv_neT (by assumption) (by assumption) | with_reducible exact rv_ixL (by assumption) (by assumption) | with_reducible exact rv_ixT (by assumption) (by assumption) | with_reducible refine' ev_din ?_ ?_ (by assumption) | with_reducible refine' ev_dnotin ?_ ?_ (by assumption) | with_reducible refine' ev_dget ?_ ?_ (by assumption) (by assumption) | ((with_reducible show SpV _ _ _ _); assumption) | ((with_reducible show RV _ _ _ _ _); assumption) | ((with_reducible show RC _ _ _ _); assumption) | ((with_reducible show CDiv _ _); exact ⟨by omega, by omega⟩) | ((with_reducible show CMul _ _); first | exact .inl ⟨by omega, by omega⟩ | exact .inr ⟨by omega, by omega⟩) | ((with_reducible show CPow _ _); exact ⟨by omega, by omega, by first | decide | assumption | omega⟩) | ((with_reducible show (0 : Int) < _); omega) | ((with_reducible show (0 : Int) ≤ _); omega) | ((with_reducible show scal _ _ = true); rfl)))) fun H6 e6 => q1 H6 (((e12.trans e34).trans e5).trans e6)

def readRe (t : List Nat) : Re := match readOf t with
  | some ns => .lst (ns.map V.int)
  | none => .err "NotWritten"
theorem parse_stop {n : Nat} {acc : List Int} {c : Nat} {r : List Nat} (hs : sgn c = none) (h : c ≠ 40 ∨ TL.par [41] [] r = none) : parse (n + 1) acc (c :: r) = none := by
  rw [parse_cons, hs]
  dsimp only
  by_cases c1 : c = 40
  · rw [if_pos c1]
    rcases h with h | h
    · exact absurd c1 h
    · rw [h]
  · rw [if_neg c1]
theorem parse_num {n : Nat} {acc : List Int} {p q : List Nat} (h : 41 ∉ p) : parse (n + 1) acc (40 :: (p ++ 41 :: q)) = match numOf p with
    | none => none
    | some x => parse n (acc ++ [x]) q := by
  rw [parse_cons, show sgn 40 = none from rfl]
  dsimp only
  rw [if_pos rfl, par_of h]
  all_goals dsimp only
  all_goals (cases numOf p <;> rfl)
def sp_read (K : PySem.W.Frag) : Sp := fun vs H Q E => ∃ v, vs = [v] ∧ ((∃ t : List Nat, v = .str (S t) ∧ t.length ≤ 40000 ∧ Give K (readRe t) H Q E) ∨ (Kd H v ∧ isS v = false ∧ Give K (.err "NotWritten") H Q E))
theorem sc_read : FnScope ["text", "row", "left", "head", "bracket", "tail"] ["text"] (defScope s_read) := ⟨rfl, rfl, rfl, by decide +kernel, rfl, by decide +kernel, by decide +kernel⟩
theorem ok_read {P : Program} {w : World} {K : PySem.W.Frag} {mg : Str → Option Value} {base : Heap} (T : TXT K mg) : OK P w K mg base "read" ["text"] 3 (sp_read K) := by
  have O_number_of := ok_number_of (P := P) (w := w) (base := base) T
  obtain ⟨fd, F⟩ := T.def_ 6
  refine ⟨_, fd, T.glo 5, F.kp, F.bindsN (fun _ _ _ _ _ _ us hl => match us, hl with | [_], _ => rfl), F.ok sc_read (fun vs H Q E h => ?_) (fun cdv A outer s H vs Q E hr h => ?_), F.bindsA (fun _ _ _ _ _ _ us hl => match us, hl with | [_], _ => rfl)⟩
  · first | (obtain ⟨rfl, _⟩ := h; rfl) | (obtain ⟨_, rfl, _⟩ := h; rfl) | (obtain ⟨_, _, rfl, _⟩ := h; rfl) | (obtain ⟨_, _, _, rfl, _⟩ := h; rfl) | (obtain ⟨_, _, _, _, rfl, _⟩ := h; rfl) | (obtain ⟨_, _, _, _, _, rfl, _⟩ := h; rfl) | (obtain ⟨_, _, _, _, _, _, rfl, _⟩ := h; rfl) | (obtain ⟨_, _, _, _, _, _, _, rfl, _⟩ := h; rfl) | (obtain ⟨_, _, _, _, _, _, _, _, rfl, _⟩ := h; rfl)
  · replace F : FunD K "read" "read" (defArgs s_read) (defBody s_read) (defScope s_read) [] [] (He.ga K "read") fd := F
    refine ⟨_, (pss_cons (ps_if (pt_not (pt_val (pe_callB (id := "isinstance") (k_isi K) (by rfl) (T.free 32) (by decide +kernel) (pa_cons (pv 0) (pa_cons (pe_ty (T := "str") (T.free 36) (by decide +kernel)) pa_nil)))))
        (pss_one (ps_raise rfl (takes_of rfl rfl rfl rfl) (pmk_ex (T.fact 46) (T.glo 25))))
        pss_nil)
      (pss_cons (ps_set (i := 1) sc_read.nd rfl (Or.inl rfl) (pe_lst pa_nil))
      (pss_cons (ps_set (i := 2) sc_read.nd rfl (Or.inl rfl) (pv 0))
      (pss_cons (ps_while (passes_of rfl) (pt_cmpR op_ne (pv 2) pe_str (nomark _))
        (pss_one (ps_if (pt_cmpR op_in_sign (pe_ix ix_str (pv 2) pe_int (fun _ _ => rfl)) (pe_gs (T.str 39)) (by rfl))
        (pss_cons (ps_expr (pe_bm PySem.F.plainAttrs_list PySem.F.slot_list_append PySem.F.type_list_append mt_append (pv 1) (pa_cons (pe_m1 PySem.F.slot_str_index PySem.F.type_str_index mt_sindex (pe_gs (T.str 39)) (pe_ix ix_str (pv 2) pe_int (fun _ _ => rfl))) pa_nil)))
      (pss_one (ps_set (i := 2) sc_read.nd rfl (Or.inl rfl) (pe_slice C8.sl_txt (pv 2) (po_some pe_int) po_none))))
        (pss_cons (ps_asg (pe_partition (pv 2) pe_str) (pg_tup rfl (pgs_cons (pg_name (i := 3) sc_read.nd rfl (Or.inl rfl)) (pgs_cons (pg_name (i := 4) sc_read.nd rfl (Or.inl rfl)) (pgs_cons (pg_name (i := 5) sc_read.nd rfl (Or.inl rfl)) pgs_nil)))))
      (pss_cons (ps_if (PW.pt (pw_or (pt_cmpR op_eq (pv 4) pe_str (nomark _)) (pw_or1 (pt_not (pt_val (pe_m1 PySem.F.slot_str_startswith PySem.F.type_str_startswith mt_startswith (pv 3) pe_str))))))
        (pss_one (ps_raise rfl (takes_of rfl rfl rfl rfl) (pmk_ex (T.fact 46) (T.glo 25))))
        pss_nil)
      (pss_cons (ps_expr (pe_bm PySem.F.plainAttrs_list PySem.F.slot_list_append PySem.F.type_list_append mt_append (pv 1) (pa_cons (pe_own O_number_of (hr.mono (by decide)) (by rfl) (passes_call (takes_of rfl rfl rfl rfl) (fun _ _ _ _ h => h)) (pa_cons (pe_slice C8.sl_txt (pv 3) (po_some pe_int) po_none) pa_nil)) pa_nil)))
      (pss_one (ps_set (i := 2) sc_read.nd rfl (Or.inl rfl) (pv 5)))))))))
      (pss_cons (ps_if (pt_not (pt_chain op_le op_le pe_int (pe_callB (id := "len") (k_len K) (by rfl) (T.free 33) (by decide +kernel) (pa_cons (pv 1) pa_nil)) (pe_gi (T.int 38))))
        (pss_one (ps_raise rfl (takes_of rfl rfl rfl rfl) (pmk_ex (T.fact 46) (T.glo 25))))
        pss_nil)
      (pss_one (ps_ret (pv 1)))))))), ?_⟩
    obtain ⟨v, rfl, h⟩ := h
    dsimp only [cxOf, L2.start, List.map_cons, List.map_nil, List.length_cons, List.length_nil, Nat.reduceAdd, Nat.reduceSub, List.replicate_succ, List.replicate_zero, List.cons_append, List.nil_append, Nat.zero_add, List.reduceReplicate, List.map]
    rcases h with ⟨t, rfl, hz, q⟩ | ⟨hk, hs, q⟩
    case inr =>
      have si := isi_str (K := K) hk
      rw [hs] at si
      exact q_when (b := !false) (by (repeat' (first | with_reducible exact ev_c | ((with_reducible show Ev (tVar _) _ _ _); exact ev_var rfl) | with_reducible exact ea_nil | with_reducible exact eo_none | with_reducible refine' ea_cons ?_ ?_ | with_reducible refine' eo_some ?_ | with_reducible refine' ev_and2 ?_ ?_ | with_reducible refine' ev_or2 ?_ ?_ | with_reducible refine' ev_notV ?_ | with_reducible exact ru_I | with_reducible refine' ev_un ?_ ?_ | with_reducible exact rv_I0 | with_reducible exact rv_isN | with_reducible exact rv_notN | with_reducible refine' rv_I ?_ | with_reducible refine' rv_eq ?_ | with_reducible refine' rv_ne ?_ | with_reducible refine' ev_op ?_ ?_ ?_ | with_reducible refine' ev_chain2 ?_ ?_ ?_ ?_ ?_ | with_reducible refine' et_B ?_ | with_reducible refine' et_test ?_ | with_reducible refine' et_and2 ?_ ?_ | with_reducible refine' et_or2 ?_ ?_ | with_reducible refine' et_not ?_ | with_reducible refine' ev_call ?_ ?_ | with_reducible refine' ev_callS ?_ ?_ | with_reducible refine' ev_cb ?_ ?_ | with_reducible exact isi_bool (by assumption) | with_reducible exact isi_int (by assumption) | with_reducible exact isi_list (by assumption) | with_reducible exact rc_len (by assumption) | with_reducible exact rc_sum (by assumption) | with_reducible exact rc_abs | with_reducible exact isi_listL (by assumption) | with_reducible exact isi_intI | with_reducible exact isi_boolI | with_reducible exact rc_lenT (by assumption) | with_reducible exact isi_tup (by assumption) | with_reducible exact rv_eqL (by assumption) (by assumption) | with_reducible exact rv_neL (by assumption) (by assumption) | with_reducible exact rv_neT (by assumption) (by assumption) | with_reducible exact rv_ixL (by assumption) (by assumption) | with_reducible exact rv_ixT (by assumption) (by assumption) | with_reducible refine' ev_din ?_ ?_ (by assumption) | with_reducible refine' ev_dnotin ?_ ?_ (by assumption) | with_reducible refine' ev_dget ?_ ?_ (by assumption) (by assumption) | ((with_reducible show SpV _ _ _ _); assumption) | ((with_reducible show RV _ _ _ _ _); assumption) | ((with_reducible show RC _ _ _ _); assumption) | ((with_reducible show CDiv _ _); exact ⟨by omega, by omega⟩) | ((with_reducible show CMul _ _); first | exact .inl ⟨by omega, by omega⟩ | exact .inr ⟨by omega, by omega⟩) | ((with_reducible show CPow _ _); exact ⟨by omega, by omega, by first | decide | assumption | omega⟩) | ((with_reducible show (0 : Int) < _); omega) | ((with_reducible show (0 : Int) ≤ _); omega) | ((with_reducible show scal _ _ = true); rfl)))) (fun _ H2 e2 => q H2 e2) (fun h => by cases h)
    have si := isi_str (K := K) (H := H) (Kd.str (S t))
    refine q_when (b := !isS (V.str (S t))) (by (repeat' (first | with_reducible exact ev_c | ((with_reducible show Ev (tVar _) _ _ _); exact ev_var rfl) | with_reducible exact ea_nil | with_reducible exact eo_none | with_reducible refine' ea_cons ?_ ?_ | with_reducible refine' eo_some ?_ | with_reducible refine' ev_and2 ?_ ?_ | with_reducible refine' ev_or2 ?_ ?_ | with_reducible refine' ev_notV ?_ | with_reducible exact ru_I | with_reducible refine' ev_un ?_ ?_ | with_reducible exact rv_I0 | with_reducible exact rv_isN | with_reducible exact rv_notN | with_reducible refine' rv_I ?_ | with_reducible refine' rv_eq ?_ | with_reducible refine' rv_ne ?_ | with_reducible refine' ev_op ?_ ?_ ?_ | with_reducible refine' ev_chain2 ?_ ?_ ?_ ?_ ?_ | with_reducible refine' et_B ?_ | with_reducible refine' et_test ?_ | with_reducible refine' et_and2 ?_ ?_ | with_reducible refine' et_or2 ?_ ?_ | with_reducible refine' et_not ?_ | with_reducible refine' ev_call ?_ ?_ | with_reducible refine' ev_callS ?_ ?_ | with_reducible refine' ev_cb ?_ ?_ | with_reducible exact isi_bool (by assumption) | with_reducible exact isi_int (by assumption) | with_reducible exact isi_list (by assumption) | with_reducible exact rc_len (by assumption) | with_reducible exact rc_sum (by assumption) | with_reducible exact rc_abs | with_reducible exact isi_listL (by assumption) | with_reducible exact isi_intI | with_reducible exact isi_boolI | with_reducible exact rc_lenT (by assumption) | with_reducible exact isi_tup (by assumption) | with_reducible exact rv_eqL (by assumption) (by assumption) | with_reducible exact rv_neL (by assumption) (by assumption) | with_reducible exact rv_neT (by assumption) (by assumption) | with_reducible exact rv_ixL (by assumption) (by assumption) | with_reducible exact rv_ixT (by assumption) (by assumption) | with_reducible refine' ev_din ?_ ?_ (by assumption) | with_reducible refine' ev_dnotin ?_ ?_ (by assumption) | with_reducible refine' ev_dget ?_ ?_ (by assumption) (by assumption) | ((with_reducible show SpV _ _ _ _); assumption) | ((with_reducible show RV _ _ _ _ _); assumption) | ((with_reducible show RC _ _ _ _); assumption) | ((with_reducible show CDiv _ _); exact ⟨by omega, by omega⟩) | ((with_reducible show CMul _ _); first | exact .inl ⟨by omega, by omega⟩ | exact .inr ⟨by omega, by omega⟩) | ((with_reducible show CPow _ _); exact ⟨by omega, by omega, by first | decide | assumption | omega⟩) | ((with_reducible show (0 : Int) < _); omega) | ((with_reducible show (0 : Int) ≤ _); omega) | ((with_reducible show scal _ _ = true); rfl)))) (fun h => by cases h) (fun _ H1 e1 => ?_)
    rw [x_empty, x_open, x_close, signs_S]
    have qerr : parse t.length [] t = none → ∀ H9, Ex H H9 → E (.ref (He.ga K "NotWritten")) none H9 := fun hn H9 e9 => by
      unfold readRe readOf at q
      rw [hn] at q
      exact q H9 e9
    refine q_asgL (xs := []) (el_lst ea_nil (by decide)) fun l H2 hl e2 h2 => ?_
    have e02 := e1.trans e2
    have hl0 : H l = none := fresh_back e1 hl
    refine q_asg (v := .str (S t)) (by (repeat' (first | with_reducible exact ev_c | ((with_reducible show Ev (tVar _) _ _ _); exact ev_var rfl) | with_reducible exact ea_nil | with_reducible exact eo_none | with_reducible refine' ea_cons ?_ ?_ | with_reducible refine' eo_some ?_ | with_reducible refine' ev_and2 ?_ ?_ | with_reducible refine' ev_or2 ?_ ?_ | with_reducible refine' ev_notV ?_ | with_reducible exact ru_I | with_reducible refine' ev_un ?_ ?_ | with_reducible exact rv_I0 | with_reducible exact rv_isN | with_reducible exact rv_notN | with_reducible refine' rv_I ?_ | with_reducible refine' rv_eq ?_ | with_reducible refine' rv_ne ?_ | with_reducible refine' ev_op ?_ ?_ ?_ | with_reducible refine' ev_chain2 ?_ ?_ ?_ ?_ ?_ | with_reducible refine' et_B ?_ | with_reducible refine' et_test ?_ | with_reducible refine' et_and2 ?_ ?_ | with_reducible refine' et_or2 ?_ ?_ | with_reducible refine' et_not ?_ | with_reducible refine' ev_call ?_ ?_ | with_reducible refine' ev_callS ?_ ?_ | with_reducible refine' ev_cb ?_ ?_ | with_reducible exact isi_bool (by assumption) | with_reducible exact isi_int (by assumption) | with_reducible exact isi_list (by assumption) | with_reducible exact rc_len (by assumption) | with_reducible exact rc_sum (by assumption) | with_reducible exact rc_abs | with_reducible exact isi_listL (by assumption) | with_reducible exact isi_intI | with_reducible exact isi_boolI | with_reducible exact rc_lenT (by assumption) | with_reducible exact isi_tup (by assumption) | with_reducible exact rv_eqL (by assumption) (by assumption) | with_reducible exact rv_neL (by assumption) (by assumption) | with_reducible exact rv_neT (by assumption) (by assumption) | with_reducible exact rv_ixL (by assumption) (by assumption) | with_reducible exact rv_ixT (by assumption) (by assumption) | with_reducible refine' ev_din ?_ ?_ (by assumption) | with_reducible refine' ev_dnotin ?_ ?_ (by assumption) | with_reducible refine' ev_dget ?_ ?_ (by assumption) (by assumption) | ((with_reducible show SpV _ _ _ _); assumption) | ((with_reducible show RV _ _ _ _ _); assumption) | ((with_reducible show RC _ _ _ _); assumption) | ((with_reducible show CDiv _ _); exact ⟨by omega, by omega⟩) | ((with_reducible show CMul _ _); first | exact .inl ⟨by omega, by omega⟩ | exact .inr ⟨by omega, by omega⟩) | ((with_reducible show CPow _ _); exact ⟨by omega, by omega, by first | decide | assumption | omega⟩) | ((with_reducible show (0 : Int) < _); omega) | ((with_reducible show (0 : Int) ≤ _); omega) | ((with_reducible show scal _ _ = true); rfl)))) fun H3 e3 => ?_
    refine q_while (fun m σ' H' => ∃ (acc : List Int) (left : List Nat) (y3 y4 y5 : Option V), σ' = [some (V.str (S t)), some (V.ref l), some (V.str (S left)), y3, y4, y5] ∧ Ex H1 H' ∧ H' l = some (.lst (acc.map V.int)) ∧ (∃ n, left.length ≤ n ∧ parse n acc left = parse t.length [] t) ∧ acc.length + left.length ≤ t.length ∧ m = left.length) t.length ⟨[], t, _, _, _, rfl, e2.trans e3, e3 _ _ h2, ⟨_, Nat.le_refl _, rfl⟩, by simp, rfl⟩ ?_
    rintro m σ' H4 ⟨acc, left, y3, y4, y5, rfl, e4, h4, ⟨n, hn, hp⟩, hsz, rfl⟩
    refine ⟨!decide (V.str (S left) = V.str (S [])), by (repeat' (first | with_reducible exact ev_c | ((with_reducible show Ev (tVar _) _ _ _); exact ev_var rfl) | with_reducible exact ea_nil | with_reducible exact eo_none | with_reducible refine' ea_cons ?_ ?_ | with_reducible refine' eo_some ?_ | with_reducible refine' ev_and2 ?_ ?_ | with_reducible refine' ev_or2 ?_ ?_ | with_reducible refine' ev_notV ?_ | with_reducible exact ru_I | with_reducible refine' ev_un ?_ ?_ | with_reducible exact rv_I0 | with_reducible exact rv_isN | with_reducible exact rv_notN | with_reducible refine' rv_I ?_ | with_reducible refine' rv_eq ?_ | with_reducible refine' rv_ne ?_ | with_reducible refine' ev_op ?_ ?_ ?_ | with_reducible refine' ev_chain2 ?_ ?_ ?_ ?_ ?_ | with_reducible refine' et_B ?_ | with_reducible refine' et_test ?_ | with_reducible refine' et_and2 ?_ ?_ | with_reducible refine' et_or2 ?_ ?_ | with_reducible refine' et_not ?_ | with_reducible refine' ev_call ?_ ?_ | with_reducible refine' ev_callS ?_ ?_ | with_reducible refine' ev_cb ?_ ?_ | with_reducible exact isi_bool (by assumption) | with_reducible exact isi_int (by assumption) | with_reducible exact isi_list (by assumption) | with_reducible exact rc_len (by assumption) | with_reducible exact rc_sum (by assumption) | with_reducible exact rc_abs | with_reducible exact isi_listL (by assumption) | with_reducible exact isi_intI | with_reducible exact isi_boolI | with_reducible exact rc_lenT (by assumption) | with_reducible exact isi_tup (by assumption) | with_reducible exact rv_eqL (by assumption) (by assumption) | with_reducible exact rv_neL (by assumption) (by assumption) | with_reducible exact rv_neT (by assumption) (by assumption) | with_reducible exact rv_ixL (by assumption) (by assumption) | with_reducible exact rv_ixT (by assumption) (by assumption) | with_reducible refine' ev_din ?_ ?_ (by assumption) | with_reducible refine' ev_dnotin ?_ ?_ (by assumption) | with_reducible refine' ev_dget ?_ ?_ (by assumption) (by assumption) | ((with_reducible show SpV _ _ _ _); assumption) | ((with_reducible show RV _ _ _ _ _); assumption) | ((with_reducible show RC _ _ _ _); assumption) | ((with_reducible show CDiv _ _); exact ⟨by omega, by omega⟩) | ((with_reducible show CMul _ _); first | exact .inl ⟨by omega, by omega⟩ | exact .inr ⟨by omega, by omega⟩) | ((with_reducible show CPow _ _); exact ⟨by omega, by omega, by first | decide | assumption | omega⟩) | ((with_reducible show (0 : Int) < _); omega) | ((with_reducible show (0 : Int) ≤ _); omega) | ((with_reducible show scal _ _ = true); rfl))), fun hb H5 e5 => ?_, fun hb H5 e5 => ?_⟩
    case refine_2 =>
      rw [Bool.not_eq_false', dec_S, decide_eq_true_iff] at hb
      subst hb
      rw [parse_nil] at hp
      have h5 := e5 _ _ h4
      have s5 := sq_of (K := K) h5
      have ll : (acc.map V.int).length = acc.length := List.length_map ..
      refine q_when (b := !(decide ((1 : Int) ≤ ((acc.map V.int).length : Int)) && decide (((acc.map V.int).length : Int) ≤ 60))) (by (repeat' (first | with_reducible exact ev_c | ((with_reducible show Ev (tVar _) _ _ _); exact ev_var rfl) | with_reducible exact ea_nil | with_reducible exact eo_none | with_reducible refine' ea_cons ?_ ?_ | with_reducible refine' eo_some ?_ | with_reducible refine' ev_and2 ?_ ?_ | with_reducible refine' ev_or2 ?_ ?_ | with_reducible refine' ev_notV ?_ | with_reducible exact ru_I | with_reducible refine' ev_un ?_ ?_ | with_reducible exact rv_I0 | with_reducible exact rv_isN | with_reducible exact rv_notN | with_reducible refine' rv_I ?_ | with_reducible refine' rv_eq ?_ | with_reducible refine' rv_ne ?_ | with_reducible refine' ev_op ?_ ?_ ?_ | with_reducible refine' ev_chain2 ?_ ?_ ?_ ?_ ?_ | with_reducible refine' et_B ?_ | with_reducible refine' et_test ?_ | with_reducible refine' et_and2 ?_ ?_ | with_reducible refine' et_or2 ?_ ?_ | with_reducible refine' et_not ?_ | with_reducible refine' ev_call ?_ ?_ | with_reducible refine' ev_callS ?_ ?_ | with_reducible refine' ev_cb ?_ ?_ | with_reducible exact isi_bool (by assumption) | with_reducible exact isi_int (by assumption) | with_reducible exact isi_list (by assumption) | with_reducible exact rc_len (by assumption) | with_reducible exact rc_sum (by assumption) | with_reducible exact rc_abs | with_reducible exact isi_listL (by assumption) | with_reducible exact isi_intI | with_reducible exact isi_boolI | with_reducible exact rc_lenT (by assumption) | with_reducible exact isi_tup (by assumption) | with_reducible exact rv_eqL (by assumption) (by assumption) | with_reducible exact rv_neL (by assumption) (by assumption) | with_reducible exact rv_neT (by assumption) (by assumption) | with_reducible exact rv_ixL (by assumption) (by assumption) | with_reducible exact rv_ixT (by assumption) (by assumption) | with_reducible refine' ev_din ?_ ?_ (by assumption) | with_reducible refine' ev_dnotin ?_ ?_ (by assumption) | with_reducible refine' ev_dget ?_ ?_ (by assumption) (by assumption) | ((with_reducible show SpV _ _ _ _); assumption) | ((with_reducible show RV _ _ _ _ _); assumption) | ((with_reducible show RC _ _ _ _); assumption) | ((with_reducible show CDiv _ _); exact ⟨by omega, by omega⟩) | ((with_reducible show CMul _ _); first | exact .inl ⟨by omega, by omega⟩ | exact .inr ⟨by omega, by omega⟩) | ((with_reducible show CPow _ _); exact ⟨by omega, by omega, by first | decide | assumption | omega⟩) | ((with_reducible show (0 : Int) < _); omega) | ((with_reducible show (0 : Int) ≤ _); omega) | ((with_reducible show scal _ _ = true); rfl)))) (fun h H6 e6 => ?_) (fun h H6 e6 => ?_)
      · rw [ll, Bool.not_eq_true', Bool.and_eq_false_iff, decide_eq_false_iff_not, decide_eq_false_iff_not] at h
        unfold readRe readOf at q
        rw [← hp] at q
        dsimp only at q
        rw [if_neg (by omega)] at q
        exact q H6 (((e1.trans e4).trans e5).trans e6)
      · rw [ll, Bool.not_eq_false', Bool.and_eq_true, decide_eq_true_iff, decide_eq_true_iff] at h
        unfold readRe readOf at q
        rw [← hp] at q
        dsimp only at q
        rw [if_pos (by omega)] at q
        exact s_ret (v := .ref l) (by (repeat' (first | with_reducible exact ev_c | ((with_reducible show Ev (tVar _) _ _ _); exact ev_var rfl) | with_reducible exact ea_nil | with_reducible exact eo_none | with_reducible refine' ea_cons ?_ ?_ | with_reducible refine' eo_some ?_ | with_reducible refine' ev_and2 ?_ ?_ | with_reducible refine' ev_or2 ?_ ?_ | with_reducible refine' ev_notV ?_ | with_reducible exact ru_I | with_reducible refine' ev_un ?_ ?_ | with_reducible exact rv_I0 | with_reducible exact rv_isN | with_reducible exact rv_notN | with_reducible refine' rv_I ?_ | with_reducible refine' rv_eq ?_ | with_reducible refine' rv_ne ?_ | with_reducible refine' ev_op ?_ ?_ ?_ | with_reducible refine' ev_chain2 ?_ ?_ ?_ ?_ ?_ | with_reducible refine' et_B ?_ | with_reducible refine' et_test ?_ | with_reducible refine' et_and2 ?_ ?_ | with_reducible refine' et_or2 ?_ ?_ | with_reducible refine' et_not ?_ | with_reducible refine' ev_call ?_ ?_ | with_reducible refine' ev_callS ?_ ?_ | with_reducible refine' ev_cb ?_ ?_ | with_reducible exact isi_bool (by assumption) | with_reducible exact isi_int (by assumption) | with_reducible exact isi_list (by assumption) | with_reducible exact rc_len (by assumption) | with_reducible exact rc_sum (by assumption) | with_reducible exact rc_abs | with_reducible exact isi_listL (by assumption) | with_reducible exact isi_intI | with_reducible exact isi_boolI | with_reducible exact rc_lenT (by assumption) | with_reducible exact isi_tup (by assumption) | with_reducible exact rv_eqL (by assumption) (by assumption) | with_reducible exact rv_neL (by assumption) (by assumption) | with_reducible exact rv_neT (by assumption) (by assumption) | with_reducible exact rv_ixL (by assumption) (by assumption) | with_reducible exact rv_ixT (by assumption) (by assumption) | with_reducible refine' ev_din ?_ ?_ (by assumption) | with_reducible refine' ev_dnotin ?_ ?_ (by assumption) | with_reducible refine' ev_dget ?_ ?_ (by assumption) (by assumption) | ((with_reducible show SpV _ _ _ _); assumption) | ((with_reducible show RV _ _ _ _ _); assumption) | ((with_reducible show RC _ _ _ _); assumption) | ((with_reducible show CDiv _ _); exact ⟨by omega, by omega⟩) | ((with_reducible show CMul _ _); first | exact .inl ⟨by omega, by omega⟩ | exact .inr ⟨by omega, by omega⟩) | ((with_reducible show CPow _ _); exact ⟨by omega, by omega, by first | decide | assumption | omega⟩) | ((with_reducible show (0 : Int) < _); omega) | ((with_reducible show (0 : Int) ≤ _); omega) | ((with_reducible show scal _ _ = true); rfl)))) fun H7 e7 => q l H7 hl0 ((((e1.trans e4).trans e5).trans e6).trans e7) ((e6.trans e7) _ _ h5)
    rw [Bool.not_eq_true', dec_S, decide_eq_false_iff_not] at hb
    obtain ⟨c, r, rfl⟩ := List.exists_cons_of_ne_nil hb
    have lz : (c :: r).length = r.length + 1 := rfl
    obtain ⟨n, rfl⟩ : ∃ k, n = k + 1 := ⟨n - 1, by omega⟩
    have e05 := (e1.trans e4).trans e5
    have h5 := e5 _ _ h4
    have ix : Ev (tOp rIxS (tVar 2) (tC (V.int 0))) [some (V.str (S t)), some (V.ref l), some (V.str (S (c :: r))), y3, y4, y5] H5 (.str (S [c])) := ev_op (ev_var rfl) ev_c (rv_ixS (by omega) (atI_nat (show (c :: r)[0]? = some c from rfl)))
    refine ⟨fun σ2 H' => ∃ (acc : List Int) (left : List Nat) (y3 y4 y5 : Option V), σ2 = [some (V.str (S t)), some (V.ref l), some (V.str (S left)), y3, y4, y5] ∧ Ex H1 H' ∧ H' l = some (.lst (acc.map V.int)) ∧ (∃ n, left.length ≤ n ∧ parse n acc left = parse t.length [] t) ∧ acc.length + left.length ≤ t.length ∧ left.length < r.length + 1, fun σ2 H' ⟨acc, left, y3, y4, y5, a1, a2, a3, a4, a5, a6⟩ => ⟨left.length, a6, acc, left, y3, y4, y5, a1, a2, a3, a4, a5, rfl⟩, ?_⟩
    show tIfS _ _ _ _ _ _
    refine s_if (b := (sgn c).isSome) (et_is (et_test (ev_op ix ev_c rv_inS)) (sgn_mem c)) (fun hc H6 e6 => ?_) (fun hc H6 e6 => ?_)
    · obtain ⟨k, hk⟩ := Option.isSome_iff_exists.mp hc
      obtain ⟨k36, ks, kn⟩ := sgn_at hk
      have hpar : TL.par [c] [] signsL = some (signsL.take k, signsL.drop (k + 1)) := by
        conv => lhs; rw [ks]
        exact par_of kn
      have hlk : (signsL.take k).length = k := by
        rw [List.length_take]
        exact Nat.min_eq_left (by show k ≤ 36; omega)
      have ix6 : Ev (tOp rIxS (tVar 2) (tC (V.int 0))) [some (V.str (S t)), some (V.ref l), some (V.str (S (c :: r))), y3, y4, y5] H6 (.str (S [c])) := ev_op (ev_var rfl) ev_c (rv_ixS (by omega) (atI_nat (show (c :: r)[0]? = some c from rfl)))
      have zi := ev_sindex (t1 := tC (V.str (S signsL))) (σ := [some (V.str (S t)), some (V.ref l), some (V.str (S (c :: r))), y3, y4, y5]) (H := H6) ev_c ix6 hpar
      rw [hlk] at zi
      have h6 := e6 _ _ h5
      refine q_app (xs := acc.map V.int) (v := .int (k : Int)) h6 (by (repeat' (first | with_reducible exact ev_c | ((with_reducible show Ev (tVar _) _ _ _); exact ev_var rfl) | with_reducible exact ea_nil | with_reducible exact eo_none | with_reducible refine' ea_cons ?_ ?_ | with_reducible refine' eo_some ?_ | with_reducible refine' ev_and2 ?_ ?_ | with_reducible refine' ev_or2 ?_ ?_ | with_reducible refine' ev_notV ?_ | with_reducible exact ru_I | with_reducible refine' ev_un ?_ ?_ | with_reducible exact rv_I0 | with_reducible exact rv_isN | with_reducible exact rv_notN | with_reducible refine' rv_I ?_ | with_reducible refine' rv_eq ?_ | with_reducible refine' rv_ne ?_ | with_reducible refine' ev_op ?_ ?_ ?_ | with_reducible refine' ev_chain2 ?_ ?_ ?_ ?_ ?_ | with_reducible refine' et_B ?_ | with_reducible refine' et_test ?_ | with_reducible refine' et_and2 ?_ ?_ | with_reducible refine' et_or2 ?_ ?_ | with_reducible refine' et_not ?_ | with_reducible refine' ev_call ?_ ?_ | with_reducible refine' ev_callS ?_ ?_ | with_reducible refine' ev_cb ?_ ?_ | with_reducible exact isi_bool (by assumption) | with_reducible exact isi_int (by assumption) | with_reducible exact isi_list (by assumption) | with_reducible exact rc_len (by assumption) | with_reducible exact rc_sum (by assumption) | with_reducible exact rc_abs | with_reducible exact isi_listL (by assumption) | with_reducible exact isi_intI | with_reducible exact isi_boolI | with_reducible exact rc_lenT (by assumption) | with_reducible exact isi_tup (by assumption) | with_reducible exact rv_eqL (by assumption) (by assumption) | with_reducible exact rv_neL (by assumption) (by assumption) | with_reducible exact rv_neT (by assumption) (by assumption) | with_reducible exact rv_ixL (by assumption) (by assumption) | with_reducible exact rv_ixT (by assumption) (by assumption) | with_reducible refine' ev_din ?_ ?_ (by assumption) | with_reducible refine' ev_dnotin ?_ ?_ (by assumption) | with_reducible refine' ev_dget ?_ ?_ (by assumption) (by assumption) | ((with_reducible show SpV _ _ _ _); assumption) | ((with_reducible show RV _ _ _ _ _); assumption) | ((with_reducible show RC _ _ _ _); assumption) | ((with_reducible show CDiv _ _); exact ⟨by omega, by omega⟩) | ((with_reducible show CMul _ _); first | exact .inl ⟨by omega, by omega⟩ | exact .inr ⟨by omega, by omega⟩) | ((with_reducible show CPow _ _); exact ⟨by omega, by omega, by first | decide | assumption | omega⟩) | ((with_reducible show (0 : Int) < _); omega) | ((with_reducible show (0 : Int) ≤ _); omega) | ((with_reducible show scal _ _ = true); rfl)))) zi (by rw [List.length_map]; omega) fun H7 e7 => ?_
      refine s_asg (v := .str (S r)) (ev_slFrom (l := c :: r) (i := 1) (ev_var rfl) ev_c (by omega) (by omega)) fun H8 e8 => ?_
      refine ⟨acc ++ [(k : Int)], r, _, _, _, rfl, (Ex.mut (((e4.trans e5).trans e6).trans e7) hl).trans e8, e8 _ _ ?_, ⟨n, by omega, ?_⟩, ?_, by omega⟩
      · rw [upd_same, List.map_append]
        rfl
      · rw [← hp, parse_cons, hk]
      · rw [List.length_append]
        simp
        omega
    · have hs : sgn c = none := by
        cases hg : sgn c with
        | none => rfl
        | some k => rw [hg] at hc; cases hc
      cases hpar : TL.par [41] [] (c :: r) with
      | none =>
        have hn41 := TB.par_none hpar
        have hstop : parse t.length [] t = none := by
          rw [← hp]
          exact parse_stop hs (.inr (par_head_none fun hm => hn41 (List.mem_cons_of_mem _ hm)))
        refine q_part (p1 := c :: r) (p2 := []) (p3 := []) (ev_var rfl) ev_c (by omega) (partition_none (by simp) hpar) rfl fun H7 e7 => ?_
        refine q_when (b := true) (et_is (et_or (a := decide (V.str (S []) = V.str (S []))) (b := false) (by (repeat' (first | with_reducible exact ev_c | ((with_reducible show Ev (tVar _) _ _ _); exact ev_var rfl) | with_reducible exact ea_nil | with_reducible exact eo_none | with_reducible refine' ea_cons ?_ ?_ | with_reducible refine' eo_some ?_ | with_reducible refine' ev_and2 ?_ ?_ | with_reducible refine' ev_or2 ?_ ?_ | with_reducible refine' ev_notV ?_ | with_reducible exact ru_I | with_reducible refine' ev_un ?_ ?_ | with_reducible exact rv_I0 | with_reducible exact rv_isN | with_reducible exact rv_notN | with_reducible refine' rv_I ?_ | with_reducible refine' rv_eq ?_ | with_reducible refine' rv_ne ?_ | with_reducible refine' ev_op ?_ ?_ ?_ | with_reducible refine' ev_chain2 ?_ ?_ ?_ ?_ ?_ | with_reducible refine' et_B ?_ | with_reducible refine' et_test ?_ | with_reducible refine' et_and2 ?_ ?_ | with_reducible refine' et_or2 ?_ ?_ | with_reducible refine' et_not ?_ | with_reducible refine' ev_call ?_ ?_ | with_reducible refine' ev_callS ?_ ?_ | with_reducible refine' ev_cb ?_ ?_ | with_reducible exact isi_bool (by assumption) | with_reducible exact isi_int (by assumption) | with_reducible exact isi_list (by assumption) | with_reducible exact rc_len (by assumption) | with_reducible exact rc_sum (by assumption) | with_reducible exact rc_abs | with_reducible exact isi_listL (by assumption) | with_reducible exact isi_intI | with_reducible exact isi_boolI | with_reducible exact rc_lenT (by assumption) | with_reducible exact isi_tup (by assumption) | with_reducible exact rv_eqL (by assumption) (by assumption) | with_reducible exact rv_neL (by assumption) (by assumption) | with_reducible exact rv_neT (by assumption) (by assumption) | with_reducible exact rv_ixL (by assumption) (by assumption) | with_reducible exact rv_ixT (by assumption) (by assumption) | with_reducible refine' ev_din ?_ ?_ (by assumption) | with_reducible refine' ev_dnotin ?_ ?_ (by assumption) | with_reducible refine' ev_dget ?_ ?_ (by assumption) (by assumption) | ((with_reducible show SpV _ _ _ _); assumption) | ((with_reducible show RV _ _ _ _ _); assumption) | ((with_reducible show RC _ _ _ _); assumption) | ((with_reducible show CDiv _ _); exact ⟨by omega, by omega⟩) | ((with_reducible show CMul _ _); first | exact .inl ⟨by omega, by omega⟩ | exact .inr ⟨by omega, by omega⟩) | ((with_reducible show CPow _ _); exact ⟨by omega, by omega, by first | decide | assumption | omega⟩) | ((with_reducible show (0 : Int) < _); omega) | ((with_reducible show (0 : Int) ≤ _); omega) | ((with_reducible show scal _ _ = true); rfl)))) fun h => by
          rw [decide_eq_true rfl] at h
          cases h) (by rw [decide_eq_true rfl]; rfl)) (fun _ H8 e8 => qerr hstop H8 (((e05.trans e6).trans e7).trans e8)) (fun h => by cases h)
      | some pq =>
        obtain ⟨p, w⟩ := pq
        obtain ⟨es, hn41⟩ := par_some hpar
        refine q_part (p1 := p) (p2 := [41]) (p3 := w) (ev_var rfl) ev_c (by omega) (partition_some (by simp) hpar) rfl fun H7 e7 => ?_
        dsimp only [List.set]
        have eb : decide (V.str (S [41]) = V.str (S [])) = false := by
          rw [dec_S]
          rfl
        refine q_when (b := decide (V.str (S [41]) = V.str (S [])) || !decide (p.head? = some 40)) (et_or2 (by (repeat' (first | with_reducible exact ev_c | ((with_reducible show Ev (tVar _) _ _ _); exact ev_var rfl) | with_reducible exact ea_nil | with_reducible exact eo_none | with_reducible refine' ea_cons ?_ ?_ | with_reducible refine' eo_some ?_ | with_reducible refine' ev_and2 ?_ ?_ | with_reducible refine' ev_or2 ?_ ?_ | with_reducible refine' ev_notV ?_ | with_reducible exact ru_I | with_reducible refine' ev_un ?_ ?_ | with_reducible exact rv_I0 | with_reducible exact rv_isN | with_reducible exact rv_notN | with_reducible refine' rv_I ?_ | with_reducible refine' rv_eq ?_ | with_reducible refine' rv_ne ?_ | with_reducible refine' ev_op ?_ ?_ ?_ | with_reducible refine' ev_chain2 ?_ ?_ ?_ ?_ ?_ | with_reducible refine' et_B ?_ | with_reducible refine' et_test ?_ | with_reducible refine' et_and2 ?_ ?_ | with_reducible refine' et_or2 ?_ ?_ | with_reducible refine' et_not ?_ | with_reducible refine' ev_call ?_ ?_ | with_reducible refine' ev_callS ?_ ?_ | with_reducible refine' ev_cb ?_ ?_ | with_reducible exact isi_bool (by assumption) | with_reducible exact isi_int (by assumption) | with_reducible exact isi_list (by assumption) | with_reducible exact rc_len (by assumption) | with_reducible exact rc_sum (by assumption) | with_reducible exact rc_abs | with_reducible exact isi_listL (by assumption) | with_reducible exact isi_intI | with_reducible exact isi_boolI | with_reducible exact rc_lenT (by assumption) | with_reducible exact isi_tup (by assumption) | with_reducible exact rv_eqL (by assumption) (by assumption) | with_reducible exact rv_neL (by assumption) (by assumption) | with_reducible exact rv_neT (by assumption) (by assumption) | with_reducible exact rv_ixL (by assumption) (by assumption) | with_reducible exact rv_ixT (by assumption) (by assumption) | with_reducible refine' ev_din ?_ ?_ (by assumption) | with_reducible refine' ev_dnotin ?_ ?_ (by assumption) | with_reducible refine' ev_dget ?_ ?_ (by assumption) (by assumption) | ((with_reducible show SpV _ _ _ _); assumption) | ((with_reducible show RV _ _ _ _ _); assumption) | ((with_reducible show RC _ _ _ _); assumption) | ((with_reducible show CDiv _ _); exact ⟨by omega, by omega⟩) | ((with_reducible show CMul _ _); first | exact .inl ⟨by omega, by omega⟩ | exact .inr ⟨by omega, by omega⟩) | ((with_reducible show CPow _ _); exact ⟨by omega, by omega, by first | decide | assumption | omega⟩) | ((with_reducible show (0 : Int) < _); omega) | ((with_reducible show (0 : Int) ≤ _); omega) | ((with_reducible show scal _ _ = true); rfl)))) (et_not (et_B (ev_starts (ev_var rfl) ev_c)))) (fun h H8 e8 => ?_) (fun h H8 e8 => ?_)
        · rw [eb, Bool.false_or, Bool.not_eq_true', decide_eq_false_iff_not] at h
          have hstop : parse t.length [] t = none := by
            rw [← hp]
            refine parse_stop hs ?_
            cases p with
            | nil =>
              simp at es
              exact .inl (by omega)
            | cons a p =>
              simp at es h
              exact .inl (by omega)
          exact qerr hstop H8 (((e05.trans e6).trans e7).trans e8)
        · rw [eb, Bool.false_or, Bool.not_eq_false', decide_eq_true_iff] at h
          cases p with
          | nil => cases h
          | cons a p =>
            simp at h es
            obtain ⟨rfl, rfl⟩ := es
            subst h
            have hp41 : 41 ∉ p := fun hm => hn41 (List.mem_cons_of_mem _ hm)
            rw [parse_num hp41] at hp
            have e68 := (e6.trans e7).trans e8
            have h8 := e68 _ _ h5
            have pz : p.length + 1 + w.length ≤ (p ++ 41 :: w).length := by
              rw [List.length_append, List.length_cons]
              omega
            refine q_appC (xs := acc.map V.int) (vs := [.str (S p)]) h8 (by (repeat' (first | with_reducible exact ev_c | ((with_reducible show Ev (tVar _) _ _ _); exact ev_var rfl) | with_reducible exact ea_nil | with_reducible exact eo_none | with_reducible refine' ea_cons ?_ ?_ | with_reducible refine' eo_some ?_ | with_reducible refine' ev_and2 ?_ ?_ | with_reducible refine' ev_or2 ?_ ?_ | with_reducible refine' ev_notV ?_ | with_reducible exact ru_I | with_reducible refine' ev_un ?_ ?_ | with_reducible exact rv_I0 | with_reducible exact rv_isN | with_reducible exact rv_notN | with_reducible refine' rv_I ?_ | with_reducible refine' rv_eq ?_ | with_reducible refine' rv_ne ?_ | with_reducible refine' ev_op ?_ ?_ ?_ | with_reducible refine' ev_chain2 ?_ ?_ ?_ ?_ ?_ | with_reducible refine' et_B ?_ | with_reducible refine' et_test ?_ | with_reducible refine' et_and2 ?_ ?_ | with_reducible refine' et_or2 ?_ ?_ | with_reducible refine' et_not ?_ | with_reducible refine' ev_call ?_ ?_ | with_reducible refine' ev_callS ?_ ?_ | with_reducible refine' ev_cb ?_ ?_ | with_reducible exact isi_bool (by assumption) | with_reducible exact isi_int (by assumption) | with_reducible exact isi_list (by assumption) | with_reducible exact rc_len (by assumption) | with_reducible exact rc_sum (by assumption) | with_reducible exact rc_abs | with_reducible exact isi_listL (by assumption) | with_reducible exact isi_intI | with_reducible exact isi_boolI | with_reducible exact rc_lenT (by assumption) | with_reducible exact isi_tup (by assumption) | with_reducible exact rv_eqL (by assumption) (by assumption) | with_reducible exact rv_neL (by assumption) (by assumption) | with_reducible exact rv_neT (by assumption) (by assumption) | with_reducible exact rv_ixL (by assumption) (by assumption) | with_reducible exact rv_ixT (by assumption) (by assumption) | with_reducible refine' ev_din ?_ ?_ (by assumption) | with_reducible refine' ev_dnotin ?_ ?_ (by assumption) | with_reducible refine' ev_dget ?_ ?_ (by assumption) (by assumption) | ((with_reducible show SpV _ _ _ _); assumption) | ((with_reducible show RV _ _ _ _ _); assumption) | ((with_reducible show RC _ _ _ _); assumption) | ((with_reducible show CDiv _ _); exact ⟨by omega, by omega⟩) | ((with_reducible show CMul _ _); first | exact .inl ⟨by omega, by omega⟩ | exact .inr ⟨by omega, by omega⟩) | ((with_reducible show CPow _ _); exact ⟨by omega, by omega, by first | decide | assumption | omega⟩) | ((with_reducible show (0 : Int) < _); omega) | ((with_reducible show (0 : Int) ≤ _); omega) | ((with_reducible show scal _ _ = true); rfl)))) (ea_cons (ev_slFrom (l := 40 :: p) (i := 1) (ev_var rfl) ev_c (by omega) (by simp; omega)) ea_nil) fun H9 e9 => ⟨p, rfl, by omega, ?_⟩
            unfold numRe
            cases hno : numOf p with
            | none =>
              rw [hno] at hp
              exact fun H10 e10 => qerr hp.symm H10 (((e05.trans e68).trans e9).trans e10)
            | some x =>
              rw [hno] at hp
              intro H10 e10
              refine ⟨l, acc.map V.int, .int x, rfl, rfl, (e9.trans e10) _ _ h8, sz_lt (by rw [List.length_map]; omega), ?_⟩
              refine s_asg (v := .str (S w)) (by (repeat' (first | with_reducible exact ev_c | ((with_reducible show Ev (tVar _) _ _ _); exact ev_var rfl) | with_reducible exact ea_nil | with_reducible exact eo_none | with_reducible refine' ea_cons ?_ ?_ | with_reducible refine' eo_some ?_ | with_reducible refine' ev_and2 ?_ ?_ | with_reducible refine' ev_or2 ?_ ?_ | with_reducible refine' ev_notV ?_ | with_reducible exact ru_I | with_reducible refine' ev_un ?_ ?_ | with_reducible exact rv_I0 | with_reducible exact rv_isN | with_reducible exact rv_notN | with_reducible refine' rv_I ?_ | with_reducible refine' rv_eq ?_ | with_reducible refine' rv_ne ?_ | with_reducible refine' ev_op ?_ ?_ ?_ | with_reducible refine' ev_chain2 ?_ ?_ ?_ ?_ ?_ | with_reducible refine' et_B ?_ | with_reducible refine' et_test ?_ | with_reducible refine' et_and2 ?_ ?_ | with_reducible refine' et_or2 ?_ ?_ | with_reducible refine' et_not ?_ | with_reducible refine' ev_call ?_ ?_ | with_reducible refine' ev_callS ?_ ?_ | with_reducible refine' ev_cb ?_ ?_ | with_reducible exact isi_bool (by assumption) | with_reducible exact isi_int (by assumption) | with_reducible exact isi_list (by assumption) | with_reducible exact rc_len (by assumption) | with_reducible exact rc_sum (by assumption) | with_reducible exact rc_abs | with_reducible exact isi_listL (by assumption) | with_reducible exact isi_intI | with_reducible exact isi_boolI | with_reducible exact rc_lenT (by assumption) | with_reducible exact isi_tup (by assumption) | with_reducible exact rv_eqL (by assumption) (by assumption) | with_reducible exact rv_neL (by assumption) (by assumption) | with_reducible exact rv_neT (by assumption) (by assumption) | with_reducible exact rv_ixL (by assumption) (by assumption) | with_reducible exact rv_ixT (by assumption) (by assumption) | with_reducible refine' ev_din ?_ ?_ (by assumption) | with_reducible refine' ev_dnotin ?_ ?_ (by assumption) | with_reducible refine' ev_dget ?_ ?_ (by assumption) (by assumption) | ((with_reducible show SpV _ _ _ _); assumption) | ((with_reducible show RV _ _ _ _ _); assumption) | ((with_reducible show RC _ _ _ _); assumption) | ((with_reducible show CDiv _ _); exact ⟨by omega, by omega⟩) | ((with_reducible show CMul _ _); first | exact .inl ⟨by omega, by omega⟩ | exact .inr ⟨by omega, by omega⟩) | ((with_reducible show CPow _ _); exact ⟨by omega, by omega, by first | decide | assumption | omega⟩) | ((with_reducible show (0 : Int) < _); omega) | ((with_reducible show (0 : Int) ≤ _); omega) | ((with_reducible show scal _ _ = true); rfl)))) fun H11 e11 => ?_
              refine ⟨acc ++ [x], w, _, _, _, rfl, (Ex.mut ((((e4.trans e5).trans e68).trans e9).trans e10) hl).trans e11, e11 _ _ ?_, ⟨n, by omega, hp⟩, ?_, by omega⟩
              · rw [upd_same, List.map_append]
                rfl
              · rw [List.length_append]
                simp
                omega

end TB

/-! ### the laws' own makers: cells, sizes, spots, throws -/
namespace TB
open PySem PySem.Spec PyProof.Rows L2 Evl
def sp_cell (K : PySem.W.Frag) : Sp := fun vs H Q E => ∃ (a : Addr) (ns : List Int) (k : Nat), vs = [.ref a, .int (k : Int)] ∧ SqL K H a (ns.map V.int) ∧ RetV (.int (ns.getD k 0)) H Q
theorem sv_cell {K : PySem.W.Frag} {H : Hp} {a : Addr} {ns : List Int} {k : Nat} (h : SqL K H a (ns.map V.int)) : SpV (sp_cell K) [.ref a, .int (k : Int)] H (.int (ns.getD k 0)) := spv_of fun H1 e Q E q => ⟨a, ns, k, rfl, ex_l e h, q⟩
theorem sc__law_cell_at : FnScope ["_law_script", "_law_k"] ["_law_script", "_law_k"] (defScope s__law_cell_at) := ⟨rfl, rfl, rfl, by decide +kernel, rfl, by decide +kernel, by decide +kernel⟩
theorem ok__law_cell_at {P : Program} {w : World} {K : PySem.W.Frag} {mg : Str → Option Value} {base : Heap} (T : TXT K mg) : OK P w K mg base "_law_cell_at" ["_law_script", "_law_k"] 1 (sp_cell K) := by
  obtain ⟨fd, F⟩ := T.def_ 7
  refine ⟨_, fd, T.glo 6, F.kp, F.bindsN (fun _ _ _ _ _ _ us hl => match us, hl with | [_, _], _ => rfl), F.ok sc__law_cell_at (fun vs H Q E h => ?_) (fun cdv A outer s H vs Q E hr h => ?_), F.bindsA (fun _ _ _ _ _ _ us hl => match us, hl with | [_, _], _ => rfl)⟩
  · first | (obtain ⟨rfl, _⟩ := h; rfl) | (obtain ⟨_, rfl, _⟩ := h; rfl) | (obtain ⟨_, _, rfl, _⟩ := h; rfl) | (obtain ⟨_, _, _, rfl, _⟩ := h; rfl) | (obtain ⟨_, _, _, _, rfl, _⟩ := h; rfl) | (obtain ⟨_, _, _, _, _, rfl, _⟩ := h; rfl) | (obtain ⟨_, _, _, _, _, _, rfl, _⟩ := h; rfl) | (obtain ⟨_, _, _, _, _, _, _, rfl, _⟩ := h; rfl) | (obtain ⟨_, _, _, _, _, _, _, _, rfl, _⟩ := h; rfl)
  · replace F : FunD K "_law_cell_at" "_law_cell_at" (defArgs s__law_cell_at) (defBody s__law_cell_at) (defScope s__law_cell_at) [] [] (He.ga K "_law_cell_at") fd := F
    refine ⟨_, (pss_cons (ps_if (pt_cmpR op_lt (pv 1) (pe_callB (id := "len") (k_len K) (by rfl) (T.free 33) (by decide +kernel) (pa_cons (pv 0) pa_nil)) (nomark _))
        (pss_one (ps_ret (pe_ix (k_ixL K) (pv 0) (pv 1) (fun _ _ => rfl))))
        pss_nil)
      (pss_one (ps_ret pe_int))), ?_⟩
    obtain ⟨a, ns, k, rfl, hs, q⟩ := h
    dsimp only [cxOf, L2.start, List.map_cons, List.map_nil, List.length_cons, List.length_nil, Nat.reduceAdd, Nat.reduceSub, List.replicate_succ, List.replicate_zero, List.cons_append, List.nil_append, Nat.zero_add, List.reduceReplicate, List.map]
    refine q_when (b := decide ((k : Int) < (ns.length : Int))) ?_ (fun hb H1 e1 => ?_) (fun hb H1 e1 => ?_)
    · apply et_is
      · (repeat' (first | with_reducible exact ev_c | ((with_reducible show Ev (tVar _) _ _ _); exact ev_var rfl) | with_reducible exact ea_nil | with_reducible exact eo_none | with_reducible refine' ea_cons ?_ ?_ | with_reducible refine' eo_some ?_ | with_reducible refine' ev_and2 ?_ ?_ | with_reducible refine' ev_or2 ?_ ?_ | with_reducible refine' ev_notV ?_ | with_reducible exact ru_I | with_reducible refine' ev_un ?_ ?_ | with_reducible exact rv_I0 | with_reducible exact rv_isN | with_reducible exact rv_notN | with_reducible refine' rv_I ?_ | with_reducible refine' rv_eq ?_ | with_reducible refine' rv_ne ?_ | with_reducible refine' ev_op ?_ ?_ ?_ | with_reducible refine' ev_chain2 ?_ ?_ ?_ ?_ ?_ | with_reducible refine' et_B ?_ | with_reducible refine' et_test ?_ | with_reducible refine' et_and2 ?_ ?_ | with_reducible refine' et_or2 ?_ ?_ | with_reducible refine' et_not ?_ | with_reducible refine' ev_call ?_ ?_ | with_reducible refine' ev_callS ?_ ?_ | with_reducible refine' ev_cb ?_ ?_ | with_reducible exact isi_bool (by assumption) | with_reducible exact isi_int (by assumption) | with_reducible exact isi_list (by assumption) | with_reducible exact rc_len (by assumption) | with_reducible exact rc_sum (by assumption) | with_reducible exact rc_abs | with_reducible exact isi_listL (by assumption) | with_reducible exact isi_intI | with_reducible exact isi_boolI | with_reducible exact rc_lenT (by assumption) | with_reducible exact isi_tup (by assumption) | with_reducible exact rv_eqL (by assumption) (by assumption) | with_reducible exact rv_neL (by assumption) (by assumption) | with_reducible exact rv_neT (by assumption) (by assumption) | with_reducible exact rv_ixL (by assumption) (by assumption) | with_reducible exact rv_ixT (by assumption) (by assumption) | with_reducible refine' ev_din ?_ ?_ (by assumption) | with_reducible refine' ev_dnotin ?_ ?_ (by assumption) | with_reducible refine' ev_dget ?_ ?_ (by assumption) (by assumption) | ((with_reducible show SpV _ _ _ _); assumption) | ((with_reducible show RV _ _ _ _ _); assumption) | ((with_reducible show RC _ _ _ _); assumption) | ((with_reducible show CDiv _ _); exact ⟨by omega, by omega⟩) | ((with_reducible show CMul _ _); first | exact .inl ⟨by omega, by omega⟩ | exact .inr ⟨by omega, by omega⟩) | ((with_reducible show CPow _ _); exact ⟨by omega, by omega, by first | decide | assumption | omega⟩) | ((with_reducible show (0 : Int) < _); omega) | ((with_reducible show (0 : Int) ≤ _); omega) | ((with_reducible show scal _ _ = true); rfl)))
      · rw [List.length_map]
    · have hk : k < ns.length := by
        have := of_decide_eq_true hb
        omega
      have hs1 := ex_l e1 hs
      have g := atI_int hk
      exact s_ret (by (repeat' (first | with_reducible exact ev_c | ((with_reducible show Ev (tVar _) _ _ _); exact ev_var rfl) | with_reducible exact ea_nil | with_reducible exact eo_none | with_reducible refine' ea_cons ?_ ?_ | with_reducible refine' eo_some ?_ | with_reducible refine' ev_and2 ?_ ?_ | with_reducible refine' ev_or2 ?_ ?_ | with_reducible refine' ev_notV ?_ | with_reducible exact ru_I | with_reducible refine' ev_un ?_ ?_ | with_reducible exact rv_I0 | with_reducible exact rv_isN | with_reducible exact rv_notN | with_reducible refine' rv_I ?_ | with_reducible refine' rv_eq ?_ | with_reducible refine' rv_ne ?_ | with_reducible refine' ev_op ?_ ?_ ?_ | with_reducible refine' ev_chain2 ?_ ?_ ?_ ?_ ?_ | with_reducible refine' et_B ?_ | with_reducible refine' et_test ?_ | with_reducible refine' et_and2 ?_ ?_ | with_reducible refine' et_or2 ?_ ?_ | with_reducible refine' et_not ?_ | with_reducible refine' ev_call ?_ ?_ | with_reducible refine' ev_callS ?_ ?_ | with_reducible refine' ev_cb ?_ ?_ | with_reducible exact isi_bool (by assumption) | with_reducible exact isi_int (by assumption) | with_reducible exact isi_list (by assumption) | with_reducible exact rc_len (by assumption) | with_reducible exact rc_sum (by assumption) | with_reducible exact rc_abs | with_reducible exact isi_listL (by assumption) | with_reducible exact isi_intI | with_reducible exact isi_boolI | with_reducible exact rc_lenT (by assumption) | with_reducible exact isi_tup (by assumption) | with_reducible exact rv_eqL (by assumption) (by assumption) | with_reducible exact rv_neL (by assumption) (by assumption) | with_reducible exact rv_neT (by assumption) (by assumption) | with_reducible exact rv_ixL (by assumption) (by assumption) | with_reducible exact rv_ixT (by assumption) (by assumption) | with_reducible refine' ev_din ?_ ?_ (by assumption) | with_reducible refine' ev_dnotin ?_ ?_ (by assumption) | with_reducible refine' ev_dget ?_ ?_ (by assumption) (by assumption) | ((with_reducible show SpV _ _ _ _); assumption) | ((with_reducible show RV _ _ _ _ _); assumption) | ((with_reducible show RC _ _ _ _); assumption) | ((with_reducible show CDiv _ _); exact ⟨by omega, by omega⟩) | ((with_reducible show CMul _ _); first | exact .inl ⟨by omega, by omega⟩ | exact .inr ⟨by omega, by omega⟩) | ((with_reducible show CPow _ _); exact ⟨by omega, by omega, by first | decide | assumption | omega⟩) | ((with_reducible show (0 : Int) < _); omega) | ((with_reducible show (0 : Int) ≤ _); omega) | ((with_reducible show scal _ _ = true); rfl)))) fun H2 e2 => q H2 (e1.trans e2)
    · have hk : ¬ k < ns.length := by
        have := of_decide_eq_false hb
        omega
      have z : ns.getD k 0 = 0 := by
        rw [List.getD_eq_getElem?_getD, List.getElem?_eq_none (by omega)]
        rfl
      rw [z] at q
      exact s_ret (by (repeat' (first | with_reducible exact ev_c | ((with_reducible show Ev (tVar _) _ _ _); exact ev_var rfl) | with_reducible exact ea_nil | with_reducible exact eo_none | with_reducible refine' ea_cons ?_ ?_ | with_reducible refine' eo_some ?_ | with_reducible refine' ev_and2 ?_ ?_ | with_reducible refine' ev_or2 ?_ ?_ | with_reducible refine' ev_notV ?_ | with_reducible exact ru_I | with_reducible refine' ev_un ?_ ?_ | with_reducible exact rv_I0 | with_reducible exact rv_isN | with_reducible exact rv_notN | with_reducible refine' rv_I ?_ | with_reducible refine' rv_eq ?_ | with_reducible refine' rv_ne ?_ | with_reducible refine' ev_op ?_ ?_ ?_ | with_reducible refine' ev_chain2 ?_ ?_ ?_ ?_ ?_ | with_reducible refine' et_B ?_ | with_reducible refine' et_test ?_ | with_reducible refine' et_and2 ?_ ?_ | with_reducible refine' et_or2 ?_ ?_ | with_reducible refine' et_not ?_ | with_reducible refine' ev_call ?_ ?_ | with_reducible refine' ev_callS ?_ ?_ | with_reducible refine' ev_cb ?_ ?_ | with_reducible exact isi_bool (by assumption) | with_reducible exact isi_int (by assumption) | with_reducible exact isi_list (by assumption) | with_reducible exact rc_len (by assumption) | with_reducible exact rc_sum (by assumption) | with_reducible exact rc_abs | with_reducible exact isi_listL (by assumption) | with_reducible exact isi_intI | with_reducible exact isi_boolI | with_reducible exact rc_lenT (by assumption) | with_reducible exact isi_tup (by assumption) | with_reducible exact rv_eqL (by assumption) (by assumption) | with_reducible exact rv_neL (by assumption) (by assumption) | with_reducible exact rv_neT (by assumption) (by assumption) | with_reducible exact rv_ixL (by assumption) (by assumption) | with_reducible exact rv_ixT (by assumption) (by assumption) | with_reducible refine' ev_din ?_ ?_ (by assumption) | with_reducible refine' ev_dnotin ?_ ?_ (by assumption) | with_reducible refine' ev_dget ?_ ?_ (by assumption) (by assumption) | ((with_reducible show SpV _ _ _ _); assumption) | ((with_reducible show RV _ _ _ _ _); assumption) | ((with_reducible show RC _ _ _ _); assumption) | ((with_reducible show CDiv _ _); exact ⟨by omega, by omega⟩) | ((with_reducible show CMul _ _); first | exact .inl ⟨by omega, by omega⟩ | exact .inr ⟨by omega, by omega⟩) | ((with_reducible show CPow _ _); exact ⟨by omega, by omega, by first | decide | assumption | omega⟩) | ((with_reducible show (0 : Int) < _); omega) | ((with_reducible show (0 : Int) ≤ _); omega) | ((with_reducible show scal _ _ = true); rfl)))) fun H2 e2 => q H2 (e1.trans e2)

def mixed (c k : Int) : Int := ((c + 977 * k + 31) * 48271 % 2147483647) * ((c + 977 * k + 31) * 48271 % 2147483647) % 2147483629
theorem mixed_nn (c k : Int) : 0 ≤ mixed c k := Int.emod_nonneg _ (by decide)
theorem mixed_lt (c k : Int) : mixed c k < 2147483629 := Int.emod_lt_of_pos _ (by decide)
def sp_mixed : Sp := fun vs H Q E => ∃ (c k : Int), vs = [.int c, .int k] ∧ RetV (.int (mixed c k)) H Q
theorem sv_mixed {H : Hp} {c k : Int} : SpV sp_mixed [.int c, .int k] H (.int (mixed c k)) := spv_of fun H1 e Q E q => ⟨c, k, rfl, q⟩
theorem sc__law_mixed : FnScope ["_law_cell", "_law_k", "_law_found"] ["_law_cell", "_law_k"] (defScope s__law_mixed) := ⟨rfl, rfl, rfl, by decide +kernel, rfl, by decide +kernel, by decide +kernel⟩
theorem ok__law_mixed {P : Program} {w : World} {K : PySem.W.Frag} {mg : Str → Option Value} {base : Heap} (T : TXT K mg) : OK P w K mg base "_law_mixed" ["_law_cell", "_law_k"] 1 (sp_mixed) := by
  obtain ⟨fd, F⟩ := T.def_ 8
  refine ⟨_, fd, T.glo 7, F.kp, F.bindsN (fun _ _ _ _ _ _ us hl => match us, hl with | [_, _], _ => rfl), F.ok sc__law_mixed (fun vs H Q E h => ?_) (fun cdv A outer s H vs Q E hr h => ?_), F.bindsA (fun _ _ _ _ _ _ us hl => match us, hl with | [_, _], _ => rfl)⟩
  · first | (obtain ⟨rfl, _⟩ := h; rfl) | (obtain ⟨_, rfl, _⟩ := h; rfl) | (obtain ⟨_, _, rfl, _⟩ := h; rfl) | (obtain ⟨_, _, _, rfl, _⟩ := h; rfl) | (obtain ⟨_, _, _, _, rfl, _⟩ := h; rfl) | (obtain ⟨_, _, _, _, _, rfl, _⟩ := h; rfl) | (obtain ⟨_, _, _, _, _, _, rfl, _⟩ := h; rfl) | (obtain ⟨_, _, _, _, _, _, _, rfl, _⟩ := h; rfl) | (obtain ⟨_, _, _, _, _, _, _, _, rfl, _⟩ := h; rfl)
  · replace F : FunD K "_law_mixed" "_law_mixed" (defArgs s__law_mixed) (defBody s__law_mixed) (defScope s__law_mixed) [] [] (He.ga K "_law_mixed") fd := F
    refine ⟨_, (pss_cons (ps_set (i := 2) sc__law_mixed.nd rfl (Or.inl rfl) (pe_op op_mod (pe_op op_mul (pe_op op_add (pe_op op_add (pv 0) (pe_op op_mul pe_int (pv 1))) pe_int) pe_int) pe_int))
      (pss_one (ps_ret (pe_op op_mod (pe_op op_mul (pv 2) (pv 2)) pe_int)))), ?_⟩
    obtain ⟨c, k, rfl, q⟩ := h
    dsimp only [cxOf, L2.start, List.map_cons, List.map_nil, List.length_cons, List.length_nil, Nat.reduceAdd, Nat.reduceSub, List.replicate_succ, List.replicate_zero, List.cons_append, List.nil_append, Nat.zero_add, List.reduceReplicate, List.map]
    refine q_asg (v := .int ((c + 977 * k + 31) * 48271 % 2147483647)) ?_ fun H1 e1 => ?_
    · (repeat' (first | with_reducible exact ev_c | ((with_reducible show Ev (tVar _) _ _ _); exact ev_var rfl) | with_reducible exact ea_nil | with_reducible exact eo_none | with_reducible refine' ea_cons ?_ ?_ | with_reducible refine' eo_some ?_ | with_reducible refine' ev_and2 ?_ ?_ | with_reducible refine' ev_or2 ?_ ?_ | with_reducible refine' ev_notV ?_ | with_reducible exact ru_I | with_reducible refine' ev_un ?_ ?_ | with_reducible exact rv_I0 | with_reducible exact rv_isN | with_reducible exact rv_notN | with_reducible refine' rv_I ?_ | with_reducible refine' rv_eq ?_ | with_reducible refine' rv_ne ?_ | with_reducible refine' ev_op ?_ ?_ ?_ | with_reducible refine' ev_chain2 ?_ ?_ ?_ ?_ ?_ | with_reducible refine' et_B ?_ | with_reducible refine' et_test ?_ | with_reducible refine' et_and2 ?_ ?_ | with_reducible refine' et_or2 ?_ ?_ | with_reducible refine' et_not ?_ | with_reducible refine' ev_call ?_ ?_ | with_reducible refine' ev_callS ?_ ?_ | with_reducible refine' ev_cb ?_ ?_ | with_reducible exact isi_bool (by assumption) | with_reducible exact isi_int (by assumption) | with_reducible exact isi_list (by assumption) | with_reducible exact rc_len (by assumption) | with_reducible exact rc_sum (by assumption) | with_reducible exact rc_abs | with_reducible exact isi_listL (by assumption) | with_reducible exact isi_intI | with_reducible exact isi_boolI | with_reducible exact rc_lenT (by assumption) | with_reducible exact isi_tup (by assumption) | with_reducible exact rv_eqL (by assumption) (by assumption) | with_reducible exact rv_neL (by assumption) (by assumption) | with_reducible exact rv_neT (by assumption) (by assumption) | with_reducible exact rv_ixL (by assumption) (by assumption) | with_reducible exact rv_ixT (by assumption) (by assumption) | with_reducible refine' ev_din ?_ ?_ (by assumption) | with_reducible refine' ev_dnotin ?_ ?_ (by assumption) | with_reducible refine' ev_dget ?_ ?_ (by assumption) (by assumption) | ((with_reducible show SpV _ _ _ _); assumption) | ((with_reducible show RV _ _ _ _ _); assumption) | ((with_reducible show RC _ _ _ _); assumption) | ((with_reducible show CDiv _ _); exact ⟨by omega, by omega⟩) | ((with_reducible show CMul _ _); first | exact .inl ⟨by omega, by omega⟩ | exact .inr ⟨by omega, by omega⟩) | ((with_reducible show CPow _ _); exact ⟨by omega, by omega, by first | decide | assumption | omega⟩) | ((with_reducible show (0 : Int) < _); omega) | ((with_reducible show (0 : Int) ≤ _); omega) | ((with_reducible show scal _ _ = true); rfl)))
    · have h1 : 0 ≤ (c + 977 * k + 31) * 48271 % 2147483647 := Int.emod_nonneg _ (by decide)
      have h2 : (c + 977 * k + 31) * 48271 % 2147483647 < 2147483647 := Int.emod_lt_of_pos _ (by decide)
      refine s_ret (v := .int (mixed c k)) ?_ fun H2 e2 => q H2 (e1.trans e2)
      apply ev_is
      · (repeat' (first | with_reducible exact ev_c | ((with_reducible show Ev (tVar _) _ _ _); exact ev_var rfl) | with_reducible exact ea_nil | with_reducible exact eo_none | with_reducible refine' ea_cons ?_ ?_ | with_reducible refine' eo_some ?_ | with_reducible refine' ev_and2 ?_ ?_ | with_reducible refine' ev_or2 ?_ ?_ | with_reducible refine' ev_notV ?_ | with_reducible exact ru_I | with_reducible refine' ev_un ?_ ?_ | with_reducible exact rv_I0 | with_reducible exact rv_isN | with_reducible exact rv_notN | with_reducible refine' rv_I ?_ | with_reducible refine' rv_eq ?_ | with_reducible refine' rv_ne ?_ | with_reducible refine' ev_op ?_ ?_ ?_ | with_reducible refine' ev_chain2 ?_ ?_ ?_ ?_ ?_ | with_reducible refine' et_B ?_ | with_reducible refine' et_test ?_ | with_reducible refine' et_and2 ?_ ?_ | with_reducible refine' et_or2 ?_ ?_ | with_reducible refine' et_not ?_ | with_reducible refine' ev_call ?_ ?_ | with_reducible refine' ev_callS ?_ ?_ | with_reducible refine' ev_cb ?_ ?_ | with_reducible exact isi_bool (by assumption) | with_reducible exact isi_int (by assumption) | with_reducible exact isi_list (by assumption) | with_reducible exact rc_len (by assumption) | with_reducible exact rc_sum (by assumption) | with_reducible exact rc_abs | with_reducible exact isi_listL (by assumption) | with_reducible exact isi_intI | with_reducible exact isi_boolI | with_reducible exact rc_lenT (by assumption) | with_reducible exact isi_tup (by assumption) | with_reducible exact rv_eqL (by assumption) (by assumption) | with_reducible exact rv_neL (by assumption) (by assumption) | with_reducible exact rv_neT (by assumption) (by assumption) | with_reducible exact rv_ixL (by assumption) (by assumption) | with_reducible exact rv_ixT (by assumption) (by assumption) | with_reducible refine' ev_din ?_ ?_ (by assumption) | with_reducible refine' ev_dnotin ?_ ?_ (by assumption) | with_reducible refine' ev_dget ?_ ?_ (by assumption) (by assumption) | ((with_reducible show SpV _ _ _ _); assumption) | ((with_reducible show RV _ _ _ _ _); assumption) | ((with_reducible show RC _ _ _ _); assumption) | ((with_reducible show CDiv _ _); exact ⟨by omega, by omega⟩) | ((with_reducible show CMul _ _); first | exact .inl ⟨by omega, by omega⟩ | exact .inr ⟨by omega, by omega⟩) | ((with_reducible show CPow _ _); exact ⟨by omega, by omega, by first | decide | assumption | omega⟩) | ((with_reducible show (0 : Int) < _); omega) | ((with_reducible show (0 : Int) ≤ _); omega) | ((with_reducible show scal _ _ = true); rfl)))
      · rfl

def sizeBy (c : Int) : Int := if c % 4 = 1 then 1 + c / 4 % 60 else 1 + c / 4 % 9
theorem sizeBy_1 (c : Int) : 1 ≤ sizeBy c := by
  unfold sizeBy
  split <;> omega
theorem sizeBy_60 (c : Int) : sizeBy c ≤ 60 := by
  unfold sizeBy
  split <;> omega
def sp_size : Sp := fun vs H Q E => ∃ (c : Int), vs = [.int c] ∧ RetV (.int (sizeBy c)) H Q
theorem sv_size {H : Hp} {c : Int} : SpV sp_size [.int c] H (.int (sizeBy c)) := spv_of fun H1 e Q E q => ⟨c, rfl, q⟩
theorem sc__law_size_by : FnScope ["_law_cell"] ["_law_cell"] (defScope s__law_size_by) := ⟨rfl, rfl, rfl, by decide +kernel, rfl, by decide +kernel, by decide +kernel⟩
theorem ok__law_size_by {P : Program} {w : World} {K : PySem.W.Frag} {mg : Str → Option Value} {base : Heap} (T : TXT K mg) : OK P w K mg base "_law_size_by" ["_law_cell"] 1 (sp_size) := by
  obtain ⟨fd, F⟩ := T.def_ 9
  refine ⟨_, fd, T.glo 8, F.kp, F.bindsN (fun _ _ _ _ _ _ us hl => match us, hl with | [_], _ => rfl), F.ok sc__law_size_by (fun vs H Q E h => ?_) (fun cdv A outer s H vs Q E hr h => ?_), F.bindsA (fun _ _ _ _ _ _ us hl => match us, hl with | [_], _ => rfl)⟩
  · first | (obtain ⟨rfl, _⟩ := h; rfl) | (obtain ⟨_, rfl, _⟩ := h; rfl) | (obtain ⟨_, _, rfl, _⟩ := h; rfl) | (obtain ⟨_, _, _, rfl, _⟩ := h; rfl) | (obtain ⟨_, _, _, _, rfl, _⟩ := h; rfl) | (obtain ⟨_, _, _, _, _, rfl, _⟩ := h; rfl) | (obtain ⟨_, _, _, _, _, _, rfl, _⟩ := h; rfl) | (obtain ⟨_, _, _, _, _, _, _, rfl, _⟩ := h; rfl) | (obtain ⟨_, _, _, _, _, _, _, _, rfl, _⟩ := h; rfl)
  · replace F : FunD K "_law_size_by" "_law_size_by" (defArgs s__law_size_by) (defBody s__law_size_by) (defScope s__law_size_by) [] [] (He.ga K "_law_size_by") fd := F
    refine ⟨_, (pss_cons (ps_if (pt_cmpR op_eq (pe_op op_mod (pv 0) pe_int) pe_int (nomark _))
        (pss_one (ps_ret (pe_op op_add pe_int (pe_op op_mod (pe_op op_fdiv (pv 0) pe_int) pe_int))))
        pss_nil)
      (pss_one (ps_ret (pe_op op_add pe_int (pe_op op_mod (pe_op op_fdiv (pv 0) pe_int) pe_int))))), ?_⟩
    obtain ⟨c, rfl, q⟩ := h
    dsimp only [cxOf, L2.start, List.map_cons, List.map_nil, List.length_cons, List.length_nil, Nat.reduceAdd, Nat.reduceSub, List.replicate_succ, List.replicate_zero, List.cons_append, List.nil_append, Nat.zero_add, List.reduceReplicate, List.map]
    refine q_when (b := decide (c % 4 = 1)) ?_ (fun hb H1 e1 => ?_) (fun hb H1 e1 => ?_)
    · apply et_is
      · (repeat' (first | with_reducible exact ev_c | ((with_reducible show Ev (tVar _) _ _ _); exact ev_var rfl) | with_reducible exact ea_nil | with_reducible exact eo_none | with_reducible refine' ea_cons ?_ ?_ | with_reducible refine' eo_some ?_ | with_reducible refine' ev_and2 ?_ ?_ | with_reducible refine' ev_or2 ?_ ?_ | with_reducible refine' ev_notV ?_ | with_reducible exact ru_I | with_reducible refine' ev_un ?_ ?_ | with_reducible exact rv_I0 | with_reducible exact rv_isN | with_reducible exact rv_notN | with_reducible refine' rv_I ?_ | with_reducible refine' rv_eq ?_ | with_reducible refine' rv_ne ?_ | with_reducible refine' ev_op ?_ ?_ ?_ | with_reducible refine' ev_chain2 ?_ ?_ ?_ ?_ ?_ | with_reducible refine' et_B ?_ | with_reducible refine' et_test ?_ | with_reducible refine' et_and2 ?_ ?_ | with_reducible refine' et_or2 ?_ ?_ | with_reducible refine' et_not ?_ | with_reducible refine' ev_call ?_ ?_ | with_reducible refine' ev_callS ?_ ?_ | with_reducible refine' ev_cb ?_ ?_ | with_reducible exact isi_bool (by assumption) | with_reducible exact isi_int (by assumption) | with_reducible exact isi_list (by assumption) | with_reducible exact rc_len (by assumption) | with_reducible exact rc_sum (by assumption) | with_reducible exact rc_abs | with_reducible exact isi_listL (by assumption) | with_reducible exact isi_intI | with_reducible exact isi_boolI | with_reducible exact rc_lenT (by assumption) | with_reducible exact isi_tup (by assumption) | with_reducible exact rv_eqL (by assumption) (by assumption) | with_reducible exact rv_neL (by assumption) (by assumption) | with_reducible exact rv_neT (by assumption) (by assumption) | with_reducible exact rv_ixL (by assumption) (by assumption) | with_reducible exact rv_ixT (by assumption) (by assumption) | with_reducible refine' ev_din ?_ ?_ (by assumption) | with_reducible refine' ev_dnotin ?_ ?_ (by assumption) | with_reducible refine' ev_dget ?_ ?_ (by assumption) (by assumption) | ((with_reducible show SpV _ _ _ _); assumption) | ((with_reducible show RV _ _ _ _ _); assumption) | ((with_reducible show RC _ _ _ _); assumption) | ((with_reducible show CDiv _ _); exact ⟨by omega, by omega⟩) | ((with_reducible show CMul _ _); first | exact .inl ⟨by omega, by omega⟩ | exact .inr ⟨by omega, by omega⟩) | ((with_reducible show CPow _ _); exact ⟨by omega, by omega, by first | decide | assumption | omega⟩) | ((with_reducible show (0 : Int) < _); omega) | ((with_reducible show (0 : Int) ≤ _); omega) | ((with_reducible show scal _ _ = true); rfl)))
      · exact dec_int.trans (by rw [Bool.eq_iff_iff]; simp)
    · have z : sizeBy c = 1 + c / 4 % 60 := if_pos (of_decide_eq_true hb)
      rw [z] at q
      refine s_ret ?_ fun H2 e2 => q H2 (e1.trans e2)
      (repeat' (first | with_reducible exact ev_c | ((with_reducible show Ev (tVar _) _ _ _); exact ev_var rfl) | with_reducible exact ea_nil | with_reducible exact eo_none | with_reducible refine' ea_cons ?_ ?_ | with_reducible refine' eo_some ?_ | with_reducible refine' ev_and2 ?_ ?_ | with_reducible refine' ev_or2 ?_ ?_ | with_reducible refine' ev_notV ?_ | with_reducible exact ru_I | with_reducible refine' ev_un ?_ ?_ | with_reducible exact rv_I0 | with_reducible exact rv_isN | with_reducible exact rv_notN | with_reducible refine' rv_I ?_ | with_reducible refine' rv_eq ?_ | with_reducible refine' rv_ne ?_ | with_reducible refine' ev_op ?_ ?_ ?_ | with_reducible refine' ev_chain2 ?_ ?_ ?_ ?_ ?_ | with_reducible refine' et_B ?_ | with_reducible refine' et_test ?_ | with_reducible refine' et_and2 ?_ ?_ | with_reducible refine' et_or2 ?_ ?_ | with_reducible refine' et_not ?_ | with_reducible refine' ev_call ?_ ?_ | with_reducible refine' ev_callS ?_ ?_ | with_reducible refine' ev_cb ?_ ?_ | with_reducible exact isi_bool (by assumption) | with_reducible exact isi_int (by assumption) | with_reducible exact isi_list (by assumption) | with_reducible exact rc_len (by assumption) | with_reducible exact rc_sum (by assumption) | with_reducible exact rc_abs | with_reducible exact isi_listL (by assumption) | with_reducible exact isi_intI | with_reducible exact isi_boolI | with_reducible exact rc_lenT (by assumption) | with_reducible exact isi_tup (by assumption) | with_reducible exact rv_eqL (by assumption) (by assumption) | with_reducible exact rv_neL (by assumption) (by assumption) | with_reducible exact rv_neT (by assumption) (by assumption) | with_reducible exact rv_ixL (by assumption) (by assumption) | with_reducible exact rv_ixT (by assumption) (by assumption) | with_reducible refine' ev_din ?_ ?_ (by assumption) | with_reducible refine' ev_dnotin ?_ ?_ (by assumption) | with_reducible refine' ev_dget ?_ ?_ (by assumption) (by assumption) | ((with_reducible show SpV _ _ _ _); assumption) | ((with_reducible show RV _ _ _ _ _); assumption) | ((with_reducible show RC _ _ _ _); assumption) | ((with_reducible show CDiv _ _); exact ⟨by omega, by omega⟩) | ((with_reducible show CMul _ _); first | exact .inl ⟨by omega, by omega⟩ | exact .inr ⟨by omega, by omega⟩) | ((with_reducible show CPow _ _); exact ⟨by omega, by omega, by first | decide | assumption | omega⟩) | ((with_reducible show (0 : Int) < _); omega) | ((with_reducible show (0 : Int) ≤ _); omega) | ((with_reducible show scal _ _ = true); rfl)))
    · have z : sizeBy c = 1 + c / 4 % 9 := if_neg (of_decide_eq_false hb)
      rw [z] at q
      refine s_ret ?_ fun H2 e2 => q H2 (e1.trans e2)
      (repeat' (first | with_reducible exact ev_c | ((with_reducible show Ev (tVar _) _ _ _); exact ev_var rfl) | with_reducible exact ea_nil | with_reducible exact eo_none | with_reducible refine' ea_cons ?_ ?_ | with_reducible refine' eo_some ?_ | with_reducible refine' ev_and2 ?_ ?_ | with_reducible refine' ev_or2 ?_ ?_ | with_reducible refine' ev_notV ?_ | with_reducible exact ru_I | with_reducible refine' ev_un ?_ ?_ | with_reducible exact rv_I0 | with_reducible exact rv_isN | with_reducible exact rv_notN | with_reducible refine' rv_I ?_ | with_reducible refine' rv_eq ?_ | with_reducible refine' rv_ne ?_ | with_reducible refine' ev_op ?_ ?_ ?_ | with_reducible refine' ev_chain2 ?_ ?_ ?_ ?_ ?_ | with_reducible refine' et_B ?_ | with_reducible refine' et_test ?_ | with_reducible refine' et_and2 ?_ ?_ | with_reducible refine' et_or2 ?_ ?_ | with_reducible refine' et_not ?_ | with_reducible refine' ev_call ?_ ?_ | with_reducible refine' ev_callS ?_ ?_ | with_reducible refine' ev_cb ?_ ?_ | with_reducible exact isi_bool (by assumption) | with_reducible exact isi_int (by assumption) | with_reducible exact isi_list (by assumption) | with_reducible exact rc_len (by assumption) | with_reducible exact rc_sum (by assumption) | with_reducible exact rc_abs | with_reducible exact isi_listL (by assumption) | with_reducible exact isi_intI | with_reducible exact isi_boolI | with_reducible exact rc_lenT (by assumption) | with_reducible exact isi_tup (by assumption) | with_reducible exact rv_eqL (by assumption) (by assumption) | with_reducible exact rv_neL (by assumption) (by assumption) | with_reducible exact rv_neT (by assumption) (by assumption) | with_reducible exact rv_ixL (by assumption) (by assumption) | with_reducible exact rv_ixT (by assumption) (by assumption) | with_reducible refine' ev_din ?_ ?_ (by assumption) | with_reducible refine' ev_dnotin ?_ ?_ (by assumption) | with_reducible refine' ev_dget ?_ ?_ (by assumption) (by assumption) | ((with_reducible show SpV _ _ _ _); assumption) | ((with_reducible show RV _ _ _ _ _); assumption) | ((with_reducible show RC _ _ _ _); assumption) | ((with_reducible show CDiv _ _); exact ⟨by omega, by omega⟩) | ((with_reducible show CMul _ _); first | exact .inl ⟨by omega, by omega⟩ | exact .inr ⟨by omega, by omega⟩) | ((with_reducible show CPow _ _); exact ⟨by omega, by omega, by first | decide | assumption | omega⟩) | ((with_reducible show (0 : Int) < _); omega) | ((with_reducible show (0 : Int) ≤ _); omega) | ((with_reducible show scal _ _ = true); rfl)))

def natsI (n : Nat) : List Int := (List.range n).map fun i : Nat => (i : Int)
theorem natsI_len (n : Nat) : (natsI n).length = n := by simp [natsI]
/-- the spots: some arrangement of 0, 1, .. -/
def sp_spots : Sp := fun vs H Q E => ∃ (n : Nat) (c : Int), vs = [.int (n : Int), .int c] ∧ n ≤ 60 ∧ 1 ≤ n ∧ ∀ xs : List Int, xs.Perm (natsI n) → RetL (xs.map V.int) H Q
theorem sc__law_spots_by : FnScope ["_law_size", "_law_cell", "_law_spots", "_law_k", "_law_other", "_law_first"] ["_law_size", "_law_cell"] (defScope s__law_spots_by) := ⟨rfl, rfl, rfl, by decide +kernel, rfl, by decide +kernel, by decide +kernel⟩
theorem ok__law_spots_by {P : Program} {w : World} {K : PySem.W.Frag} {mg : Str → Option Value} {base : Heap} (T : TXT K mg) : OK P w K mg base "_law_spots_by" ["_law_size", "_law_cell"] 2 (sp_spots) := by
  have O__law_mixed := ok__law_mixed (P := P) (w := w) (base := base) T
  obtain ⟨fd, F⟩ := T.def_ 10
  refine ⟨_, fd, T.glo 9, F.kp, F.bindsN (fun _ _ _ _ _ _ us hl => match us, hl with | [_, _], _ => rfl), F.ok sc__law_spots_by (fun vs H Q E h => ?_) (fun cdv A outer s H vs Q E hr h => ?_), F.bindsA (fun _ _ _ _ _ _ us hl => match us, hl with | [_, _], _ => rfl)⟩
  · first | (obtain ⟨rfl, _⟩ := h; rfl) | (obtain ⟨_, rfl, _⟩ := h; rfl) | (obtain ⟨_, _, rfl, _⟩ := h; rfl) | (obtain ⟨_, _, _, rfl, _⟩ := h; rfl) | (obtain ⟨_, _, _, _, rfl, _⟩ := h; rfl) | (obtain ⟨_, _, _, _, _, rfl, _⟩ := h; rfl) | (obtain ⟨_, _, _, _, _, _, rfl, _⟩ := h; rfl) | (obtain ⟨_, _, _, _, _, _, _, rfl, _⟩ := h; rfl) | (obtain ⟨_, _, _, _, _, _, _, _, rfl, _⟩ := h; rfl)
  · replace F : FunD K "_law_spots_by" "_law_spots_by" (defArgs s__law_spots_by) (defBody s__law_spots_by) (defScope s__law_spots_by) [] [] (He.ga K "_law_spots_by") fd := F
    refine ⟨_, (pss_cons (ps_setLc (i := 2) (own := [("_law_k", 3)]) (g := gName 3) (tt := tYes) rfl sc__law_spots_by.nd rfl rfl (sw_true rfl rfl rfl (by decide +kernel)) (pi_range1 (by rfl) (T.free 35) (pa_cons (pv 0) pa_nil)) (blkOk_by (N := ["_law_size", "_law_cell", "_law_spots", "_law_k", "_law_other", "_law_first"]) (sc := defScope s__law_spots_by) (by decide +kernel)) (fun _ _ _ _ _ => pg_name (i := 3) sc__law_spots_by.nd rfl (Or.inl rfl)) (fun _ _ _ _ _ => pts_nil) (fun _ _ _ _ _ => (pv 3)))
      (pss_cons (ps_for (passes_of rfl) rfl (pi_range1 (by rfl) (T.free 35) (pa_cons (pv 0) pa_nil)) (pg_name (i := 3) sc__law_spots_by.nd rfl (Or.inl rfl))
        (pss_cons (ps_set (i := 4) sc__law_spots_by.nd rfl (Or.inl rfl) (pe_op op_mod (pe_own O__law_mixed (hr.mono (by decide)) (by rfl) (passes_call (takes_of rfl rfl rfl rfl) (fun _ _ _ _ h => h)) (pa_cons (pv 1) (pa_cons (pv 3) pa_nil))) (pv 0)))
      (pss_cons (ps_set (i := 5) sc__law_spots_by.nd rfl (Or.inl rfl) (pe_ix (k_ixL K) (pv 2) (pv 3) (fun _ _ => rfl)))
      (pss_cons (ps_asg (pe_ix (k_ixL K) (pv 2) (pv 4) (fun _ _ => rfl)) (pg_sub (pv 2) (pv 3) set_list))
      (pss_one (ps_asg (pv 5) (pg_sub (pv 2) (pv 4) set_list)))))))
      (pss_one (ps_ret (pv 2))))), ?_⟩
    obtain ⟨n, c, rfl, hn, hn1, q⟩ := h
    dsimp only [cxOf, L2.start, List.map_cons, List.map_nil, List.length_cons, List.length_nil, Nat.reduceAdd, Nat.reduceSub, List.replicate_succ, List.replicate_zero, List.cons_append, List.nil_append, Nat.zero_add, List.reduceReplicate, List.map]
    refine q_asgL (xs := (natsI n).map V.int) ?_ fun p H1 hp e1 h1 => ?_
    · have z := el_rng (σ := [some (V.int (n : Int)), some (V.int c), none, none, none, none]) (H := H) (te := tVar 3) (j := 3) (vs := [3]) (ta := tCons (tVar 0) tNil) (n := (n : Int)) (fun i : Nat => V.int (i : Int)) (by (repeat' (first | with_reducible exact ev_c | ((with_reducible show Ev (tVar _) _ _ _); exact ev_var rfl) | with_reducible exact ea_nil | with_reducible exact eo_none | with_reducible refine' ea_cons ?_ ?_ | with_reducible refine' eo_some ?_ | with_reducible refine' ev_and2 ?_ ?_ | with_reducible refine' ev_or2 ?_ ?_ | with_reducible refine' ev_notV ?_ | with_reducible exact ru_I | with_reducible refine' ev_un ?_ ?_ | with_reducible exact rv_I0 | with_reducible exact rv_isN | with_reducible exact rv_notN | with_reducible refine' rv_I ?_ | with_reducible refine' rv_eq ?_ | with_reducible refine' rv_ne ?_ | with_reducible refine' ev_op ?_ ?_ ?_ | with_reducible refine' ev_chain2 ?_ ?_ ?_ ?_ ?_ | with_reducible refine' et_B ?_ | with_reducible refine' et_test ?_ | with_reducible refine' et_and2 ?_ ?_ | with_reducible refine' et_or2 ?_ ?_ | with_reducible refine' et_not ?_ | with_reducible refine' ev_call ?_ ?_ | with_reducible refine' ev_callS ?_ ?_ | with_reducible refine' ev_cb ?_ ?_ | with_reducible exact isi_bool (by assumption) | with_reducible exact isi_int (by assumption) | with_reducible exact isi_list (by assumption) | with_reducible exact rc_len (by assumption) | with_reducible exact rc_sum (by assumption) | with_reducible exact rc_abs | with_reducible exact isi_listL (by assumption) | with_reducible exact isi_intI | with_reducible exact isi_boolI | with_reducible exact rc_lenT (by assumption) | with_reducible exact isi_tup (by assumption) | with_reducible exact rv_eqL (by assumption) (by assumption) | with_reducible exact rv_neL (by assumption) (by assumption) | with_reducible exact rv_neT (by assumption) (by assumption) | with_reducible exact rv_ixL (by assumption) (by assumption) | with_reducible exact rv_ixT (by assumption) (by assumption) | with_reducible refine' ev_din ?_ ?_ (by assumption) | with_reducible refine' ev_dnotin ?_ ?_ (by assumption) | with_reducible refine' ev_dget ?_ ?_ (by assumption) (by assumption) | ((with_reducible show SpV _ _ _ _); assumption) | ((with_reducible show RV _ _ _ _ _); assumption) | ((with_reducible show RC _ _ _ _); assumption) | ((with_reducible show CDiv _ _); exact ⟨by omega, by omega⟩) | ((with_reducible show CMul _ _); first | exact .inl ⟨by omega, by omega⟩ | exact .inr ⟨by omega, by omega⟩) | ((with_reducible show CPow _ _); exact ⟨by omega, by omega, by first | decide | assumption | omega⟩) | ((with_reducible show (0 : Int) < _); omega) | ((with_reducible show (0 : Int) ≤ _); omega) | ((with_reducible show scal _ _ = true); rfl)))) (by omega) (fun _ => rfl) (fun i H2 e2 hi => by (repeat' (first | with_reducible exact ev_c | ((with_reducible show Ev (tVar _) _ _ _); exact ev_var rfl) | with_reducible exact ea_nil | with_reducible exact eo_none | with_reducible refine' ea_cons ?_ ?_ | with_reducible refine' eo_some ?_ | with_reducible refine' ev_and2 ?_ ?_ | with_reducible refine' ev_or2 ?_ ?_ | with_reducible refine' ev_notV ?_ | with_reducible exact ru_I | with_reducible refine' ev_un ?_ ?_ | with_reducible exact rv_I0 | with_reducible exact rv_isN | with_reducible exact rv_notN | with_reducible refine' rv_I ?_ | with_reducible refine' rv_eq ?_ | with_reducible refine' rv_ne ?_ | with_reducible refine' ev_op ?_ ?_ ?_ | with_reducible refine' ev_chain2 ?_ ?_ ?_ ?_ ?_ | with_reducible refine' et_B ?_ | with_reducible refine' et_test ?_ | with_reducible refine' et_and2 ?_ ?_ | with_reducible refine' et_or2 ?_ ?_ | with_reducible refine' et_not ?_ | with_reducible refine' ev_call ?_ ?_ | with_reducible refine' ev_callS ?_ ?_ | with_reducible refine' ev_cb ?_ ?_ | with_reducible exact isi_bool (by assumption) | with_reducible exact isi_int (by assumption) | with_reducible exact isi_list (by assumption) | with_reducible exact rc_len (by assumption) | with_reducible exact rc_sum (by assumption) | with_reducible exact rc_abs | with_reducible exact isi_listL (by assumption) | with_reducible exact isi_intI | with_reducible exact isi_boolI | with_reducible exact rc_lenT (by assumption) | with_reducible exact isi_tup (by assumption) | with_reducible exact rv_eqL (by assumption) (by assumption) | with_reducible exact rv_neL (by assumption) (by assumption) | with_reducible exact rv_neT (by assumption) (by assumption) | with_reducible exact rv_ixL (by assumption) (by assumption) | with_reducible exact rv_ixT (by assumption) (by assumption) | with_reducible refine' ev_din ?_ ?_ (by assumption) | with_reducible refine' ev_dnotin ?_ ?_ (by assumption) | with_reducible refine' ev_dget ?_ ?_ (by assumption) (by assumption) | ((with_reducible show SpV _ _ _ _); assumption) | ((with_reducible show RV _ _ _ _ _); assumption) | ((with_reducible show RC _ _ _ _); assumption) | ((with_reducible show CDiv _ _); exact ⟨by omega, by omega⟩) | ((with_reducible show CMul _ _); first | exact .inl ⟨by omega, by omega⟩ | exact .inr ⟨by omega, by omega⟩) | ((with_reducible show CPow _ _); exact ⟨by omega, by omega, by first | decide | assumption | omega⟩) | ((with_reducible show (0 : Int) < _); omega) | ((with_reducible show (0 : Int) ≤ _); omega) | ((with_reducible show scal _ _ = true); rfl))))
      have z2 : (natsI n).map V.int = (List.range (n : Int).toNat).map fun i : Nat => V.int (i : Int) := by
        rw [natsI, List.map_map]
        rfl
      rw [z2]
      exact z
    refine q_forR1 (n := (n : Int)) (by (repeat' (first | with_reducible exact ev_c | ((with_reducible show Ev (tVar _) _ _ _); exact ev_var rfl) | with_reducible exact ea_nil | with_reducible exact eo_none | with_reducible refine' ea_cons ?_ ?_ | with_reducible refine' eo_some ?_ | with_reducible refine' ev_and2 ?_ ?_ | with_reducible refine' ev_or2 ?_ ?_ | with_reducible refine' ev_notV ?_ | with_reducible exact ru_I | with_reducible refine' ev_un ?_ ?_ | with_reducible exact rv_I0 | with_reducible exact rv_isN | with_reducible exact rv_notN | with_reducible refine' rv_I ?_ | with_reducible refine' rv_eq ?_ | with_reducible refine' rv_ne ?_ | with_reducible refine' ev_op ?_ ?_ ?_ | with_reducible refine' ev_chain2 ?_ ?_ ?_ ?_ ?_ | with_reducible refine' et_B ?_ | with_reducible refine' et_test ?_ | with_reducible refine' et_and2 ?_ ?_ | with_reducible refine' et_or2 ?_ ?_ | with_reducible refine' et_not ?_ | with_reducible refine' ev_call ?_ ?_ | with_reducible refine' ev_callS ?_ ?_ | with_reducible refine' ev_cb ?_ ?_ | with_reducible exact isi_bool (by assumption) | with_reducible exact isi_int (by assumption) | with_reducible exact isi_list (by assumption) | with_reducible exact rc_len (by assumption) | with_reducible exact rc_sum (by assumption) | with_reducible exact rc_abs | with_reducible exact isi_listL (by assumption) | with_reducible exact isi_intI | with_reducible exact isi_boolI | with_reducible exact rc_lenT (by assumption) | with_reducible exact isi_tup (by assumption) | with_reducible exact rv_eqL (by assumption) (by assumption) | with_reducible exact rv_neL (by assumption) (by assumption) | with_reducible exact rv_neT (by assumption) (by assumption) | with_reducible exact rv_ixL (by assumption) (by assumption) | with_reducible exact rv_ixT (by assumption) (by assumption) | with_reducible refine' ev_din ?_ ?_ (by assumption) | with_reducible refine' ev_dnotin ?_ ?_ (by assumption) | with_reducible refine' ev_dget ?_ ?_ (by assumption) (by assumption) | ((with_reducible show SpV _ _ _ _); assumption) | ((with_reducible show RV _ _ _ _ _); assumption) | ((with_reducible show RC _ _ _ _); assumption) | ((with_reducible show CDiv _ _); exact ⟨by omega, by omega⟩) | ((with_reducible show CMul _ _); first | exact .inl ⟨by omega, by omega⟩ | exact .inr ⟨by omega, by omega⟩) | ((with_reducible show CPow _ _); exact ⟨by omega, by omega, by first | decide | assumption | omega⟩) | ((with_reducible show (0 : Int) < _); omega) | ((with_reducible show (0 : Int) ≤ _); omega) | ((with_reducible show scal _ _ = true); rfl)))) (by omega) (fun i σ' H' => ∃ y3 y4 y5 xs, σ' = [some (V.int (n : Int)), some (V.int c), some (V.ref p), y3, y4, y5] ∧ Ex H H' ∧ H' p = some (.lst (xs.map V.int)) ∧ xs.Perm (natsI n)) (fun H2 e2 => ⟨none, none, none, natsI n, rfl, e1.trans e2, e2 _ _ h1, .refl _⟩) ?_ ?_
    · rintro i σ' H' hi ⟨y3, y4, y5, xs, rfl, e3, h3, pm⟩
      have hi' : i < n := by omega
      have hl : xs.length = n := by rw [pm.length_eq, natsI_len]
      obtain ⟨o, ho⟩ := Int.eq_ofNat_of_zero_le (Int.emod_nonneg (mixed c (i : Int)) (show ((n : Nat) : Int) ≠ 0 by omega))
      have ho2 : o < n := by
        have := Int.emod_lt_of_pos (mixed c (i : Int)) (show (0 : Int) < (n : Int) by omega)
        omega
      have sm := sv_mixed (H := H') (c := c) (k := (i : Int))
      refine q_asg (v := .int (o : Int)) ?_ fun H4 e4 => ?_
      · apply ev_is
        · (repeat' (first | with_reducible exact ev_c | ((with_reducible show Ev (tVar _) _ _ _); exact ev_var rfl) | with_reducible exact ea_nil | with_reducible exact eo_none | with_reducible refine' ea_cons ?_ ?_ | with_reducible refine' eo_some ?_ | with_reducible refine' ev_and2 ?_ ?_ | with_reducible refine' ev_or2 ?_ ?_ | with_reducible refine' ev_notV ?_ | with_reducible exact ru_I | with_reducible refine' ev_un ?_ ?_ | with_reducible exact rv_I0 | with_reducible exact rv_isN | with_reducible exact rv_notN | with_reducible refine' rv_I ?_ | with_reducible refine' rv_eq ?_ | with_reducible refine' rv_ne ?_ | with_reducible refine' ev_op ?_ ?_ ?_ | with_reducible refine' ev_chain2 ?_ ?_ ?_ ?_ ?_ | with_reducible refine' et_B ?_ | with_reducible refine' et_test ?_ | with_reducible refine' et_and2 ?_ ?_ | with_reducible refine' et_or2 ?_ ?_ | with_reducible refine' et_not ?_ | with_reducible refine' ev_call ?_ ?_ | with_reducible refine' ev_callS ?_ ?_ | with_reducible refine' ev_cb ?_ ?_ | with_reducible exact isi_bool (by assumption) | with_reducible exact isi_int (by assumption) | with_reducible exact isi_list (by assumption) | with_reducible exact rc_len (by assumption) | with_reducible exact rc_sum (by assumption) | with_reducible exact rc_abs | with_reducible exact isi_listL (by assumption) | with_reducible exact isi_intI | with_reducible exact isi_boolI | with_reducible exact rc_lenT (by assumption) | with_reducible exact isi_tup (by assumption) | with_reducible exact rv_eqL (by assumption) (by assumption) | with_reducible exact rv_neL (by assumption) (by assumption) | with_reducible exact rv_neT (by assumption) (by assumption) | with_reducible exact rv_ixL (by assumption) (by assumption) | with_reducible exact rv_ixT (by assumption) (by assumption) | with_reducible refine' ev_din ?_ ?_ (by assumption) | with_reducible refine' ev_dnotin ?_ ?_ (by assumption) | with_reducible refine' ev_dget ?_ ?_ (by assumption) (by assumption) | ((with_reducible show SpV _ _ _ _); assumption) | ((with_reducible show RV _ _ _ _ _); assumption) | ((with_reducible show RC _ _ _ _); assumption) | ((with_reducible show CDiv _ _); exact ⟨by omega, by omega⟩) | ((with_reducible show CMul _ _); first | exact .inl ⟨by omega, by omega⟩ | exact .inr ⟨by omega, by omega⟩) | ((with_reducible show CPow _ _); exact ⟨by omega, by omega, by first | decide | assumption | omega⟩) | ((with_reducible show (0 : Int) < _); omega) | ((with_reducible show (0 : Int) ≤ _); omega) | ((with_reducible show scal _ _ = true); rfl)))
        · rw [ho]
      have h4 := e4 _ _ h3
      have s4 : SqL K H4 p (xs.map V.int) := sq_of h4
      have gi := atI_int (ns := xs) (j := i) (by omega)
      refine q_asg (v := .int (xs.getD i 0)) (by (repeat' (first | with_reducible exact ev_c | ((with_reducible show Ev (tVar _) _ _ _); exact ev_var rfl) | with_reducible exact ea_nil | with_reducible exact eo_none | with_reducible refine' ea_cons ?_ ?_ | with_reducible refine' eo_some ?_ | with_reducible refine' ev_and2 ?_ ?_ | with_reducible refine' ev_or2 ?_ ?_ | with_reducible refine' ev_notV ?_ | with_reducible exact ru_I | with_reducible refine' ev_un ?_ ?_ | with_reducible exact rv_I0 | with_reducible exact rv_isN | with_reducible exact rv_notN | with_reducible refine' rv_I ?_ | with_reducible refine' rv_eq ?_ | with_reducible refine' rv_ne ?_ | with_reducible refine' ev_op ?_ ?_ ?_ | with_reducible refine' ev_chain2 ?_ ?_ ?_ ?_ ?_ | with_reducible refine' et_B ?_ | with_reducible refine' et_test ?_ | with_reducible refine' et_and2 ?_ ?_ | with_reducible refine' et_or2 ?_ ?_ | with_reducible refine' et_not ?_ | with_reducible refine' ev_call ?_ ?_ | with_reducible refine' ev_callS ?_ ?_ | with_reducible refine' ev_cb ?_ ?_ | with_reducible exact isi_bool (by assumption) | with_reducible exact isi_int (by assumption) | with_reducible exact isi_list (by assumption) | with_reducible exact rc_len (by assumption) | with_reducible exact rc_sum (by assumption) | with_reducible exact rc_abs | with_reducible exact isi_listL (by assumption) | with_reducible exact isi_intI | with_reducible exact isi_boolI | with_reducible exact rc_lenT (by assumption) | with_reducible exact isi_tup (by assumption) | with_reducible exact rv_eqL (by assumption) (by assumption) | with_reducible exact rv_neL (by assumption) (by assumption) | with_reducible exact rv_neT (by assumption) (by assumption) | with_reducible exact rv_ixL (by assumption) (by assumption) | with_reducible exact rv_ixT (by assumption) (by assumption) | with_reducible refine' ev_din ?_ ?_ (by assumption) | with_reducible refine' ev_dnotin ?_ ?_ (by assumption) | with_reducible refine' ev_dget ?_ ?_ (by assumption) (by assumption) | ((with_reducible show SpV _ _ _ _); assumption) | ((with_reducible show RV _ _ _ _ _); assumption) | ((with_reducible show RC _ _ _ _); assumption) | ((with_reducible show CDiv _ _); exact ⟨by omega, by omega⟩) | ((with_reducible show CMul _ _); first | exact .inl ⟨by omega, by omega⟩ | exact .inr ⟨by omega, by omega⟩) | ((with_reducible show CPow _ _); exact ⟨by omega, by omega, by first | decide | assumption | omega⟩) | ((with_reducible show (0 : Int) < _); omega) | ((with_reducible show (0 : Int) ≤ _); omega) | ((with_reducible show scal _ _ = true); rfl)))) fun H5 e5 => ?_
      have h5 := e5 _ _ h4
      have s5 : SqL K H5 p (xs.map V.int) := sq_of h5
      have go := atI_int (ns := xs) (j := o) (by omega)
      refine q_setL (j := i) h5 (v := .int (xs.getD o 0)) (by (repeat' (first | with_reducible exact ev_c | ((with_reducible show Ev (tVar _) _ _ _); exact ev_var rfl) | with_reducible exact ea_nil | with_reducible exact eo_none | with_reducible refine' ea_cons ?_ ?_ | with_reducible refine' eo_some ?_ | with_reducible refine' ev_and2 ?_ ?_ | with_reducible refine' ev_or2 ?_ ?_ | with_reducible refine' ev_notV ?_ | with_reducible exact ru_I | with_reducible refine' ev_un ?_ ?_ | with_reducible exact rv_I0 | with_reducible exact rv_isN | with_reducible exact rv_notN | with_reducible refine' rv_I ?_ | with_reducible refine' rv_eq ?_ | with_reducible refine' rv_ne ?_ | with_reducible refine' ev_op ?_ ?_ ?_ | with_reducible refine' ev_chain2 ?_ ?_ ?_ ?_ ?_ | with_reducible refine' et_B ?_ | with_reducible refine' et_test ?_ | with_reducible refine' et_and2 ?_ ?_ | with_reducible refine' et_or2 ?_ ?_ | with_reducible refine' et_not ?_ | with_reducible refine' ev_call ?_ ?_ | with_reducible refine' ev_callS ?_ ?_ | with_reducible refine' ev_cb ?_ ?_ | with_reducible exact isi_bool (by assumption) | with_reducible exact isi_int (by assumption) | with_reducible exact isi_list (by assumption) | with_reducible exact rc_len (by assumption) | with_reducible exact rc_sum (by assumption) | with_reducible exact rc_abs | with_reducible exact isi_listL (by assumption) | with_reducible exact isi_intI | with_reducible exact isi_boolI | with_reducible exact rc_lenT (by assumption) | with_reducible exact isi_tup (by assumption) | with_reducible exact rv_eqL (by assumption) (by assumption) | with_reducible exact rv_neL (by assumption) (by assumption) | with_reducible exact rv_neT (by assumption) (by assumption) | with_reducible exact rv_ixL (by assumption) (by assumption) | with_reducible exact rv_ixT (by assumption) (by assumption) | with_reducible refine' ev_din ?_ ?_ (by assumption) | with_reducible refine' ev_dnotin ?_ ?_ (by assumption) | with_reducible refine' ev_dget ?_ ?_ (by assumption) (by assumption) | ((with_reducible show SpV _ _ _ _); assumption) | ((with_reducible show RV _ _ _ _ _); assumption) | ((with_reducible show RC _ _ _ _); assumption) | ((with_reducible show CDiv _ _); exact ⟨by omega, by omega⟩) | ((with_reducible show CMul _ _); first | exact .inl ⟨by omega, by omega⟩ | exact .inr ⟨by omega, by omega⟩) | ((with_reducible show CPow _ _); exact ⟨by omega, by omega, by first | decide | assumption | omega⟩) | ((with_reducible show (0 : Int) < _); omega) | ((with_reducible show (0 : Int) ≤ _); omega) | ((with_reducible show scal _ _ = true); rfl)))) (by (repeat' (first | with_reducible exact ev_c | ((with_reducible show Ev (tVar _) _ _ _); exact ev_var rfl) | with_reducible exact ea_nil | with_reducible exact eo_none | with_reducible refine' ea_cons ?_ ?_ | with_reducible refine' eo_some ?_ | with_reducible refine' ev_and2 ?_ ?_ | with_reducible refine' ev_or2 ?_ ?_ | with_reducible refine' ev_notV ?_ | with_reducible exact ru_I | with_reducible refine' ev_un ?_ ?_ | with_reducible exact rv_I0 | with_reducible exact rv_isN | with_reducible exact rv_notN | with_reducible refine' rv_I ?_ | with_reducible refine' rv_eq ?_ | with_reducible refine' rv_ne ?_ | with_reducible refine' ev_op ?_ ?_ ?_ | with_reducible refine' ev_chain2 ?_ ?_ ?_ ?_ ?_ | with_reducible refine' et_B ?_ | with_reducible refine' et_test ?_ | with_reducible refine' et_and2 ?_ ?_ | with_reducible refine' et_or2 ?_ ?_ | with_reducible refine' et_not ?_ | with_reducible refine' ev_call ?_ ?_ | with_reducible refine' ev_callS ?_ ?_ | with_reducible refine' ev_cb ?_ ?_ | with_reducible exact isi_bool (by assumption) | with_reducible exact isi_int (by assumption) | with_reducible exact isi_list (by assumption) | with_reducible exact rc_len (by assumption) | with_reducible exact rc_sum (by assumption) | with_reducible exact rc_abs | with_reducible exact isi_listL (by assumption) | with_reducible exact isi_intI | with_reducible exact isi_boolI | with_reducible exact rc_lenT (by assumption) | with_reducible exact isi_tup (by assumption) | with_reducible exact rv_eqL (by assumption) (by assumption) | with_reducible exact rv_neL (by assumption) (by assumption) | with_reducible exact rv_neT (by assumption) (by assumption) | with_reducible exact rv_ixL (by assumption) (by assumption) | with_reducible exact rv_ixT (by assumption) (by assumption) | with_reducible refine' ev_din ?_ ?_ (by assumption) | with_reducible refine' ev_dnotin ?_ ?_ (by assumption) | with_reducible refine' ev_dget ?_ ?_ (by assumption) (by assumption) | ((with_reducible show SpV _ _ _ _); assumption) | ((with_reducible show RV _ _ _ _ _); assumption) | ((with_reducible show RC _ _ _ _); assumption) | ((with_reducible show CDiv _ _); exact ⟨by omega, by omega⟩) | ((with_reducible show CMul _ _); first | exact .inl ⟨by omega, by omega⟩ | exact .inr ⟨by omega, by omega⟩) | ((with_reducible show CPow _ _); exact ⟨by omega, by omega, by first | decide | assumption | omega⟩) | ((with_reducible show (0 : Int) < _); omega) | ((with_reducible show (0 : Int) ≤ _); omega) | ((with_reducible show scal _ _ = true); rfl)))) (by (repeat' (first | with_reducible exact ev_c | ((with_reducible show Ev (tVar _) _ _ _); exact ev_var rfl) | with_reducible exact ea_nil | with_reducible exact eo_none | with_reducible refine' ea_cons ?_ ?_ | with_reducible refine' eo_some ?_ | with_reducible refine' ev_and2 ?_ ?_ | with_reducible refine' ev_or2 ?_ ?_ | with_reducible refine' ev_notV ?_ | with_reducible exact ru_I | with_reducible refine' ev_un ?_ ?_ | with_reducible exact rv_I0 | with_reducible exact rv_isN | with_reducible exact rv_notN | with_reducible refine' rv_I ?_ | with_reducible refine' rv_eq ?_ | with_reducible refine' rv_ne ?_ | with_reducible refine' ev_op ?_ ?_ ?_ | with_reducible refine' ev_chain2 ?_ ?_ ?_ ?_ ?_ | with_reducible refine' et_B ?_ | with_reducible refine' et_test ?_ | with_reducible refine' et_and2 ?_ ?_ | with_reducible refine' et_or2 ?_ ?_ | with_reducible refine' et_not ?_ | with_reducible refine' ev_call ?_ ?_ | with_reducible refine' ev_callS ?_ ?_ | with_reducible refine' ev_cb ?_ ?_ | with_reducible exact isi_bool (by assumption) | with_reducible exact isi_int (by assumption) | with_reducible exact isi_list (by assumption) | with_reducible exact rc_len (by assumption) | with_reducible exact rc_sum (by assumption) | with_reducible exact rc_abs | with_reducible exact isi_listL (by assumption) | with_reducible exact isi_intI | with_reducible exact isi_boolI | with_reducible exact rc_lenT (by assumption) | with_reducible exact isi_tup (by assumption) | with_reducible exact rv_eqL (by assumption) (by assumption) | with_reducible exact rv_neL (by assumption) (by assumption) | with_reducible exact rv_neT (by assumption) (by assumption) | with_reducible exact rv_ixL (by assumption) (by assumption) | with_reducible exact rv_ixT (by assumption) (by assumption) | with_reducible refine' ev_din ?_ ?_ (by assumption) | with_reducible refine' ev_dnotin ?_ ?_ (by assumption) | with_reducible refine' ev_dget ?_ ?_ (by assumption) (by assumption) | ((with_reducible show SpV _ _ _ _); assumption) | ((with_reducible show RV _ _ _ _ _); assumption) | ((with_reducible show RC _ _ _ _); assumption) | ((with_reducible show CDiv _ _); exact ⟨by omega, by omega⟩) | ((with_reducible show CMul _ _); first | exact .inl ⟨by omega, by omega⟩ | exact .inr ⟨by omega, by omega⟩) | ((with_reducible show CPow _ _); exact ⟨by omega, by omega, by first | decide | assumption | omega⟩) | ((with_reducible show (0 : Int) < _); omega) | ((with_reducible show (0 : Int) ≤ _); omega) | ((with_reducible show scal _ _ = true); rfl)))) (by rw [List.length_map]; omega) fun H6 e6 => ?_
      refine s_setL (j := o) (xs := (xs.map V.int).set i (.int (xs.getD o 0))) upd_same (v := .int (xs.getD i 0)) (by (repeat' (first | with_reducible exact ev_c | ((with_reducible show Ev (tVar _) _ _ _); exact ev_var rfl) | with_reducible exact ea_nil | with_reducible exact eo_none | with_reducible refine' ea_cons ?_ ?_ | with_reducible refine' eo_some ?_ | with_reducible refine' ev_and2 ?_ ?_ | with_reducible refine' ev_or2 ?_ ?_ | with_reducible refine' ev_notV ?_ | with_reducible exact ru_I | with_reducible refine' ev_un ?_ ?_ | with_reducible exact rv_I0 | with_reducible exact rv_isN | with_reducible exact rv_notN | with_reducible refine' rv_I ?_ | with_reducible refine' rv_eq ?_ | with_reducible refine' rv_ne ?_ | with_reducible refine' ev_op ?_ ?_ ?_ | with_reducible refine' ev_chain2 ?_ ?_ ?_ ?_ ?_ | with_reducible refine' et_B ?_ | with_reducible refine' et_test ?_ | with_reducible refine' et_and2 ?_ ?_ | with_reducible refine' et_or2 ?_ ?_ | with_reducible refine' et_not ?_ | with_reducible refine' ev_call ?_ ?_ | with_reducible refine' ev_callS ?_ ?_ | with_reducible refine' ev_cb ?_ ?_ | with_reducible exact isi_bool (by assumption) | with_reducible exact isi_int (by assumption) | with_reducible exact isi_list (by assumption) | with_reducible exact rc_len (by assumption) | with_reducible exact rc_sum (by assumption) | with_reducible exact rc_abs | with_reducible exact isi_listL (by assumption) | with_reducible exact isi_intI | with_reducible exact isi_boolI | with_reducible exact rc_lenT (by assumption) | with_reducible exact isi_tup (by assumption) | with_reducible exact rv_eqL (by assumption) (by assumption) | with_reducible exact rv_neL (by assumption) (by assumption) | with_reducible exact rv_neT (by assumption) (by assumption) | with_reducible exact rv_ixL (by assumption) (by assumption) | with_reducible exact rv_ixT (by assumption) (by assumption) | with_reducible refine' ev_din ?_ ?_ (by assumption) | with_reducible refine' ev_dnotin ?_ ?_ (by assumption) | with_reducible refine' ev_dget ?_ ?_ (by assumption) (by assumption) | ((with_reducible show SpV _ _ _ _); assumption) | ((with_reducible show RV _ _ _ _ _); assumption) | ((with_reducible show RC _ _ _ _); assumption) | ((with_reducible show CDiv _ _); exact ⟨by omega, by omega⟩) | ((with_reducible show CMul _ _); first | exact .inl ⟨by omega, by omega⟩ | exact .inr ⟨by omega, by omega⟩) | ((with_reducible show CPow _ _); exact ⟨by omega, by omega, by first | decide | assumption | omega⟩) | ((with_reducible show (0 : Int) < _); omega) | ((with_reducible show (0 : Int) ≤ _); omega) | ((with_reducible show scal _ _ = true); rfl)))) (by (repeat' (first | with_reducible exact ev_c | ((with_reducible show Ev (tVar _) _ _ _); exact ev_var rfl) | with_reducible exact ea_nil | with_reducible exact eo_none | with_reducible refine' ea_cons ?_ ?_ | with_reducible refine' eo_some ?_ | with_reducible refine' ev_and2 ?_ ?_ | with_reducible refine' ev_or2 ?_ ?_ | with_reducible refine' ev_notV ?_ | with_reducible exact ru_I | with_reducible refine' ev_un ?_ ?_ | with_reducible exact rv_I0 | with_reducible exact rv_isN | with_reducible exact rv_notN | with_reducible refine' rv_I ?_ | with_reducible refine' rv_eq ?_ | with_reducible refine' rv_ne ?_ | with_reducible refine' ev_op ?_ ?_ ?_ | with_reducible refine' ev_chain2 ?_ ?_ ?_ ?_ ?_ | with_reducible refine' et_B ?_ | with_reducible refine' et_test ?_ | with_reducible refine' et_and2 ?_ ?_ | with_reducible refine' et_or2 ?_ ?_ | with_reducible refine' et_not ?_ | with_reducible refine' ev_call ?_ ?_ | with_reducible refine' ev_callS ?_ ?_ | with_reducible refine' ev_cb ?_ ?_ | with_reducible exact isi_bool (by assumption) | with_reducible exact isi_int (by assumption) | with_reducible exact isi_list (by assumption) | with_reducible exact rc_len (by assumption) | with_reducible exact rc_sum (by assumption) | with_reducible exact rc_abs | with_reducible exact isi_listL (by assumption) | with_reducible exact isi_intI | with_reducible exact isi_boolI | with_reducible exact rc_lenT (by assumption) | with_reducible exact isi_tup (by assumption) | with_reducible exact rv_eqL (by assumption) (by assumption) | with_reducible exact rv_neL (by assumption) (by assumption) | with_reducible exact rv_neT (by assumption) (by assumption) | with_reducible exact rv_ixL (by assumption) (by assumption) | with_reducible exact rv_ixT (by assumption) (by assumption) | with_reducible refine' ev_din ?_ ?_ (by assumption) | with_reducible refine' ev_dnotin ?_ ?_ (by assumption) | with_reducible refine' ev_dget ?_ ?_ (by assumption) (by assumption) | ((with_reducible show SpV _ _ _ _); assumption) | ((with_reducible show RV _ _ _ _ _); assumption) | ((with_reducible show RC _ _ _ _); assumption) | ((with_reducible show CDiv _ _); exact ⟨by omega, by omega⟩) | ((with_reducible show CMul _ _); first | exact .inl ⟨by omega, by omega⟩ | exact .inr ⟨by omega, by omega⟩) | ((with_reducible show CPow _ _); exact ⟨by omega, by omega, by first | decide | assumption | omega⟩) | ((with_reducible show (0 : Int) < _); omega) | ((with_reducible show (0 : Int) ≤ _); omega) | ((with_reducible show scal _ _ = true); rfl)))) (by (repeat' (first | with_reducible exact ev_c | ((with_reducible show Ev (tVar _) _ _ _); exact ev_var rfl) | with_reducible exact ea_nil | with_reducible exact eo_none | with_reducible refine' ea_cons ?_ ?_ | with_reducible refine' eo_some ?_ | with_reducible refine' ev_and2 ?_ ?_ | with_reducible refine' ev_or2 ?_ ?_ | with_reducible refine' ev_notV ?_ | with_reducible exact ru_I | with_reducible refine' ev_un ?_ ?_ | with_reducible exact rv_I0 | with_reducible exact rv_isN | with_reducible exact rv_notN | with_reducible refine' rv_I ?_ | with_reducible refine' rv_eq ?_ | with_reducible refine' rv_ne ?_ | with_reducible refine' ev_op ?_ ?_ ?_ | with_reducible refine' ev_chain2 ?_ ?_ ?_ ?_ ?_ | with_reducible refine' et_B ?_ | with_reducible refine' et_test ?_ | with_reducible refine' et_and2 ?_ ?_ | with_reducible refine' et_or2 ?_ ?_ | with_reducible refine' et_not ?_ | with_reducible refine' ev_call ?_ ?_ | with_reducible refine' ev_callS ?_ ?_ | with_reducible refine' ev_cb ?_ ?_ | with_reducible exact isi_bool (by assumption) | with_reducible exact isi_int (by assumption) | with_reducible exact isi_list (by assumption) | with_reducible exact rc_len (by assumption) | with_reducible exact rc_sum (by assumption) | with_reducible exact rc_abs | with_reducible exact isi_listL (by assumption) | with_reducible exact isi_intI | with_reducible exact isi_boolI | with_reducible exact rc_lenT (by assumption) | with_reducible exact isi_tup (by assumption) | with_reducible exact rv_eqL (by assumption) (by assumption) | with_reducible exact rv_neL (by assumption) (by assumption) | with_reducible exact rv_neT (by assumption) (by assumption) | with_reducible exact rv_ixL (by assumption) (by assumption) | with_reducible exact rv_ixT (by assumption) (by assumption) | with_reducible refine' ev_din ?_ ?_ (by assumption) | with_reducible refine' ev_dnotin ?_ ?_ (by assumption) | with_reducible refine' ev_dget ?_ ?_ (by assumption) (by assumption) | ((with_reducible show SpV _ _ _ _); assumption) | ((with_reducible show RV _ _ _ _ _); assumption) | ((with_reducible show RC _ _ _ _); assumption) | ((with_reducible show CDiv _ _); exact ⟨by omega, by omega⟩) | ((with_reducible show CMul _ _); first | exact .inl ⟨by omega, by omega⟩ | exact .inr ⟨by omega, by omega⟩) | ((with_reducible show CPow _ _); exact ⟨by omega, by omega, by first | decide | assumption | omega⟩) | ((with_reducible show (0 : Int) < _); omega) | ((with_reducible show (0 : Int) ≤ _); omega) | ((with_reducible show scal _ _ = true); rfl)))) (by rw [List.length_set, List.length_map]; omega) fun H7 e7 => ?_
      refine ⟨_, _, _, (xs.set i (xs.getD o 0)).set o (xs.getD i 0), rfl, ?_, ?_, ?_⟩
      · exact Ex.mut ((Ex.mut (((e3.trans e4).trans e5).trans e6) hp).trans e7) hp
      · rw [upd_same, List.map_set, List.map_set]
      · have gi2 : xs.getD i 0 = xs[i]'(by omega) := by rw [List.getD_eq_getElem?_getD, List.getElem?_eq_getElem (by omega)]; rfl
        have go2 : xs.getD o 0 = xs[o]'(by omega) := by rw [List.getD_eq_getElem?_getD, List.getElem?_eq_getElem (by omega)]; rfl
        rw [gi2, go2]
        exact (List.set_set_perm (by omega) (by omega)).trans pm
    · rintro σ' H' ⟨y3, y4, y5, xs, rfl, e3, h3, pm⟩
      exact s_ret (v := .ref p) (by (repeat' (first | with_reducible exact ev_c | ((with_reducible show Ev (tVar _) _ _ _); exact ev_var rfl) | with_reducible exact ea_nil | with_reducible exact eo_none | with_reducible refine' ea_cons ?_ ?_ | with_reducible refine' eo_some ?_ | with_reducible refine' ev_and2 ?_ ?_ | with_reducible refine' ev_or2 ?_ ?_ | with_reducible refine' ev_notV ?_ | with_reducible exact ru_I | with_reducible refine' ev_un ?_ ?_ | with_reducible exact rv_I0 | with_reducible exact rv_isN | with_reducible exact rv_notN | with_reducible refine' rv_I ?_ | with_reducible refine' rv_eq ?_ | with_reducible refine' rv_ne ?_ | with_reducible refine' ev_op ?_ ?_ ?_ | with_reducible refine' ev_chain2 ?_ ?_ ?_ ?_ ?_ | with_reducible refine' et_B ?_ | with_reducible refine' et_test ?_ | with_reducible refine' et_and2 ?_ ?_ | with_reducible refine' et_or2 ?_ ?_ | with_reducible refine' et_not ?_ | with_reducible refine' ev_call ?_ ?_ | with_reducible refine' ev_callS ?_ ?_ | with_reducible refine' ev_cb ?_ ?_ | with_reducible exact isi_bool (by assumption) | with_reducible exact isi_int (by assumption) | with_reducible exact isi_list (by assumption) | with_reducible exact rc_len (by assumption) | with_reducible exact rc_sum (by assumption) | with_reducible exact rc_abs | with_reducible exact isi_listL (by assumption) | with_reducible exact isi_intI | with_reducible exact isi_boolI | with_reducible exact rc_lenT (by assumption) | with_reducible exact isi_tup (by assumption) | with_reducible exact rv_eqL (by assumption) (by assumption) | with_reducible exact rv_neL (by assumption) (by assumption) | with_reducible exact rv_neT (by assumption) (by assumption) | with_reducible exact rv_ixL (by assumption) (by assumption) | with_reducible exact rv_ixT (by assumption) (by assumption) | with_reducible refine' ev_din ?_ ?_ (by assumption) | with_reducible refine' ev_dnotin ?_ ?_ (by assumption) | with_reducible refine' ev_dget ?_ ?_ (by assumption) (by assumption) | ((with_reducible show SpV _ _ _ _); assumption) | ((with_reducible show RV _ _ _ _ _); assumption) | ((with_reducible show RC _ _ _ _); assumption) | ((with_reducible show CDiv _ _); exact ⟨by omega, by omega⟩) | ((with_reducible show CMul _ _); first | exact .inl ⟨by omega, by omega⟩ | exact .inr ⟨by omega, by omega⟩) | ((with_reducible show CPow _ _); exact ⟨by omega, by omega, by first | decide | assumption | omega⟩) | ((with_reducible show (0 : Int) < _); omega) | ((with_reducible show (0 : Int) ≤ _); omega) | ((with_reducible show scal _ _ = true); rfl)))) fun H4 e4 => q xs pm p H4 hp (e3.trans e4) (e4 _ _ h3)

end TB

/-! ### the laws' comparison of lists -/
namespace TB
open PySem PySem.Spec PyProof.Rows L2 Evl
def sp_same (K : PySem.W.Frag) : Sp := fun vs H Q E => ∃ (p r : Addr) (ns ms : List Int), vs = [.ref p, .ref r] ∧ H p = some (.lst (ns.map V.int)) ∧ SqL K H r (ms.map V.int) ∧ ms.length ≤ 1000 ∧ RetV (.bl (decide (ns = ms))) H Q
theorem sv_same {K : PySem.W.Frag} {H : Hp} {p r : Addr} {ns ms : List Int} (h1 : H p = some (.lst (ns.map V.int))) (h2 : SqL K H r (ms.map V.int)) (hl : ms.length ≤ 1000) : SpV (sp_same K) [.ref p, .ref r] H (.bl (decide (ns = ms))) := spv_of fun H1 e Q E k => ⟨p, r, ns, ms, rfl, e _ _ h1, ex_l e h2, hl, k⟩
theorem sc__law_same : FnScope ["_law_found", "_law_due", "_law_k"] ["_law_found", "_law_due"] (defScope s__law_same) := ⟨rfl, rfl, rfl, by decide +kernel, rfl, by decide +kernel, by decide +kernel⟩
theorem ok__law_same {P : Program} {w : World} {K : PySem.W.Frag} {mg : Str → Option Value} {base : Heap} (T : TXT K mg) : OK P w K mg base "_law_same" ["_law_found", "_law_due"] 1 (sp_same K) := by
  obtain ⟨fd, F⟩ := T.def_ 11
  refine ⟨_, fd, T.glo 10, F.kp, F.bindsN (fun _ _ _ _ _ _ us hl => match us, hl with | [_, _], _ => rfl), F.ok sc__law_same (fun vs H Q E h => ?_) (fun cdv A outer s H vs Q E hr h => ?_), F.bindsA (fun _ _ _ _ _ _ us hl => match us, hl with | [_, _], _ => rfl)⟩
  · first | (obtain ⟨rfl, _⟩ := h; rfl) | (obtain ⟨_, rfl, _⟩ := h; rfl) | (obtain ⟨_, _, rfl, _⟩ := h; rfl) | (obtain ⟨_, _, _, rfl, _⟩ := h; rfl) | (obtain ⟨_, _, _, _, rfl, _⟩ := h; rfl) | (obtain ⟨_, _, _, _, _, rfl, _⟩ := h; rfl) | (obtain ⟨_, _, _, _, _, _, rfl, _⟩ := h; rfl) | (obtain ⟨_, _, _, _, _, _, _, rfl, _⟩ := h; rfl) | (obtain ⟨_, _, _, _, _, _, _, _, rfl, _⟩ := h; rfl)
  · replace F : FunD K "_law_same" "_law_same" (defArgs s__law_same) (defBody s__law_same) (defScope s__law_same) [] [] (He.ga K "_law_same") fd := F
    refine ⟨_, (pss_cons (ps_if (PW.pt (pw_or (pt_not (pt_val (pe_callB (id := "isinstance") (k_isi K) (by rfl) (T.free 32) (by decide +kernel) (pa_cons (pv 0) (pa_cons (pe_ty (T := "list") (T.free 34) (by decide +kernel)) pa_nil))))) (pw_or1 (pt_cmpR op_ne (pe_callB (id := "len") (k_len K) (by rfl) (T.free 33) (by decide +kernel) (pa_cons (pv 0) pa_nil)) (pe_callB (id := "len") (k_len K) (by rfl) (T.free 33) (by decide +kernel) (pa_cons (pv 1) pa_nil)) (nomark _)))))
        (pss_one (ps_ret pe_bl))
        pss_nil)
      (pss_cons (ps_for (passes_of rfl) rfl (pi_range1 (by rfl) (T.free 35) (pa_cons (pe_callB (id := "len") (k_len K) (by rfl) (T.free 33) (by decide +kernel) (pa_cons (pv 1) pa_nil)) pa_nil)) (pg_name (i := 2) sc__law_same.nd rfl (Or.inl rfl))
        (pss_one (ps_if (PW.pt (pw_or (pt_not (pt_val (pe_callB (id := "isinstance") (k_isi K) (by rfl) (T.free 32) (by decide +kernel) (pa_cons (pe_ix (k_ixL K) (pv 0) (pv 2) (fun _ _ => rfl)) (pa_cons (pe_ty (T := "int") (T.free 31) (by decide +kernel)) pa_nil))))) (pw_or (pt_val (pe_callB (id := "isinstance") (k_isi K) (by rfl) (T.free 32) (by decide +kernel) (pa_cons (pe_ix (k_ixL K) (pv 0) (pv 2) (fun _ _ => rfl)) (pa_cons (pe_ty (T := "bool") (T.free 30) (by decide +kernel)) pa_nil)))) (pw_or1 (pt_cmpR op_ne (pe_ix (k_ixL K) (pv 0) (pv 2) (fun _ _ => rfl)) (pe_ix (k_ixL K) (pv 1) (pv 2) (fun _ _ => rfl)) (nomark _))))))
        (pss_one (ps_ret pe_bl))
        pss_nil)))
      (pss_one (ps_ret pe_bl)))), ?_⟩
    obtain ⟨p, r, ns, ms, rfl, hp, hr, hl, q⟩ := h
    dsimp only [cxOf, L2.start, List.map_cons, List.map_nil, List.length_cons, List.length_nil, Nat.reduceAdd, Nat.reduceSub, List.replicate_succ, List.replicate_zero, List.cons_append, List.nil_append, Nat.zero_add, List.reduceReplicate, List.map]
    have sp : SqL K H p (ns.map V.int) := sq_of hp
    refine q_when (b := !decide (ns.length = ms.length)) ?_ (fun hb H1 e1 => ?_) (fun hb H1 e1 => ?_)
    · apply et_is
      · (repeat' (first | with_reducible exact ev_c | ((with_reducible show Ev (tVar _) _ _ _); exact ev_var rfl) | with_reducible exact ea_nil | with_reducible exact eo_none | with_reducible refine' ea_cons ?_ ?_ | with_reducible refine' eo_some ?_ | with_reducible refine' ev_and2 ?_ ?_ | with_reducible refine' ev_or2 ?_ ?_ | with_reducible refine' ev_notV ?_ | with_reducible exact ru_I | with_reducible refine' ev_un ?_ ?_ | with_reducible exact rv_I0 | with_reducible exact rv_isN | with_reducible exact rv_notN | with_reducible refine' rv_I ?_ | with_reducible refine' rv_eq ?_ | with_reducible refine' rv_ne ?_ | with_reducible refine' ev_op ?_ ?_ ?_ | with_reducible refine' ev_chain2 ?_ ?_ ?_ ?_ ?_ | with_reducible refine' et_B ?_ | with_reducible refine' et_test ?_ | with_reducible refine' et_and2 ?_ ?_ | with_reducible refine' et_or2 ?_ ?_ | with_reducible refine' et_not ?_ | with_reducible refine' ev_call ?_ ?_ | with_reducible refine' ev_callS ?_ ?_ | with_reducible refine' ev_cb ?_ ?_ | with_reducible exact isi_bool (by assumption) | with_reducible exact isi_int (by assumption) | with_reducible exact isi_list (by assumption) | with_reducible exact rc_len (by assumption) | with_reducible exact rc_sum (by assumption) | with_reducible exact rc_abs | with_reducible exact isi_listL (by assumption) | with_reducible exact isi_intI | with_reducible exact isi_boolI | with_reducible exact rc_lenT (by assumption) | with_reducible exact isi_tup (by assumption) | with_reducible exact rv_eqL (by assumption) (by assumption) | with_reducible exact rv_neL (by assumption) (by assumption) | with_reducible exact rv_neT (by assumption) (by assumption) | with_reducible exact rv_ixL (by assumption) (by assumption) | with_reducible exact rv_ixT (by assumption) (by assumption) | with_reducible refine' ev_din ?_ ?_ (by assumption) | with_reducible refine' ev_dnotin ?_ ?_ (by assumption) | with_reducible refine' ev_dget ?_ ?_ (by assumption) (by assumption) | ((with_reducible show SpV _ _ _ _); assumption) | ((with_reducible show RV _ _ _ _ _); assumption) | ((with_reducible show RC _ _ _ _); assumption) | ((with_reducible show CDiv _ _); exact ⟨by omega, by omega⟩) | ((with_reducible show CMul _ _); first | exact .inl ⟨by omega, by omega⟩ | exact .inr ⟨by omega, by omega⟩) | ((with_reducible show CPow _ _); exact ⟨by omega, by omega, by first | decide | assumption | omega⟩) | ((with_reducible show (0 : Int) < _); omega) | ((with_reducible show (0 : Int) ≤ _); omega) | ((with_reducible show scal _ _ = true); rfl)))
      · rw [List.length_map, List.length_map, dec_int]
        show (!true || !((ns.length : Int) == (ms.length : Int))) = _
        rw [Bool.eq_iff_iff]
        simp
        omega
    · have z : decide (ns = ms) = false := by
        rw [Bool.not_eq_true', decide_eq_false_iff_not] at hb
        exact decide_eq_false fun e => hb (by rw [e])
      rw [z] at q
      exact s_ret (v := .bl false) (by (repeat' (first | with_reducible exact ev_c | ((with_reducible show Ev (tVar _) _ _ _); exact ev_var rfl) | with_reducible exact ea_nil | with_reducible exact eo_none | with_reducible refine' ea_cons ?_ ?_ | with_reducible refine' eo_some ?_ | with_reducible refine' ev_and2 ?_ ?_ | with_reducible refine' ev_or2 ?_ ?_ | with_reducible refine' ev_notV ?_ | with_reducible exact ru_I | with_reducible refine' ev_un ?_ ?_ | with_reducible exact rv_I0 | with_reducible exact rv_isN | with_reducible exact rv_notN | with_reducible refine' rv_I ?_ | with_reducible refine' rv_eq ?_ | with_reducible refine' rv_ne ?_ | with_reducible refine' ev_op ?_ ?_ ?_ | with_reducible refine' ev_chain2 ?_ ?_ ?_ ?_ ?_ | with_reducible refine' et_B ?_ | with_reducible refine' et_test ?_ | with_reducible refine' et_and2 ?_ ?_ | with_reducible refine' et_or2 ?_ ?_ | with_reducible refine' et_not ?_ | with_reducible refine' ev_call ?_ ?_ | with_reducible refine' ev_callS ?_ ?_ | with_reducible refine' ev_cb ?_ ?_ | with_reducible exact isi_bool (by assumption) | with_reducible exact isi_int (by assumption) | with_reducible exact isi_list (by assumption) | with_reducible exact rc_len (by assumption) | with_reducible exact rc_sum (by assumption) | with_reducible exact rc_abs | with_reducible exact isi_listL (by assumption) | with_reducible exact isi_intI | with_reducible exact isi_boolI | with_reducible exact rc_lenT (by assumption) | with_reducible exact isi_tup (by assumption) | with_reducible exact rv_eqL (by assumption) (by assumption) | with_reducible exact rv_neL (by assumption) (by assumption) | with_reducible exact rv_neT (by assumption) (by assumption) | with_reducible exact rv_ixL (by assumption) (by assumption) | with_reducible exact rv_ixT (by assumption) (by assumption) | with_reducible refine' ev_din ?_ ?_ (by assumption) | with_reducible refine' ev_dnotin ?_ ?_ (by assumption) | with_reducible refine' ev_dget ?_ ?_ (by assumption) (by assumption) | ((with_reducible show SpV _ _ _ _); assumption) | ((with_reducible show RV _ _ _ _ _); assumption) | ((with_reducible show RC _ _ _ _); assumption) | ((with_reducible show CDiv _ _); exact ⟨by omega, by omega⟩) | ((with_reducible show CMul _ _); first | exact .inl ⟨by omega, by omega⟩ | exact .inr ⟨by omega, by omega⟩) | ((with_reducible show CPow _ _); exact ⟨by omega, by omega, by first | decide | assumption | omega⟩) | ((with_reducible show (0 : Int) < _); omega) | ((with_reducible show (0 : Int) ≤ _); omega) | ((with_reducible show scal _ _ = true); rfl)))) fun H2 e2 => q H2 (e1.trans e2)
    · have hlen : ns.length = ms.length := by
        rw [Bool.not_eq_false', decide_eq_true_iff] at hb
        exact hb
      have hr1 := ex_l e1 hr
      refine q_forR1 (n := (ms.length : Int)) (by rw [← List.length_map (as := ms) (f := V.int)]; (repeat' (first | with_reducible exact ev_c | ((with_reducible show Ev (tVar _) _ _ _); exact ev_var rfl) | with_reducible exact ea_nil | with_reducible exact eo_none | with_reducible refine' ea_cons ?_ ?_ | with_reducible refine' eo_some ?_ | with_reducible refine' ev_and2 ?_ ?_ | with_reducible refine' ev_or2 ?_ ?_ | with_reducible refine' ev_notV ?_ | with_reducible exact ru_I | with_reducible refine' ev_un ?_ ?_ | with_reducible exact rv_I0 | with_reducible exact rv_isN | with_reducible exact rv_notN | with_reducible refine' rv_I ?_ | with_reducible refine' rv_eq ?_ | with_reducible refine' rv_ne ?_ | with_reducible refine' ev_op ?_ ?_ ?_ | with_reducible refine' ev_chain2 ?_ ?_ ?_ ?_ ?_ | with_reducible refine' et_B ?_ | with_reducible refine' et_test ?_ | with_reducible refine' et_and2 ?_ ?_ | with_reducible refine' et_or2 ?_ ?_ | with_reducible refine' et_not ?_ | with_reducible refine' ev_call ?_ ?_ | with_reducible refine' ev_callS ?_ ?_ | with_reducible refine' ev_cb ?_ ?_ | with_reducible exact isi_bool (by assumption) | with_reducible exact isi_int (by assumption) | with_reducible exact isi_list (by assumption) | with_reducible exact rc_len (by assumption) | with_reducible exact rc_sum (by assumption) | with_reducible exact rc_abs | with_reducible exact isi_listL (by assumption) | with_reducible exact isi_intI | with_reducible exact isi_boolI | with_reducible exact rc_lenT (by assumption) | with_reducible exact isi_tup (by assumption) | with_reducible exact rv_eqL (by assumption) (by assumption) | with_reducible exact rv_neL (by assumption) (by assumption) | with_reducible exact rv_neT (by assumption) (by assumption) | with_reducible exact rv_ixL (by assumption) (by assumption) | with_reducible exact rv_ixT (by assumption) (by assumption) | with_reducible refine' ev_din ?_ ?_ (by assumption) | with_reducible refine' ev_dnotin ?_ ?_ (by assumption) | with_reducible refine' ev_dget ?_ ?_ (by assumption) (by assumption) | ((with_reducible show SpV _ _ _ _); assumption) | ((with_reducible show RV _ _ _ _ _); assumption) | ((with_reducible show RC _ _ _ _); assumption) | ((with_reducible show CDiv _ _); exact ⟨by omega, by omega⟩) | ((with_reducible show CMul _ _); first | exact .inl ⟨by omega, by omega⟩ | exact .inr ⟨by omega, by omega⟩) | ((with_reducible show CPow _ _); exact ⟨by omega, by omega, by first | decide | assumption | omega⟩) | ((with_reducible show (0 : Int) < _); omega) | ((with_reducible show (0 : Int) ≤ _); omega) | ((with_reducible show scal _ _ = true); rfl)))) (by omega) (fun i σ' H' => ∃ y2, σ' = [some (V.ref p), some (V.ref r), y2] ∧ Ex H H' ∧ ns.take i = ms.take i) (fun H2 e2 => ⟨_, rfl, e1.trans e2, rfl⟩) ?_ ?_
      · rintro i σ' H' hi ⟨y2, rfl, e2, ht⟩
        have hi' : i < ms.length := by omega
        have sp2 := ex_l e2 sp
        have sr2 := ex_l e2 hr
        have gn := atI_int (ns := ns) (j := i) (by omega)
        have gm := atI_int (ns := ms) (j := i) hi'
        have gn2 : ns[i]? = some (ns.getD i 0) := by rw [List.getD_eq_getElem?_getD, List.getElem?_eq_getElem (by omega)]; rfl
        have gm2 : ms[i]? = some (ms.getD i 0) := by rw [List.getD_eq_getElem?_getD, List.getElem?_eq_getElem hi']; rfl
        refine s_when (b := !decide (ns.getD i 0 = ms.getD i 0)) ?_ (fun hb H3 e3 => ?_) (fun hb H3 e3 => ?_)
        · apply et_is
          · (repeat' (first | with_reducible exact ev_c | ((with_reducible show Ev (tVar _) _ _ _); exact ev_var rfl) | with_reducible exact ea_nil | with_reducible exact eo_none | with_reducible refine' ea_cons ?_ ?_ | with_reducible refine' eo_some ?_ | with_reducible refine' ev_and2 ?_ ?_ | with_reducible refine' ev_or2 ?_ ?_ | with_reducible refine' ev_notV ?_ | with_reducible exact ru_I | with_reducible refine' ev_un ?_ ?_ | with_reducible exact rv_I0 | with_reducible exact rv_isN | with_reducible exact rv_notN | with_reducible refine' rv_I ?_ | with_reducible refine' rv_eq ?_ | with_reducible refine' rv_ne ?_ | with_reducible refine' ev_op ?_ ?_ ?_ | with_reducible refine' ev_chain2 ?_ ?_ ?_ ?_ ?_ | with_reducible refine' et_B ?_ | with_reducible refine' et_test ?_ | with_reducible refine' et_and2 ?_ ?_ | with_reducible refine' et_or2 ?_ ?_ | with_reducible refine' et_not ?_ | with_reducible refine' ev_call ?_ ?_ | with_reducible refine' ev_callS ?_ ?_ | with_reducible refine' ev_cb ?_ ?_ | with_reducible exact isi_bool (by assumption) | with_reducible exact isi_int (by assumption) | with_reducible exact isi_list (by assumption) | with_reducible exact rc_len (by assumption) | with_reducible exact rc_sum (by assumption) | with_reducible exact rc_abs | with_reducible exact isi_listL (by assumption) | with_reducible exact isi_intI | with_reducible exact isi_boolI | with_reducible exact rc_lenT (by assumption) | with_reducible exact isi_tup (by assumption) | with_reducible exact rv_eqL (by assumption) (by assumption) | with_reducible exact rv_neL (by assumption) (by assumption) | with_reducible exact rv_neT (by assumption) (by assumption) | with_reducible exact rv_ixL (by assumption) (by assumption) | with_reducible exact rv_ixT (by assumption) (by assumption) | with_reducible refine' ev_din ?_ ?_ (by assumption) | with_reducible refine' ev_dnotin ?_ ?_ (by assumption) | with_reducible refine' ev_dget ?_ ?_ (by assumption) (by assumption) | ((with_reducible show SpV _ _ _ _); assumption) | ((with_reducible show RV _ _ _ _ _); assumption) | ((with_reducible show RC _ _ _ _); assumption) | ((with_reducible show CDiv _ _); exact ⟨by omega, by omega⟩) | ((with_reducible show CMul _ _); first | exact .inl ⟨by omega, by omega⟩ | exact .inr ⟨by omega, by omega⟩) | ((with_reducible show CPow _ _); exact ⟨by omega, by omega, by first | decide | assumption | omega⟩) | ((with_reducible show (0 : Int) < _); omega) | ((with_reducible show (0 : Int) ≤ _); omega) | ((with_reducible show scal _ _ = true); rfl)))
          · rw [dec_int]
            show (!true || (false || !(ns.getD i 0 == ms.getD i 0))) = _
            rw [Bool.eq_iff_iff]
            simp
        · have z : decide (ns = ms) = false := by
            rw [Bool.not_eq_true', decide_eq_false_iff_not] at hb
            exact decide_eq_false fun e => hb (by rw [e])
          rw [z] at q
          exact s_ret (v := .bl false) (by (repeat' (first | with_reducible exact ev_c | ((with_reducible show Ev (tVar _) _ _ _); exact ev_var rfl) | with_reducible exact ea_nil | with_reducible exact eo_none | with_reducible refine' ea_cons ?_ ?_ | with_reducible refine' eo_some ?_ | with_reducible refine' ev_and2 ?_ ?_ | with_reducible refine' ev_or2 ?_ ?_ | with_reducible refine' ev_notV ?_ | with_reducible exact ru_I | with_reducible refine' ev_un ?_ ?_ | with_reducible exact rv_I0 | with_reducible exact rv_isN | with_reducible exact rv_notN | with_reducible refine' rv_I ?_ | with_reducible refine' rv_eq ?_ | with_reducible refine' rv_ne ?_ | with_reducible refine' ev_op ?_ ?_ ?_ | with_reducible refine' ev_chain2 ?_ ?_ ?_ ?_ ?_ | with_reducible refine' et_B ?_ | with_reducible refine' et_test ?_ | with_reducible refine' et_and2 ?_ ?_ | with_reducible refine' et_or2 ?_ ?_ | with_reducible refine' et_not ?_ | with_reducible refine' ev_call ?_ ?_ | with_reducible refine' ev_callS ?_ ?_ | with_reducible refine' ev_cb ?_ ?_ | with_reducible exact isi_bool (by assumption) | with_reducible exact isi_int (by assumption) | with_reducible exact isi_list (by assumption) | with_reducible exact rc_len (by assumption) | with_reducible exact rc_sum (by assumption) | with_reducible exact rc_abs | with_reducible exact isi_listL (by assumption) | with_reducible exact isi_intI | with_reducible exact isi_boolI | with_reducible exact rc_lenT (by assumption) | with_reducible exact isi_tup (by assumption) | with_reducible exact rv_eqL (by assumption) (by assumption) | with_reducible exact rv_neL (by assumption) (by assumption) | with_reducible exact rv_neT (by assumption) (by assumption) | with_reducible exact rv_ixL (by assumption) (by assumption) | with_reducible exact rv_ixT (by assumption) (by assumption) | with_reducible refine' ev_din ?_ ?_ (by assumption) | with_reducible refine' ev_dnotin ?_ ?_ (by assumption) | with_reducible refine' ev_dget ?_ ?_ (by assumption) (by assumption) | ((with_reducible show SpV _ _ _ _); assumption) | ((with_reducible show RV _ _ _ _ _); assumption) | ((with_reducible show RC _ _ _ _); assumption) | ((with_reducible show CDiv _ _); exact ⟨by omega, by omega⟩) | ((with_reducible show CMul _ _); first | exact .inl ⟨by omega, by omega⟩ | exact .inr ⟨by omega, by omega⟩) | ((with_reducible show CPow _ _); exact ⟨by omega, by omega, by first | decide | assumption | omega⟩) | ((with_reducible show (0 : Int) < _); omega) | ((with_reducible show (0 : Int) ≤ _); omega) | ((with_reducible show scal _ _ = true); rfl)))) fun H4 e4 => q H4 ((e2.trans e3).trans e4)
        · rw [Bool.not_eq_false', decide_eq_true_iff] at hb
          refine ⟨_, rfl, e2.trans e3, ?_⟩
          rw [List.take_add_one, List.take_add_one, ht, gn2, gm2, hb]
      · rintro σ' H' ⟨y2, rfl, e2, ht⟩
        have ht : ns = ms := by
          rw [show (ms.length : Int).toNat = ms.length by omega, List.take_length, ← hlen, List.take_length] at ht
          exact ht
        rw [decide_eq_true ht] at q
        exact s_ret (v := .bl true) (by (repeat' (first | with_reducible exact ev_c | ((with_reducible show Ev (tVar _) _ _ _); exact ev_var rfl) | with_reducible exact ea_nil | with_reducible exact eo_none | with_reducible refine' ea_cons ?_ ?_ | with_reducible refine' eo_some ?_ | with_reducible refine' ev_and2 ?_ ?_ | with_reducible refine' ev_or2 ?_ ?_ | with_reducible refine' ev_notV ?_ | with_reducible exact ru_I | with_reducible refine' ev_un ?_ ?_ | with_reducible exact rv_I0 | with_reducible exact rv_isN | with_reducible exact rv_notN | with_reducible refine' rv_I ?_ | with_reducible refine' rv_eq ?_ | with_reducible refine' rv_ne ?_ | with_reducible refine' ev_op ?_ ?_ ?_ | with_reducible refine' ev_chain2 ?_ ?_ ?_ ?_ ?_ | with_reducible refine' et_B ?_ | with_reducible refine' et_test ?_ | with_reducible refine' et_and2 ?_ ?_ | with_reducible refine' et_or2 ?_ ?_ | with_reducible refine' et_not ?_ | with_reducible refine' ev_call ?_ ?_ | with_reducible refine' ev_callS ?_ ?_ | with_reducible refine' ev_cb ?_ ?_ | with_reducible exact isi_bool (by assumption) | with_reducible exact isi_int (by assumption) | with_reducible exact isi_list (by assumption) | with_reducible exact rc_len (by assumption) | with_reducible exact rc_sum (by assumption) | with_reducible exact rc_abs | with_reducible exact isi_listL (by assumption) | with_reducible exact isi_intI | with_reducible exact isi_boolI | with_reducible exact rc_lenT (by assumption) | with_reducible exact isi_tup (by assumption) | with_reducible exact rv_eqL (by assumption) (by assumption) | with_reducible exact rv_neL (by assumption) (by assumption) | with_reducible exact rv_neT (by assumption) (by assumption) | with_reducible exact rv_ixL (by assumption) (by assumption) | with_reducible exact rv_ixT (by assumption) (by assumption) | with_reducible refine' ev_din ?_ ?_ (by assumption) | with_reducible refine' ev_dnotin ?_ ?_ (by assumption) | with_reducible refine' ev_dget ?_ ?_ (by assumption) (by assumption) | ((with_reducible show SpV _ _ _ _); assumption) | ((with_reducible show RV _ _ _ _ _); assumption) | ((with_reducible show RC _ _ _ _); assumption) | ((with_reducible show CDiv _ _); exact ⟨by omega, by omega⟩) | ((with_reducible show CMul _ _); first | exact .inl ⟨by omega, by omega⟩ | exact .inr ⟨by omega, by omega⟩) | ((with_reducible show CPow _ _); exact ⟨by omega, by omega, by first | decide | assumption | omega⟩) | ((with_reducible show (0 : Int) < _); omega) | ((with_reducible show (0 : Int) ≤ _); omega) | ((with_reducible show scal _ _ = true); rfl)))) fun H4 e4 => q H4 (e2.trans e4)

end TB

/-! ### the law k16 -/
namespace TB
open PySem PySem.Spec PyProof.Rows L2 Evl SX
def sp_row_by (K : PySem.W.Frag) : Sp := fun vs H Q E => ∃ (a : Addr) (cs : List Int), vs = [.ref a] ∧ SqL K H a (cs.map V.int) ∧ ∀ ns : List Int, RowI ns → RetL (ns.map V.int) H Q
theorem sc__law_row_by : FnScope ["_law_script", "_law_row", "_law_k", "_law_far"] ["_law_script"] (defScope s__law_row_by) := ⟨rfl, rfl, rfl, by decide +kernel, rfl, by decide +kernel, by decide +kernel⟩
theorem ok__law_row_by {P : Program} {w : World} {K : PySem.W.Frag} {mg : Str → Option Value} {base : Heap} (T : TXT K mg) : OK P w K mg base "_law_row_by" ["_law_script"] 2 (sp_row_by K) := by
  have O__law_cell_at := ok__law_cell_at (P := P) (w := w) (base := base) T
  have O__law_mixed := ok__law_mixed (P := P) (w := w) (base := base) T
  obtain ⟨fd, F⟩ := T.def_ 12
  refine ⟨_, fd, T.glo 11, F.kp, F.bindsN (fun _ _ _ _ _ _ us hl => match us, hl with | [_], _ => rfl), F.ok sc__law_row_by (fun vs H Q E h => ?_) (fun cdv A outer s H vs Q E hr h => ?_), F.bindsA (fun _ _ _ _ _ _ us hl => match us, hl with | [_], _ => rfl)⟩
  · first | (obtain ⟨rfl, _⟩ := h; rfl) | (obtain ⟨_, rfl, _⟩ := h; rfl) | (obtain ⟨_, _, rfl, _⟩ := h; rfl) | (obtain ⟨_, _, _, rfl, _⟩ := h; rfl) | (obtain ⟨_, _, _, _, rfl, _⟩ := h; rfl) | (obtain ⟨_, _, _, _, _, rfl, _⟩ := h; rfl) | (obtain ⟨_, _, _, _, _, _, rfl, _⟩ := h; rfl) | (obtain ⟨_, _, _, _, _, _, _, rfl, _⟩ := h; rfl) | (obtain ⟨_, _, _, _, _, _, _, _, rfl, _⟩ := h; rfl)
  · replace F : FunD K "_law_row_by" "_law_row_by" (defArgs s__law_row_by) (defBody s__law_row_by) (defScope s__law_row_by) [] [] (He.ga K "_law_row_by") fd := F
    refine ⟨_, (pss_cons (ps_set (i := 1) sc__law_row_by.nd rfl (Or.inl rfl) (pe_lst pa_nil))
      (pss_cons (ps_for (passes_of rfl) rfl (pi_range1 (by rfl) (T.free 35) (pa_cons (pe_op op_add pe_int (pe_op op_mod (pe_own O__law_cell_at (hr.mono (by decide)) (by rfl) (passes_call (takes_of rfl rfl rfl rfl) (fun _ _ _ _ h => h)) (pa_cons (pv 0) (pa_cons pe_int pa_nil))) pe_int)) pa_nil)) (pg_name (i := 2) sc__law_row_by.nd rfl (Or.inl rfl))
        (pss_cons (ps_set (i := 3) sc__law_row_by.nd rfl (Or.inl rfl) (pe_own O__law_mixed (hr.mono (by decide)) (by rfl) (passes_call (takes_of rfl rfl rfl rfl) (fun _ _ _ _ h => h)) (pa_cons (pe_own O__law_cell_at (hr.mono (by decide)) (by rfl) (passes_call (takes_of rfl rfl rfl rfl) (fun _ _ _ _ h => h)) (pa_cons (pv 0) (pa_cons pe_int pa_nil))) (pa_cons (pv 2) pa_nil))))
      (pss_one (ps_if (pt_cmpR op_eq (pe_op op_mod (pv 3) pe_int) pe_int (nomark _))
        (pss_one (ps_expr (pe_bm PySem.F.plainAttrs_list PySem.F.slot_list_append PySem.F.type_list_append mt_append (pv 1) (pa_cons (pe_op op_sub (pe_op op_mod (pe_op op_fdiv (pv 3) pe_int) pe_int) pe_int) pa_nil))))
        (pss_one (ps_expr (pe_bm PySem.F.plainAttrs_list PySem.F.slot_list_append PySem.F.type_list_append mt_append (pv 1) (pa_cons (pe_op op_sub (pe_op op_mod (pe_op op_fdiv (pv 3) pe_int) pe_int) pe_int) pa_nil))))))))
      (pss_one (ps_ret (pv 1))))), ?_⟩
    obtain ⟨a, cs, rfl, hs, q⟩ := h
    dsimp only [cxOf, L2.start, List.map_cons, List.map_nil, List.length_cons, List.length_nil, Nat.reduceAdd, Nat.reduceSub, List.replicate_succ, List.replicate_zero, List.cons_append, List.nil_append, Nat.zero_add, List.reduceReplicate, List.map]
    have c0 := sv_cell (k := 0) hs
    refine q_asgL (xs := []) (el_lst ea_nil (by decide)) fun l H1 hl e1 h1 => ?_
    have c01 := sv_cell (k := 0) (ex_l e1 hs)
    refine q_forR1 (n := 1 + cs.getD 0 0 % 60) (by (repeat' (first | with_reducible exact ev_c | ((with_reducible show Ev (tVar _) _ _ _); exact ev_var rfl) | with_reducible exact ea_nil | with_reducible exact eo_none | with_reducible refine' ea_cons ?_ ?_ | with_reducible refine' eo_some ?_ | with_reducible refine' ev_and2 ?_ ?_ | with_reducible refine' ev_or2 ?_ ?_ | with_reducible refine' ev_notV ?_ | with_reducible exact ru_I | with_reducible refine' ev_un ?_ ?_ | with_reducible exact rv_I0 | with_reducible exact rv_isN | with_reducible exact rv_notN | with_reducible refine' rv_I ?_ | with_reducible refine' rv_eq ?_ | with_reducible refine' rv_ne ?_ | with_reducible refine' ev_op ?_ ?_ ?_ | with_reducible refine' ev_chain2 ?_ ?_ ?_ ?_ ?_ | with_reducible refine' et_B ?_ | with_reducible refine' et_test ?_ | with_reducible refine' et_and2 ?_ ?_ | with_reducible refine' et_or2 ?_ ?_ | with_reducible refine' et_not ?_ | with_reducible refine' ev_call ?_ ?_ | with_reducible refine' ev_callS ?_ ?_ | with_reducible refine' ev_cb ?_ ?_ | with_reducible exact isi_bool (by assumption) | with_reducible exact isi_int (by assumption) | with_reducible exact isi_list (by assumption) | with_reducible exact rc_len (by assumption) | with_reducible exact rc_sum (by assumption) | with_reducible exact rc_abs | with_reducible exact isi_listL (by assumption) | with_reducible exact isi_intI | with_reducible exact isi_boolI | with_reducible exact rc_lenT (by assumption) | with_reducible exact isi_tup (by assumption) | with_reducible exact rv_eqL (by assumption) (by assumption) | with_reducible exact rv_neL (by assumption) (by assumption) | with_reducible exact rv_neT (by assumption) (by assumption) | with_reducible exact rv_ixL (by assumption) (by assumption) | with_reducible exact rv_ixT (by assumption) (by assumption) | with_reducible refine' ev_din ?_ ?_ (by assumption) | with_reducible refine' ev_dnotin ?_ ?_ (by assumption) | with_reducible refine' ev_dget ?_ ?_ (by assumption) (by assumption) | ((with_reducible show SpV _ _ _ _); assumption) | ((with_reducible show RV _ _ _ _ _); assumption) | ((with_reducible show RC _ _ _ _); assumption) | ((with_reducible show CDiv _ _); exact ⟨by omega, by omega⟩) | ((with_reducible show CMul _ _); first | exact .inl ⟨by omega, by omega⟩ | exact .inr ⟨by omega, by omega⟩) | ((with_reducible show CPow _ _); exact ⟨by omega, by omega, by first | decide | assumption | omega⟩) | ((with_reducible show (0 : Int) < _); omega) | ((with_reducible show (0 : Int) ≤ _); omega) | ((with_reducible show scal _ _ = true); rfl)))) (by omega) (fun i σ' H' => ∃ (y3 y4 : Option V) (ns : List Int), σ' = [some (V.ref a), some (V.ref l), y3, y4] ∧ Ex H H' ∧ H' l = some (.lst (ns.map V.int)) ∧ ns.length = i ∧ ∀ x ∈ ns, -1000000 ≤ x ∧ x ≤ 1000000) (fun H2 e2 => ⟨_, _, [], rfl, e1.trans e2, e2 _ _ h1, rfl, fun x hx => nomatch hx⟩) ?_ ?_
    · rintro i σ' H2 hi ⟨y3, y4, ns, rfl, e2, h2, hn, hb⟩
      have c1 := sv_cell (k := 1) (ex_l e2 hs)
      have sm := sv_mixed (H := H2) (c := cs.getD 1 0) (k := (i : Int))
      refine q_asg (v := .int (mixed (cs.getD 1 0) (i : Int))) (by (repeat' (first | with_reducible exact ev_c | ((with_reducible show Ev (tVar _) _ _ _); exact ev_var rfl) | with_reducible exact ea_nil | with_reducible exact eo_none | with_reducible refine' ea_cons ?_ ?_ | with_reducible refine' eo_some ?_ | with_reducible refine' ev_and2 ?_ ?_ | with_reducible refine' ev_or2 ?_ ?_ | with_reducible refine' ev_notV ?_ | with_reducible exact ru_I | with_reducible refine' ev_un ?_ ?_ | with_reducible exact rv_I0 | with_reducible exact rv_isN | with_reducible exact rv_notN | with_reducible refine' rv_I ?_ | with_reducible refine' rv_eq ?_ | with_reducible refine' rv_ne ?_ | with_reducible refine' ev_op ?_ ?_ ?_ | with_reducible refine' ev_chain2 ?_ ?_ ?_ ?_ ?_ | with_reducible refine' et_B ?_ | with_reducible refine' et_test ?_ | with_reducible refine' et_and2 ?_ ?_ | with_reducible refine' et_or2 ?_ ?_ | with_reducible refine' et_not ?_ | with_reducible refine' ev_call ?_ ?_ | with_reducible refine' ev_callS ?_ ?_ | with_reducible refine' ev_cb ?_ ?_ | with_reducible exact isi_bool (by assumption) | with_reducible exact isi_int (by assumption) | with_reducible exact isi_list (by assumption) | with_reducible exact rc_len (by assumption) | with_reducible exact rc_sum (by assumption) | with_reducible exact rc_abs | with_reducible exact isi_listL (by assumption) | with_reducible exact isi_intI | with_reducible exact isi_boolI | with_reducible exact rc_lenT (by assumption) | with_reducible exact isi_tup (by assumption) | with_reducible exact rv_eqL (by assumption) (by assumption) | with_reducible exact rv_neL (by assumption) (by assumption) | with_reducible exact rv_neT (by assumption) (by assumption) | with_reducible exact rv_ixL (by assumption) (by assumption) | with_reducible exact rv_ixT (by assumption) (by assumption) | with_reducible refine' ev_din ?_ ?_ (by assumption) | with_reducible refine' ev_dnotin ?_ ?_ (by assumption) | with_reducible refine' ev_dget ?_ ?_ (by assumption) (by assumption) | ((with_reducible show SpV _ _ _ _); assumption) | ((with_reducible show RV _ _ _ _ _); assumption) | ((with_reducible show RC _ _ _ _); assumption) | ((with_reducible show CDiv _ _); exact ⟨by omega, by omega⟩) | ((with_reducible show CMul _ _); first | exact .inl ⟨by omega, by omega⟩ | exact .inr ⟨by omega, by omega⟩) | ((with_reducible show CPow _ _); exact ⟨by omega, by omega, by first | decide | assumption | omega⟩) | ((with_reducible show (0 : Int) < _); omega) | ((with_reducible show (0 : Int) ≤ _); omega) | ((with_reducible show scal _ _ = true); rfl)))) fun H3 e3 => ?_
      generalize mixed (cs.getD 1 0) (i : Int) = f at *
      have h3 := e3 _ _ h2
      have hlH : H l = none := hl
      show tIfS _ _ _ _ _ _
      refine s_if (b := decide (V.int (f % 4) = V.int 0)) (by (repeat' (first | with_reducible exact ev_c | ((with_reducible show Ev (tVar _) _ _ _); exact ev_var rfl) | with_reducible exact ea_nil | with_reducible exact eo_none | with_reducible refine' ea_cons ?_ ?_ | with_reducible refine' eo_some ?_ | with_reducible refine' ev_and2 ?_ ?_ | with_reducible refine' ev_or2 ?_ ?_ | with_reducible refine' ev_notV ?_ | with_reducible exact ru_I | with_reducible refine' ev_un ?_ ?_ | with_reducible exact rv_I0 | with_reducible exact rv_isN | with_reducible exact rv_notN | with_reducible refine' rv_I ?_ | with_reducible refine' rv_eq ?_ | with_reducible refine' rv_ne ?_ | with_reducible refine' ev_op ?_ ?_ ?_ | with_reducible refine' ev_chain2 ?_ ?_ ?_ ?_ ?_ | with_reducible refine' et_B ?_ | with_reducible refine' et_test ?_ | with_reducible refine' et_and2 ?_ ?_ | with_reducible refine' et_or2 ?_ ?_ | with_reducible refine' et_not ?_ | with_reducible refine' ev_call ?_ ?_ | with_reducible refine' ev_callS ?_ ?_ | with_reducible refine' ev_cb ?_ ?_ | with_reducible exact isi_bool (by assumption) | with_reducible exact isi_int (by assumption) | with_reducible exact isi_list (by assumption) | with_reducible exact rc_len (by assumption) | with_reducible exact rc_sum (by assumption) | with_reducible exact rc_abs | with_reducible exact isi_listL (by assumption) | with_reducible exact isi_intI | with_reducible exact isi_boolI | with_reducible exact rc_lenT (by assumption) | with_reducible exact isi_tup (by assumption) | with_reducible exact rv_eqL (by assumption) (by assumption) | with_reducible exact rv_neL (by assumption) (by assumption) | with_reducible exact rv_neT (by assumption) (by assumption) | with_reducible exact rv_ixL (by assumption) (by assumption) | with_reducible exact rv_ixT (by assumption) (by assumption) | with_reducible refine' ev_din ?_ ?_ (by assumption) | with_reducible refine' ev_dnotin ?_ ?_ (by assumption) | with_reducible refine' ev_dget ?_ ?_ (by assumption) (by assumption) | ((with_reducible show SpV _ _ _ _); assumption) | ((with_reducible show RV _ _ _ _ _); assumption) | ((with_reducible show RC _ _ _ _); assumption) | ((with_reducible show CDiv _ _); exact ⟨by omega, by omega⟩) | ((with_reducible show CMul _ _); first | exact .inl ⟨by omega, by omega⟩ | exact .inr ⟨by omega, by omega⟩) | ((with_reducible show CPow _ _); exact ⟨by omega, by omega, by first | decide | assumption | omega⟩) | ((with_reducible show (0 : Int) < _); omega) | ((with_reducible show (0 : Int) ≤ _); omega) | ((with_reducible show scal _ _ = true); rfl)))) (fun _ H4 e4 => ?_) (fun _ H4 e4 => ?_)
      · refine s_app (xs := ns.map V.int) (v := .int (f / 4 % 2000001 - 1000000)) (e4 _ _ h3) (by (repeat' (first | with_reducible exact ev_c | ((with_reducible show Ev (tVar _) _ _ _); exact ev_var rfl) | with_reducible exact ea_nil | with_reducible exact eo_none | with_reducible refine' ea_cons ?_ ?_ | with_reducible refine' eo_some ?_ | with_reducible refine' ev_and2 ?_ ?_ | with_reducible refine' ev_or2 ?_ ?_ | with_reducible refine' ev_notV ?_ | with_reducible exact ru_I | with_reducible refine' ev_un ?_ ?_ | with_reducible exact rv_I0 | with_reducible exact rv_isN | with_reducible exact rv_notN | with_reducible refine' rv_I ?_ | with_reducible refine' rv_eq ?_ | with_reducible refine' rv_ne ?_ | with_reducible refine' ev_op ?_ ?_ ?_ | with_reducible refine' ev_chain2 ?_ ?_ ?_ ?_ ?_ | with_reducible refine' et_B ?_ | with_reducible refine' et_test ?_ | with_reducible refine' et_and2 ?_ ?_ | with_reducible refine' et_or2 ?_ ?_ | with_reducible refine' et_not ?_ | with_reducible refine' ev_call ?_ ?_ | with_reducible refine' ev_callS ?_ ?_ | with_reducible refine' ev_cb ?_ ?_ | with_reducible exact isi_bool (by assumption) | with_reducible exact isi_int (by assumption) | with_reducible exact isi_list (by assumption) | with_reducible exact rc_len (by assumption) | with_reducible exact rc_sum (by assumption) | with_reducible exact rc_abs | with_reducible exact isi_listL (by assumption) | with_reducible exact isi_intI | with_reducible exact isi_boolI | with_reducible exact rc_lenT (by assumption) | with_reducible exact isi_tup (by assumption) | with_reducible exact rv_eqL (by assumption) (by assumption) | with_reducible exact rv_neL (by assumption) (by assumption) | with_reducible exact rv_neT (by assumption) (by assumption) | with_reducible exact rv_ixL (by assumption) (by assumption) | with_reducible exact rv_ixT (by assumption) (by assumption) | with_reducible refine' ev_din ?_ ?_ (by assumption) | with_reducible refine' ev_dnotin ?_ ?_ (by assumption) | with_reducible refine' ev_dget ?_ ?_ (by assumption) (by assumption) | ((with_reducible show SpV _ _ _ _); assumption) | ((with_reducible show RV _ _ _ _ _); assumption) | ((with_reducible show RC _ _ _ _); assumption) | ((with_reducible show CDiv _ _); exact ⟨by omega, by omega⟩) | ((with_reducible show CMul _ _); first | exact .inl ⟨by omega, by omega⟩ | exact .inr ⟨by omega, by omega⟩) | ((with_reducible show CPow _ _); exact ⟨by omega, by omega, by first | decide | assumption | omega⟩) | ((with_reducible show (0 : Int) < _); omega) | ((with_reducible show (0 : Int) ≤ _); omega) | ((with_reducible show scal _ _ = true); rfl)))) (by (repeat' (first | with_reducible exact ev_c | ((with_reducible show Ev (tVar _) _ _ _); exact ev_var rfl) | with_reducible exact ea_nil | with_reducible exact eo_none | with_reducible refine' ea_cons ?_ ?_ | with_reducible refine' eo_some ?_ | with_reducible refine' ev_and2 ?_ ?_ | with_reducible refine' ev_or2 ?_ ?_ | with_reducible refine' ev_notV ?_ | with_reducible exact ru_I | with_reducible refine' ev_un ?_ ?_ | with_reducible exact rv_I0 | with_reducible exact rv_isN | with_reducible exact rv_notN | with_reducible refine' rv_I ?_ | with_reducible refine' rv_eq ?_ | with_reducible refine' rv_ne ?_ | with_reducible refine' ev_op ?_ ?_ ?_ | with_reducible refine' ev_chain2 ?_ ?_ ?_ ?_ ?_ | with_reducible refine' et_B ?_ | with_reducible refine' et_test ?_ | with_reducible refine' et_and2 ?_ ?_ | with_reducible refine' et_or2 ?_ ?_ | with_reducible refine' et_not ?_ | with_reducible refine' ev_call ?_ ?_ | with_reducible refine' ev_callS ?_ ?_ | with_reducible refine' ev_cb ?_ ?_ | with_reducible exact isi_bool (by assumption) | with_reducible exact isi_int (by assumption) | with_reducible exact isi_list (by assumption) | with_reducible exact rc_len (by assumption) | with_reducible exact rc_sum (by assumption) | with_reducible exact rc_abs | with_reducible exact isi_listL (by assumption) | with_reducible exact isi_intI | with_reducible exact isi_boolI | with_reducible exact rc_lenT (by assumption) | with_reducible exact isi_tup (by assumption) | with_reducible exact rv_eqL (by assumption) (by assumption) | with_reducible exact rv_neL (by assumption) (by assumption) | with_reducible exact rv_neT (by assumption) (by assumption) | with_reducible exact rv_ixL (by assumption) (by assumption) | with_reducible exact rv_ixT (by assumption) (by assumption) | with_reducible refine' ev_din ?_ ?_ (by assumption) | with_reducible refine' ev_dnotin ?_ ?_ (by assumption) | with_reducible refine' ev_dget ?_ ?_ (by assumption) (by assumption) | ((with_reducible show SpV _ _ _ _); assumption) | ((with_reducible show RV _ _ _ _ _); assumption) | ((with_reducible show RC _ _ _ _); assumption) | ((with_reducible show CDiv _ _); exact ⟨by omega, by omega⟩) | ((with_reducible show CMul _ _); first | exact .inl ⟨by omega, by omega⟩ | exact .inr ⟨by omega, by omega⟩) | ((with_reducible show CPow _ _); exact ⟨by omega, by omega, by first | decide | assumption | omega⟩) | ((with_reducible show (0 : Int) < _); omega) | ((with_reducible show (0 : Int) ≤ _); omega) | ((with_reducible show scal _ _ = true); rfl)))) (by rw [List.length_map]; omega) fun H5 e5 => ⟨_, _, ns ++ [f / 4 % 2000001 - 1000000], rfl, Ex.mut (((e2.trans e3).trans e4).trans e5) hlH, ?_, by rw [List.length_append, hn]; rfl, fun x hx => ?_⟩
        · rw [upd_same, List.map_append]
          rfl
        · rcases List.mem_append.mp hx with m | m
          · exact hb x m
          · rw [List.mem_singleton.mp m]
            omega
      · refine s_app (xs := ns.map V.int) (v := .int (f / 4 % 50 - 9)) (e4 _ _ h3) (by (repeat' (first | with_reducible exact ev_c | ((with_reducible show Ev (tVar _) _ _ _); exact ev_var rfl) | with_reducible exact ea_nil | with_reducible exact eo_none | with_reducible refine' ea_cons ?_ ?_ | with_reducible refine' eo_some ?_ | with_reducible refine' ev_and2 ?_ ?_ | with_reducible refine' ev_or2 ?_ ?_ | with_reducible refine' ev_notV ?_ | with_reducible exact ru_I | with_reducible refine' ev_un ?_ ?_ | with_reducible exact rv_I0 | with_reducible exact rv_isN | with_reducible exact rv_notN | with_reducible refine' rv_I ?_ | with_reducible refine' rv_eq ?_ | with_reducible refine' rv_ne ?_ | with_reducible refine' ev_op ?_ ?_ ?_ | with_reducible refine' ev_chain2 ?_ ?_ ?_ ?_ ?_ | with_reducible refine' et_B ?_ | with_reducible refine' et_test ?_ | with_reducible refine' et_and2 ?_ ?_ | with_reducible refine' et_or2 ?_ ?_ | with_reducible refine' et_not ?_ | with_reducible refine' ev_call ?_ ?_ | with_reducible refine' ev_callS ?_ ?_ | with_reducible refine' ev_cb ?_ ?_ | with_reducible exact isi_bool (by assumption) | with_reducible exact isi_int (by assumption) | with_reducible exact isi_list (by assumption) | with_reducible exact rc_len (by assumption) | with_reducible exact rc_sum (by assumption) | with_reducible exact rc_abs | with_reducible exact isi_listL (by assumption) | with_reducible exact isi_intI | with_reducible exact isi_boolI | with_reducible exact rc_lenT (by assumption) | with_reducible exact isi_tup (by assumption) | with_reducible exact rv_eqL (by assumption) (by assumption) | with_reducible exact rv_neL (by assumption) (by assumption) | with_reducible exact rv_neT (by assumption) (by assumption) | with_reducible exact rv_ixL (by assumption) (by assumption) | with_reducible exact rv_ixT (by assumption) (by assumption) | with_reducible refine' ev_din ?_ ?_ (by assumption) | with_reducible refine' ev_dnotin ?_ ?_ (by assumption) | with_reducible refine' ev_dget ?_ ?_ (by assumption) (by assumption) | ((with_reducible show SpV _ _ _ _); assumption) | ((with_reducible show RV _ _ _ _ _); assumption) | ((with_reducible show RC _ _ _ _); assumption) | ((with_reducible show CDiv _ _); exact ⟨by omega, by omega⟩) | ((with_reducible show CMul _ _); first | exact .inl ⟨by omega, by omega⟩ | exact .inr ⟨by omega, by omega⟩) | ((with_reducible show CPow _ _); exact ⟨by omega, by omega, by first | decide | assumption | omega⟩) | ((with_reducible show (0 : Int) < _); omega) | ((with_reducible show (0 : Int) ≤ _); omega) | ((with_reducible show scal _ _ = true); rfl)))) (by (repeat' (first | with_reducible exact ev_c | ((with_reducible show Ev (tVar _) _ _ _); exact ev_var rfl) | with_reducible exact ea_nil | with_reducible exact eo_none | with_reducible refine' ea_cons ?_ ?_ | with_reducible refine' eo_some ?_ | with_reducible refine' ev_and2 ?_ ?_ | with_reducible refine' ev_or2 ?_ ?_ | with_reducible refine' ev_notV ?_ | with_reducible exact ru_I | with_reducible refine' ev_un ?_ ?_ | with_reducible exact rv_I0 | with_reducible exact rv_isN | with_reducible exact rv_notN | with_reducible refine' rv_I ?_ | with_reducible refine' rv_eq ?_ | with_reducible refine' rv_ne ?_ | with_reducible refine' ev_op ?_ ?_ ?_ | with_reducible refine' ev_chain2 ?_ ?_ ?_ ?_ ?_ | with_reducible refine' et_B ?_ | with_reducible refine' et_test ?_ | with_reducible refine' et_and2 ?_ ?_ | with_reducible refine' et_or2 ?_ ?_ | with_reducible refine' et_not ?_ | with_reducible refine' ev_call ?_ ?_ | with_reducible refine' ev_callS ?_ ?_ | with_reducible refine' ev_cb ?_ ?_ | with_reducible exact isi_bool (by assumption) | with_reducible exact isi_int (by assumption) | with_reducible exact isi_list (by assumption) | with_reducible exact rc_len (by assumption) | with_reducible exact rc_sum (by assumption) | with_reducible exact rc_abs | with_reducible exact isi_listL (by assumption) | with_reducible exact isi_intI | with_reducible exact isi_boolI | with_reducible exact rc_lenT (by assumption) | with_reducible exact isi_tup (by assumption) | with_reducible exact rv_eqL (by assumption) (by assumption) | with_reducible exact rv_neL (by assumption) (by assumption) | with_reducible exact rv_neT (by assumption) (by assumption) | with_reducible exact rv_ixL (by assumption) (by assumption) | with_reducible exact rv_ixT (by assumption) (by assumption) | with_reducible refine' ev_din ?_ ?_ (by assumption) | with_reducible refine' ev_dnotin ?_ ?_ (by assumption) | with_reducible refine' ev_dget ?_ ?_ (by assumption) (by assumption) | ((with_reducible show SpV _ _ _ _); assumption) | ((with_reducible show RV _ _ _ _ _); assumption) | ((with_reducible show RC _ _ _ _); assumption) | ((with_reducible show CDiv _ _); exact ⟨by omega, by omega⟩) | ((with_reducible show CMul _ _); first | exact .inl ⟨by omega, by omega⟩ | exact .inr ⟨by omega, by omega⟩) | ((with_reducible show CPow _ _); exact ⟨by omega, by omega, by first | decide | assumption | omega⟩) | ((with_reducible show (0 : Int) < _); omega) | ((with_reducible show (0 : Int) ≤ _); omega) | ((with_reducible show scal _ _ = true); rfl)))) (by rw [List.length_map]; omega) fun H5 e5 => ⟨_, _, ns ++ [f / 4 % 50 - 9], rfl, Ex.mut (((e2.trans e3).trans e4).trans e5) hlH, ?_, by rw [List.length_append, hn]; rfl, fun x hx => ?_⟩
        · rw [upd_same, List.map_append]
          rfl
        · rcases List.mem_append.mp hx with m | m
          · exact hb x m
          · rw [List.mem_singleton.mp m]
            omega
    · rintro σ' H2 ⟨y3, y4, ns, rfl, e2, h2, hn, hb⟩
      exact s_ret (v := .ref l) (by (repeat' (first | with_reducible exact ev_c | ((with_reducible show Ev (tVar _) _ _ _); exact ev_var rfl) | with_reducible exact ea_nil | with_reducible exact eo_none | with_reducible refine' ea_cons ?_ ?_ | with_reducible refine' eo_some ?_ | with_reducible refine' ev_and2 ?_ ?_ | with_reducible refine' ev_or2 ?_ ?_ | with_reducible refine' ev_notV ?_ | with_reducible exact ru_I | with_reducible refine' ev_un ?_ ?_ | with_reducible exact rv_I0 | with_reducible exact rv_isN | with_reducible exact rv_notN | with_reducible refine' rv_I ?_ | with_reducible refine' rv_eq ?_ | with_reducible refine' rv_ne ?_ | with_reducible refine' ev_op ?_ ?_ ?_ | with_reducible refine' ev_chain2 ?_ ?_ ?_ ?_ ?_ | with_reducible refine' et_B ?_ | with_reducible refine' et_test ?_ | with_reducible refine' et_and2 ?_ ?_ | with_reducible refine' et_or2 ?_ ?_ | with_reducible refine' et_not ?_ | with_reducible refine' ev_call ?_ ?_ | with_reducible refine' ev_callS ?_ ?_ | with_reducible refine' ev_cb ?_ ?_ | with_reducible exact isi_bool (by assumption) | with_reducible exact isi_int (by assumption) | with_reducible exact isi_list (by assumption) | with_reducible exact rc_len (by assumption) | with_reducible exact rc_sum (by assumption) | with_reducible exact rc_abs | with_reducible exact isi_listL (by assumption) | with_reducible exact isi_intI | with_reducible exact isi_boolI | with_reducible exact rc_lenT (by assumption) | with_reducible exact isi_tup (by assumption) | with_reducible exact rv_eqL (by assumption) (by assumption) | with_reducible exact rv_neL (by assumption) (by assumption) | with_reducible exact rv_neT (by assumption) (by assumption) | with_reducible exact rv_ixL (by assumption) (by assumption) | with_reducible exact rv_ixT (by assumption) (by assumption) | with_reducible refine' ev_din ?_ ?_ (by assumption) | with_reducible refine' ev_dnotin ?_ ?_ (by assumption) | with_reducible refine' ev_dget ?_ ?_ (by assumption) (by assumption) | ((with_reducible show SpV _ _ _ _); assumption) | ((with_reducible show RV _ _ _ _ _); assumption) | ((with_reducible show RC _ _ _ _); assumption) | ((with_reducible show CDiv _ _); exact ⟨by omega, by omega⟩) | ((with_reducible show CMul _ _); first | exact .inl ⟨by omega, by omega⟩ | exact .inr ⟨by omega, by omega⟩) | ((with_reducible show CPow _ _); exact ⟨by omega, by omega, by first | decide | assumption | omega⟩) | ((with_reducible show (0 : Int) < _); omega) | ((with_reducible show (0 : Int) ≤ _); omega) | ((with_reducible show scal _ _ = true); rfl)))) fun H3 e3 => q ns ⟨by omega, by omega, hb⟩ l H3 hl (e2.trans e3) (e3 _ _ h2)

theorem el_catVN {σ : L2.St} {H : Hp} {t1 t2 : TE} {a : Addr} {xs ys : List V} (h1 : Ev t1 σ H (.ref a)) (h2 : EvL t2 σ H ys) (ha : H a = some (.lst xs)) (hl : xs.length + ys.length ≤ 100000) : EvL (tOp rCat t1 t2) σ H (xs ++ ys) := fun H1 e Q q =>
  h1 H1 e _ fun H2 e2 => h2 H2 (e.trans e2) _ fun b H3 _ e3 g3 => ⟨a, b, xs, ys, rfl, rfl, ((e.trans e2).trans e3) _ _ ha, g3, sz_of hl, fun u hu => q u _ (fresh_back (e2.trans e3) hu) ((e2.trans e3).trans (Ex.new hu)) upd_same⟩
def sp_text_of (K : PySem.W.Frag) : Sp := fun vs H Q E => ∃ (a : Addr) (ns : List Int), vs = [.ref a] ∧ SqL K H a (ns.map V.int) ∧ RowI ns ∧ RetV (.str (S (textOf ns))) H Q
theorem sc__law_text_of : FnScope ["_law_row", "_law_text", "_law_one"] ["_law_row"] (defScope s__law_text_of) := ⟨rfl, rfl, rfl, by decide +kernel, rfl, by decide +kernel, by decide +kernel⟩
theorem ok__law_text_of {P : Program} {w : World} {K : PySem.W.Frag} {mg : Str → Option Value} {base : Heap} (T : TXT K mg) : OK P w K mg base "_law_text_of" ["_law_row"] 1 (sp_text_of K) := by
  obtain ⟨fd, F⟩ := T.def_ 13
  refine ⟨_, fd, T.glo 12, F.kp, F.bindsN (fun _ _ _ _ _ _ us hl => match us, hl with | [_], _ => rfl), F.ok sc__law_text_of (fun vs H Q E h => ?_) (fun cdv A outer s H vs Q E hr h => ?_), F.bindsA (fun _ _ _ _ _ _ us hl => match us, hl with | [_], _ => rfl)⟩
  · first | (obtain ⟨rfl, _⟩ := h; rfl) | (obtain ⟨_, rfl, _⟩ := h; rfl) | (obtain ⟨_, _, rfl, _⟩ := h; rfl) | (obtain ⟨_, _, _, rfl, _⟩ := h; rfl) | (obtain ⟨_, _, _, _, rfl, _⟩ := h; rfl) | (obtain ⟨_, _, _, _, _, rfl, _⟩ := h; rfl) | (obtain ⟨_, _, _, _, _, _, rfl, _⟩ := h; rfl) | (obtain ⟨_, _, _, _, _, _, _, rfl, _⟩ := h; rfl) | (obtain ⟨_, _, _, _, _, _, _, _, rfl, _⟩ := h; rfl)
  · replace F : FunD K "_law_text_of" "_law_text_of" (defArgs s__law_text_of) (defBody s__law_text_of) (defScope s__law_text_of) [] [] (He.ga K "_law_text_of") fd := F
    refine ⟨_, (pss_cons (ps_set (i := 1) sc__law_text_of.nd rfl (Or.inl rfl) pe_str)
      (pss_cons (ps_for (passes_of rfl) rfl (k_piL K (pv 0)) (pg_name (i := 2) sc__law_text_of.nd rfl (Or.inl rfl))
        (pss_one (ps_if (pt_chain op_le op_le pe_int (pv 2) pe_int)
        (pss_one (ps_set (i := 1) sc__law_text_of.nd rfl (Or.inl rfl) (pe_op op_add_str (pv 1) (pe_ix ix_str pe_str (pv 2) (fun _ _ => rfl)))))
        (pss_one (ps_set (i := 1) sc__law_text_of.nd rfl (Or.inl rfl) (pe_op op_add_str (pe_op op_add_str (pe_op op_add_str (pv 1) pe_str) (pe_callTy (T := "str") call_str_int (by rfl) (T.free 36) (by decide +kernel) (pa_cons (pv 2) pa_nil))) pe_str))))))
      (pss_one (ps_ret (pv 1))))), ?_⟩
    obtain ⟨a, ns, rfl, hs, hn, q⟩ := h
    dsimp only [cxOf, L2.start, List.map_cons, List.map_nil, List.length_cons, List.length_nil, Nat.reduceAdd, Nat.reduceSub, List.replicate_succ, List.replicate_zero, List.cons_append, List.nil_append, Nat.zero_add, List.reduceReplicate, List.map]
    rw [x_empty, x_open, x_close, signs_S]
    obtain ⟨n1, n2, h3⟩ := hn
    refine q_asg (v := .str (S [])) (by (repeat' (first | with_reducible exact ev_c | ((with_reducible show Ev (tVar _) _ _ _); exact ev_var rfl) | with_reducible exact ea_nil | with_reducible exact eo_none | with_reducible refine' ea_cons ?_ ?_ | with_reducible refine' eo_some ?_ | with_reducible refine' ev_and2 ?_ ?_ | with_reducible refine' ev_or2 ?_ ?_ | with_reducible refine' ev_notV ?_ | with_reducible exact ru_I | with_reducible refine' ev_un ?_ ?_ | with_reducible exact rv_I0 | with_reducible exact rv_isN | with_reducible exact rv_notN | with_reducible refine' rv_I ?_ | with_reducible refine' rv_eq ?_ | with_reducible refine' rv_ne ?_ | with_reducible refine' ev_op ?_ ?_ ?_ | with_reducible refine' ev_chain2 ?_ ?_ ?_ ?_ ?_ | with_reducible refine' et_B ?_ | with_reducible refine' et_test ?_ | with_reducible refine' et_and2 ?_ ?_ | with_reducible refine' et_or2 ?_ ?_ | with_reducible refine' et_not ?_ | with_reducible refine' ev_call ?_ ?_ | with_reducible refine' ev_callS ?_ ?_ | with_reducible refine' ev_cb ?_ ?_ | with_reducible exact isi_bool (by assumption) | with_reducible exact isi_int (by assumption) | with_reducible exact isi_list (by assumption) | with_reducible exact rc_len (by assumption) | with_reducible exact rc_sum (by assumption) | with_reducible exact rc_abs | with_reducible exact isi_listL (by assumption) | with_reducible exact isi_intI | with_reducible exact isi_boolI | with_reducible exact rc_lenT (by assumption) | with_reducible exact isi_tup (by assumption) | with_reducible exact rv_eqL (by assumption) (by assumption) | with_reducible exact rv_neL (by assumption) (by assumption) | with_reducible exact rv_neT (by assumption) (by assumption) | with_reducible exact rv_ixL (by assumption) (by assumption) | with_reducible exact rv_ixT (by assumption) (by assumption) | with_reducible refine' ev_din ?_ ?_ (by assumption) | with_reducible refine' ev_dnotin ?_ ?_ (by assumption) | with_reducible refine' ev_dget ?_ ?_ (by assumption) (by assumption) | ((with_reducible show SpV _ _ _ _); assumption) | ((with_reducible show RV _ _ _ _ _); assumption) | ((with_reducible show RC _ _ _ _); assumption) | ((with_reducible show CDiv _ _); exact ⟨by omega, by omega⟩) | ((with_reducible show CMul _ _); first | exact .inl ⟨by omega, by omega⟩ | exact .inr ⟨by omega, by omega⟩) | ((with_reducible show CPow _ _); exact ⟨by omega, by omega, by first | decide | assumption | omega⟩) | ((with_reducible show (0 : Int) < _); omega) | ((with_reducible show (0 : Int) ≤ _); omega) | ((with_reducible show scal _ _ = true); rfl)))) fun H2 e2 => ?_
    have tl : ∀ i, (textOf (ns.take i)).length ≤ 600 := fun i => by
      have a := (text_len (row := ns.take i) fun x hx => h3 x (List.mem_of_mem_take hx)).2
      rw [List.length_take] at a
      omega
    refine q_forL (a := a) (xs := ns.map V.int) (by (repeat' (first | with_reducible exact ev_c | ((with_reducible show Ev (tVar _) _ _ _); exact ev_var rfl) | with_reducible exact ea_nil | with_reducible exact eo_none | with_reducible refine' ea_cons ?_ ?_ | with_reducible refine' eo_some ?_ | with_reducible refine' ev_and2 ?_ ?_ | with_reducible refine' ev_or2 ?_ ?_ | with_reducible refine' ev_notV ?_ | with_reducible exact ru_I | with_reducible refine' ev_un ?_ ?_ | with_reducible exact rv_I0 | with_reducible exact rv_isN | with_reducible exact rv_notN | with_reducible refine' rv_I ?_ | with_reducible refine' rv_eq ?_ | with_reducible refine' rv_ne ?_ | with_reducible refine' ev_op ?_ ?_ ?_ | with_reducible refine' ev_chain2 ?_ ?_ ?_ ?_ ?_ | with_reducible refine' et_B ?_ | with_reducible refine' et_test ?_ | with_reducible refine' et_and2 ?_ ?_ | with_reducible refine' et_or2 ?_ ?_ | with_reducible refine' et_not ?_ | with_reducible refine' ev_call ?_ ?_ | with_reducible refine' ev_callS ?_ ?_ | with_reducible refine' ev_cb ?_ ?_ | with_reducible exact isi_bool (by assumption) | with_reducible exact isi_int (by assumption) | with_reducible exact isi_list (by assumption) | with_reducible exact rc_len (by assumption) | with_reducible exact rc_sum (by assumption) | with_reducible exact rc_abs | with_reducible exact isi_listL (by assumption) | with_reducible exact isi_intI | with_reducible exact isi_boolI | with_reducible exact rc_lenT (by assumption) | with_reducible exact isi_tup (by assumption) | with_reducible exact rv_eqL (by assumption) (by assumption) | with_reducible exact rv_neL (by assumption) (by assumption) | with_reducible exact rv_neT (by assumption) (by assumption) | with_reducible exact rv_ixL (by assumption) (by assumption) | with_reducible exact rv_ixT (by assumption) (by assumption) | with_reducible refine' ev_din ?_ ?_ (by assumption) | with_reducible refine' ev_dnotin ?_ ?_ (by assumption) | with_reducible refine' ev_dget ?_ ?_ (by assumption) (by assumption) | ((with_reducible show SpV _ _ _ _); assumption) | ((with_reducible show RV _ _ _ _ _); assumption) | ((with_reducible show RC _ _ _ _); assumption) | ((with_reducible show CDiv _ _); exact ⟨by omega, by omega⟩) | ((with_reducible show CMul _ _); first | exact .inl ⟨by omega, by omega⟩ | exact .inr ⟨by omega, by omega⟩) | ((with_reducible show CPow _ _); exact ⟨by omega, by omega, by first | decide | assumption | omega⟩) | ((with_reducible show (0 : Int) < _); omega) | ((with_reducible show (0 : Int) ≤ _); omega) | ((with_reducible show scal _ _ = true); rfl)))) (ex_l e2 hs) (fun i σ' H' => ∃ y2 : Option V, σ' = [some (V.ref a), some (V.str (S (textOf (ns.take i)))), y2] ∧ Ex H H') (fun H3 e3 => ⟨_, rfl, e2.trans e3⟩) (fun i σ' H3 _ h => by
      obtain ⟨_, _, h⟩ := h
      exact ex_l h hs) ?_ ?_
    · rintro i x σ' H3 hi ⟨y2, rfl, e3⟩
      rw [List.getElem?_map] at hi
      obtain ⟨n, hn, rfl⟩ := Option.map_eq_some_iff.mp hi
      have hil := (List.getElem?_eq_some_iff.mp hn).1
      have en : ns.getD i 0 = n := by rw [List.getD_eq_getElem?_getD, hn]; rfl
      have hb := h3 n (List.mem_of_getElem? hn)
      have tt := text_take hil
      rw [en] at tt
      have ti := tl i
      have ol := one_len hb.1 hb.2
      show tIfS _ _ _ _ _ _
      refine s_if (b := decide (0 ≤ n) && decide (n ≤ 35)) (by (repeat' (first | with_reducible exact ev_c | ((with_reducible show Ev (tVar _) _ _ _); exact ev_var rfl) | with_reducible exact ea_nil | with_reducible exact eo_none | with_reducible refine' ea_cons ?_ ?_ | with_reducible refine' eo_some ?_ | with_reducible refine' ev_and2 ?_ ?_ | with_reducible refine' ev_or2 ?_ ?_ | with_reducible refine' ev_notV ?_ | with_reducible exact ru_I | with_reducible refine' ev_un ?_ ?_ | with_reducible exact rv_I0 | with_reducible exact rv_isN | with_reducible exact rv_notN | with_reducible refine' rv_I ?_ | with_reducible refine' rv_eq ?_ | with_reducible refine' rv_ne ?_ | with_reducible refine' ev_op ?_ ?_ ?_ | with_reducible refine' ev_chain2 ?_ ?_ ?_ ?_ ?_ | with_reducible refine' et_B ?_ | with_reducible refine' et_test ?_ | with_reducible refine' et_and2 ?_ ?_ | with_reducible refine' et_or2 ?_ ?_ | with_reducible refine' et_not ?_ | with_reducible refine' ev_call ?_ ?_ | with_reducible refine' ev_callS ?_ ?_ | with_reducible refine' ev_cb ?_ ?_ | with_reducible exact isi_bool (by assumption) | with_reducible exact isi_int (by assumption) | with_reducible exact isi_list (by assumption) | with_reducible exact rc_len (by assumption) | with_reducible exact rc_sum (by assumption) | with_reducible exact rc_abs | with_reducible exact isi_listL (by assumption) | with_reducible exact isi_intI | with_reducible exact isi_boolI | with_reducible exact rc_lenT (by assumption) | with_reducible exact isi_tup (by assumption) | with_reducible exact rv_eqL (by assumption) (by assumption) | with_reducible exact rv_neL (by assumption) (by assumption) | with_reducible exact rv_neT (by assumption) (by assumption) | with_reducible exact rv_ixL (by assumption) (by assumption) | with_reducible exact rv_ixT (by assumption) (by assumption) | with_reducible refine' ev_din ?_ ?_ (by assumption) | with_reducible refine' ev_dnotin ?_ ?_ (by assumption) | with_reducible refine' ev_dget ?_ ?_ (by assumption) (by assumption) | ((with_reducible show SpV _ _ _ _); assumption) | ((with_reducible show RV _ _ _ _ _); assumption) | ((with_reducible show RC _ _ _ _); assumption) | ((with_reducible show CDiv _ _); exact ⟨by omega, by omega⟩) | ((with_reducible show CMul _ _); first | exact .inl ⟨by omega, by omega⟩ | exact .inr ⟨by omega, by omega⟩) | ((with_reducible show CPow _ _); exact ⟨by omega, by omega, by first | decide | assumption | omega⟩) | ((with_reducible show (0 : Int) < _); omega) | ((with_reducible show (0 : Int) ≤ _); omega) | ((with_reducible show scal _ _ = true); rfl)))) (fun hc H4 e4 => ?_) (fun hc H4 e4 => ?_)
      · rw [Bool.and_eq_true, decide_eq_true_iff, decide_eq_true_iff] at hc
        have eo : oneText n = [sgnOf n.toNat] := by
          unfold oneText
          rw [if_pos ⟨hc.1, by omega⟩]
        rw [eo] at tt
        refine s_asg (v := .str (S (textOf (ns.take i) ++ [sgnOf n.toNat]))) (ev_op (ev_var rfl) (ev_op ev_c (ev_var rfl) (rv_ixS (by decide) ?_)) (rv_addS (by simp; omega))) fun H5 e5 => ⟨some (V.int n), ?_, (e3.trans e4).trans e5⟩
        · have z := signs_atI (k := n.toNat) (by omega)
          rw [show ((n.toNat : Nat) : Int) = n by omega] at z
          exact z
        · rw [tt]
          rfl
      · have hc2 : ¬ (0 ≤ n ∧ n < 36) := fun z => by
          rw [Bool.and_eq_false_iff, decide_eq_false_iff_not, decide_eq_false_iff_not] at hc
          omega
        have eo : oneText n = 40 :: (strL n ++ [41]) := by
          unfold oneText
          rw [if_neg hc2]
        rw [eo] at tt ol
        have ol : (strL n).length ≤ 10 := by
          simp at ol
          omega
        have si := rc_strI (H := H4) (n := n) (by omega)
        refine s_asg (v := .str (S (((textOf (ns.take i) ++ [40]) ++ strL n) ++ [41]))) (ev_op (ev_op (ev_op (ev_var rfl) ev_c (rv_addS (by simp; omega))) (ev_cb (ea_cons (ev_var rfl) ea_nil) si) (rv_addS (by simp; omega))) ev_c (rv_addS (by simp; omega))) fun H5 e5 => ⟨some (V.int n), ?_, (e3.trans e4).trans e5⟩
        rw [tt]
        simp
    · rintro σ' H3 ⟨y2, rfl, e3⟩
      rw [List.length_map, List.take_length]
      exact s_ret (by (repeat' (first | with_reducible exact ev_c | ((with_reducible show Ev (tVar _) _ _ _); exact ev_var rfl) | with_reducible exact ea_nil | with_reducible exact eo_none | with_reducible refine' ea_cons ?_ ?_ | with_reducible refine' eo_some ?_ | with_reducible refine' ev_and2 ?_ ?_ | with_reducible refine' ev_or2 ?_ ?_ | with_reducible refine' ev_notV ?_ | with_reducible exact ru_I | with_reducible refine' ev_un ?_ ?_ | with_reducible exact rv_I0 | with_reducible exact rv_isN | with_reducible exact rv_notN | with_reducible refine' rv_I ?_ | with_reducible refine' rv_eq ?_ | with_reducible refine' rv_ne ?_ | with_reducible refine' ev_op ?_ ?_ ?_ | with_reducible refine' ev_chain2 ?_ ?_ ?_ ?_ ?_ | with_reducible refine' et_B ?_ | with_reducible refine' et_test ?_ | with_reducible refine' et_and2 ?_ ?_ | with_reducible refine' et_or2 ?_ ?_ | with_reducible refine' et_not ?_ | with_reducible refine' ev_call ?_ ?_ | with_reducible refine' ev_callS ?_ ?_ | with_reducible refine' ev_cb ?_ ?_ | with_reducible exact isi_bool (by assumption) | with_reducible exact isi_int (by assumption) | with_reducible exact isi_list (by assumption) | with_reducible exact rc_len (by assumption) | with_reducible exact rc_sum (by assumption) | with_reducible exact rc_abs | with_reducible exact isi_listL (by assumption) | with_reducible exact isi_intI | with_reducible exact isi_boolI | with_reducible exact rc_lenT (by assumption) | with_reducible exact isi_tup (by assumption) | with_reducible exact rv_eqL (by assumption) (by assumption) | with_reducible exact rv_neL (by assumption) (by assumption) | with_reducible exact rv_neT (by assumption) (by assumption) | with_reducible exact rv_ixL (by assumption) (by assumption) | with_reducible exact rv_ixT (by assumption) (by assumption) | with_reducible refine' ev_din ?_ ?_ (by assumption) | with_reducible refine' ev_dnotin ?_ ?_ (by assumption) | with_reducible refine' ev_dget ?_ ?_ (by assumption) (by assumption) | ((with_reducible show SpV _ _ _ _); assumption) | ((with_reducible show RV _ _ _ _ _); assumption) | ((with_reducible show RC _ _ _ _); assumption) | ((with_reducible show CDiv _ _); exact ⟨by omega, by omega⟩) | ((with_reducible show CMul _ _); first | exact .inl ⟨by omega, by omega⟩ | exact .inr ⟨by omega, by omega⟩) | ((with_reducible show CPow _ _); exact ⟨by omega, by omega, by first | decide | assumption | omega⟩) | ((with_reducible show (0 : Int) < _); omega) | ((with_reducible show (0 : Int) ≤ _); omega) | ((with_reducible show scal _ _ = true); rfl)))) fun H4 e4 => q H4 (e3.trans e4)

def sp_other_by (K : PySem.W.Frag) : Sp := fun vs H Q E => ∃ (t : List Nat) (a : Addr) (cs : List Int), vs = [.str (S t), .ref a] ∧ SqL K H a (cs.map V.int) ∧ t.length ≤ 1000 ∧ ∀ u : List Nat, u.length ≤ 2000 → RetV (.str (S u)) H Q
theorem sc__law_other_by : FnScope ["_law_text", "_law_script", "_law_at", "_law_sign", "_law_kind"] ["_law_text", "_law_script"] (defScope s__law_other_by) := ⟨rfl, rfl, rfl, by decide +kernel, rfl, by decide +kernel, by decide +kernel⟩
theorem ok__law_other_by {P : Program} {w : World} {K : PySem.W.Frag} {mg : Str → Option Value} {base : Heap} (T : TXT K mg) : OK P w K mg base "_law_other_by" ["_law_text", "_law_script"] 2 (sp_other_by K) := by
  have O__law_cell_at := ok__law_cell_at (P := P) (w := w) (base := base) T
  obtain ⟨fd, F⟩ := T.def_ 14
  refine ⟨_, fd, T.glo 13, F.kp, F.bindsN (fun _ _ _ _ _ _ us hl => match us, hl with | [_, _], _ => rfl), F.ok sc__law_other_by (fun vs H Q E h => ?_) (fun cdv A outer s H vs Q E hr h => ?_), F.bindsA (fun _ _ _ _ _ _ us hl => match us, hl with | [_, _], _ => rfl)⟩
  · first | (obtain ⟨rfl, _⟩ := h; rfl) | (obtain ⟨_, rfl, _⟩ := h; rfl) | (obtain ⟨_, _, rfl, _⟩ := h; rfl) | (obtain ⟨_, _, _, rfl, _⟩ := h; rfl) | (obtain ⟨_, _, _, _, rfl, _⟩ := h; rfl) | (obtain ⟨_, _, _, _, _, rfl, _⟩ := h; rfl) | (obtain ⟨_, _, _, _, _, _, rfl, _⟩ := h; rfl) | (obtain ⟨_, _, _, _, _, _, _, rfl, _⟩ := h; rfl) | (obtain ⟨_, _, _, _, _, _, _, _, rfl, _⟩ := h; rfl)
  · replace F : FunD K "_law_other_by" "_law_other_by" (defArgs s__law_other_by) (defBody s__law_other_by) (defScope s__law_other_by) [] [] (He.ga K "_law_other_by") fd := F
    refine ⟨_, (pss_cons (ps_set (i := 2) sc__law_other_by.nd rfl (Or.inl rfl) (pe_op op_mod (pe_own O__law_cell_at (hr.mono (by decide)) (by rfl) (passes_call (takes_of rfl rfl rfl rfl) (fun _ _ _ _ h => h)) (pa_cons (pv 1) (pa_cons pe_int pa_nil))) (pe_op op_add (pe_callB (id := "len") call_len_str (by rfl) (T.free 33) (by decide +kernel) (pa_cons (pv 0) pa_nil)) pe_int)))
      (pss_cons (ps_set (i := 3) sc__law_other_by.nd rfl (Or.inl rfl) (pe_ix ix_str pe_str (pe_op op_mod (pe_own O__law_cell_at (hr.mono (by decide)) (by rfl) (passes_call (takes_of rfl rfl rfl rfl) (fun _ _ _ _ h => h)) (pa_cons (pv 1) (pa_cons pe_int pa_nil))) pe_int) (fun _ _ => rfl)))
      (pss_cons (ps_set (i := 4) sc__law_other_by.nd rfl (Or.inl rfl) (pe_op op_mod (pe_own O__law_cell_at (hr.mono (by decide)) (by rfl) (passes_call (takes_of rfl rfl rfl rfl) (fun _ _ _ _ h => h)) (pa_cons (pv 1) (pa_cons pe_int pa_nil))) pe_int))
      (pss_cons (ps_if (pt_cmpR op_eq (pv 4) pe_int (nomark _))
        (pss_one (ps_ret (pe_op op_add_str (pe_op op_add_str (pe_slice C8.sl_txt (pv 0) po_none (po_some (pv 2))) (pv 3)) (pe_slice C8.sl_txt (pv 0) (po_some (pv 2)) po_none))))
        pss_nil)
      (pss_cons (ps_if (pt_cmpR op_eq (pv 4) pe_int (nomark _))
        (pss_one (ps_ret (pe_op op_add_str (pe_slice C8.sl_txt (pv 0) po_none (po_some (pv 2))) (pe_slice C8.sl_txt (pv 0) (po_some (pe_op op_add (pv 2) pe_int)) po_none))))
        pss_nil)
      (pss_cons (ps_if (pt_cmpR op_eq (pv 4) pe_int (nomark _))
        (pss_one (ps_ret (pe_op op_add_str (pe_op op_add_str (pe_slice C8.sl_txt (pv 0) po_none (po_some (pv 2))) (pv 3)) (pe_slice C8.sl_txt (pv 0) (po_some (pe_op op_add (pv 2) pe_int)) po_none))))
        pss_nil)
      (pss_one (ps_ret (pe_op op_add_str (pv 0) (pv 0)))))))))), ?_⟩
    obtain ⟨t, a, cs, rfl, hs, hz, q⟩ := h
    dsimp only [cxOf, L2.start, List.map_cons, List.map_nil, List.length_cons, List.length_nil, Nat.reduceAdd, Nat.reduceSub, List.replicate_succ, List.replicate_zero, List.cons_append, List.nil_append, Nat.zero_add, List.reduceReplicate, List.map]
    have c3 := sv_cell (k := 3) hs
    have ls : RC (fun xs H Q => ∃ z : Str, xs = [.str z] ∧ z.length ≤ sizeLine ∧ Q (.int z.length) H) [.str (S t)] H (.int (t.length : Int)) := rc_lenS (by omega)
    have a0 := Int.emod_nonneg (cs.getD 3 0) (show ((t.length : Int) + 1) ≠ 0 by omega)
    have a1 := Int.emod_lt_of_pos (cs.getD 3 0) (show (0 : Int) < (t.length : Int) + 1 by omega)
    refine q_asg (v := .int (cs.getD 3 0 % ((t.length : Int) + 1))) (by (repeat' (first | with_reducible exact ev_c | ((with_reducible show Ev (tVar _) _ _ _); exact ev_var rfl) | with_reducible exact ea_nil | with_reducible exact eo_none | with_reducible refine' ea_cons ?_ ?_ | with_reducible refine' eo_some ?_ | with_reducible refine' ev_and2 ?_ ?_ | with_reducible refine' ev_or2 ?_ ?_ | with_reducible refine' ev_notV ?_ | with_reducible exact ru_I | with_reducible refine' ev_un ?_ ?_ | with_reducible exact rv_I0 | with_reducible exact rv_isN | with_reducible exact rv_notN | with_reducible refine' rv_I ?_ | with_reducible refine' rv_eq ?_ | with_reducible refine' rv_ne ?_ | with_reducible refine' ev_op ?_ ?_ ?_ | with_reducible refine' ev_chain2 ?_ ?_ ?_ ?_ ?_ | with_reducible refine' et_B ?_ | with_reducible refine' et_test ?_ | with_reducible refine' et_and2 ?_ ?_ | with_reducible refine' et_or2 ?_ ?_ | with_reducible refine' et_not ?_ | with_reducible refine' ev_call ?_ ?_ | with_reducible refine' ev_callS ?_ ?_ | with_reducible refine' ev_cb ?_ ?_ | with_reducible exact isi_bool (by assumption) | with_reducible exact isi_int (by assumption) | with_reducible exact isi_list (by assumption) | with_reducible exact rc_len (by assumption) | with_reducible exact rc_sum (by assumption) | with_reducible exact rc_abs | with_reducible exact isi_listL (by assumption) | with_reducible exact isi_intI | with_reducible exact isi_boolI | with_reducible exact rc_lenT (by assumption) | with_reducible exact isi_tup (by assumption) | with_reducible exact rv_eqL (by assumption) (by assumption) | with_reducible exact rv_neL (by assumption) (by assumption) | with_reducible exact rv_neT (by assumption) (by assumption) | with_reducible exact rv_ixL (by assumption) (by assumption) | with_reducible exact rv_ixT (by assumption) (by assumption) | with_reducible refine' ev_din ?_ ?_ (by assumption) | with_reducible refine' ev_dnotin ?_ ?_ (by assumption) | with_reducible refine' ev_dget ?_ ?_ (by assumption) (by assumption) | ((with_reducible show SpV _ _ _ _); assumption) | ((with_reducible show RV _ _ _ _ _); assumption) | ((with_reducible show RC _ _ _ _); assumption) | ((with_reducible show CDiv _ _); exact ⟨by omega, by omega⟩) | ((with_reducible show CMul _ _); first | exact .inl ⟨by omega, by omega⟩ | exact .inr ⟨by omega, by omega⟩) | ((with_reducible show CPow _ _); exact ⟨by omega, by omega, by first | decide | assumption | omega⟩) | ((with_reducible show (0 : Int) < _); omega) | ((with_reducible show (0 : Int) ≤ _); omega) | ((with_reducible show scal _ _ = true); rfl)))) fun H1 e1 => ?_
    generalize cs.getD 3 0 % ((t.length : Int) + 1) = at_ at *
    have c4 := sv_cell (k := 4) (ex_l e1 hs)
    have sg : ("0123456789abz(((()))) -+AZ." : Str) = S [48, 49, 50, 51, 52, 53, 54, 55, 56, 57, 97, 98, 122, 40, 40, 40, 40, 41, 41, 41, 41, 32, 45, 43, 65, 90, 46] := by decide +kernel
    rw [sg]
    obtain ⟨c, hc⟩ : ∃ c, atI ([48, 49, 50, 51, 52, 53, 54, 55, 56, 57, 97, 98, 122, 40, 40, 40, 40, 41, 41, 41, 41, 32, 45, 43, 65, 90, 46] : List Nat) (cs.getD 4 0 % 27) = some c := by
      have b0 := Int.emod_nonneg (cs.getD 4 0) (show (27 : Int) ≠ 0 by omega)
      have b1 := Int.emod_lt_of_pos (cs.getD 4 0) (show (0 : Int) < 27 by omega)
      obtain ⟨k, hk⟩ : ∃ k : Nat, cs.getD 4 0 % 27 = (k : Int) := ⟨(cs.getD 4 0 % 27).toNat, by omega⟩
      rw [hk]
      exact ⟨_, atI_nat (List.getElem?_eq_getElem (show k < 27 by omega))⟩
    refine q_asg (v := .str (S [c])) (ev_op ev_c (by (repeat' (first | with_reducible exact ev_c | ((with_reducible show Ev (tVar _) _ _ _); exact ev_var rfl) | with_reducible exact ea_nil | with_reducible exact eo_none | with_reducible refine' ea_cons ?_ ?_ | with_reducible refine' eo_some ?_ | with_reducible refine' ev_and2 ?_ ?_ | with_reducible refine' ev_or2 ?_ ?_ | with_reducible refine' ev_notV ?_ | with_reducible exact ru_I | with_reducible refine' ev_un ?_ ?_ | with_reducible exact rv_I0 | with_reducible exact rv_isN | with_reducible exact rv_notN | with_reducible refine' rv_I ?_ | with_reducible refine' rv_eq ?_ | with_reducible refine' rv_ne ?_ | with_reducible refine' ev_op ?_ ?_ ?_ | with_reducible refine' ev_chain2 ?_ ?_ ?_ ?_ ?_ | with_reducible refine' et_B ?_ | with_reducible refine' et_test ?_ | with_reducible refine' et_and2 ?_ ?_ | with_reducible refine' et_or2 ?_ ?_ | with_reducible refine' et_not ?_ | with_reducible refine' ev_call ?_ ?_ | with_reducible refine' ev_callS ?_ ?_ | with_reducible refine' ev_cb ?_ ?_ | with_reducible exact isi_bool (by assumption) | with_reducible exact isi_int (by assumption) | with_reducible exact isi_list (by assumption) | with_reducible exact rc_len (by assumption) | with_reducible exact rc_sum (by assumption) | with_reducible exact rc_abs | with_reducible exact isi_listL (by assumption) | with_reducible exact isi_intI | with_reducible exact isi_boolI | with_reducible exact rc_lenT (by assumption) | with_reducible exact isi_tup (by assumption) | with_reducible exact rv_eqL (by assumption) (by assumption) | with_reducible exact rv_neL (by assumption) (by assumption) | with_reducible exact rv_neT (by assumption) (by assumption) | with_reducible exact rv_ixL (by assumption) (by assumption) | with_reducible exact rv_ixT (by assumption) (by assumption) | with_reducible refine' ev_din ?_ ?_ (by assumption) | with_reducible refine' ev_dnotin ?_ ?_ (by assumption) | with_reducible refine' ev_dget ?_ ?_ (by assumption) (by assumption) | ((with_reducible show SpV _ _ _ _); assumption) | ((with_reducible show RV _ _ _ _ _); assumption) | ((with_reducible show RC _ _ _ _); assumption) | ((with_reducible show CDiv _ _); exact ⟨by omega, by omega⟩) | ((with_reducible show CMul _ _); first | exact .inl ⟨by omega, by omega⟩ | exact .inr ⟨by omega, by omega⟩) | ((with_reducible show CPow _ _); exact ⟨by omega, by omega, by first | decide | assumption | omega⟩) | ((with_reducible show (0 : Int) < _); omega) | ((with_reducible show (0 : Int) ≤ _); omega) | ((with_reducible show scal _ _ = true); rfl)))) (rv_ixS (by simp) hc)) fun H2 e2 => ?_
    have c2 := sv_cell (k := 2) (ex_l (e1.trans e2) hs)
    refine q_asg (v := .int (cs.getD 2 0 % 4)) (by (repeat' (first | with_reducible exact ev_c | ((with_reducible show Ev (tVar _) _ _ _); exact ev_var rfl) | with_reducible exact ea_nil | with_reducible exact eo_none | with_reducible refine' ea_cons ?_ ?_ | with_reducible refine' eo_some ?_ | with_reducible refine' ev_and2 ?_ ?_ | with_reducible refine' ev_or2 ?_ ?_ | with_reducible refine' ev_notV ?_ | with_reducible exact ru_I | with_reducible refine' ev_un ?_ ?_ | with_reducible exact rv_I0 | with_reducible exact rv_isN | with_reducible exact rv_notN | with_reducible refine' rv_I ?_ | with_reducible refine' rv_eq ?_ | with_reducible refine' rv_ne ?_ | with_reducible refine' ev_op ?_ ?_ ?_ | with_reducible refine' ev_chain2 ?_ ?_ ?_ ?_ ?_ | with_reducible refine' et_B ?_ | with_reducible refine' et_test ?_ | with_reducible refine' et_and2 ?_ ?_ | with_reducible refine' et_or2 ?_ ?_ | with_reducible refine' et_not ?_ | with_reducible refine' ev_call ?_ ?_ | with_reducible refine' ev_callS ?_ ?_ | with_reducible refine' ev_cb ?_ ?_ | with_reducible exact isi_bool (by assumption) | with_reducible exact isi_int (by assumption) | with_reducible exact isi_list (by assumption) | with_reducible exact rc_len (by assumption) | with_reducible exact rc_sum (by assumption) | with_reducible exact rc_abs | with_reducible exact isi_listL (by assumption) | with_reducible exact isi_intI | with_reducible exact isi_boolI | with_reducible exact rc_lenT (by assumption) | with_reducible exact isi_tup (by assumption) | with_reducible exact rv_eqL (by assumption) (by assumption) | with_reducible exact rv_neL (by assumption) (by assumption) | with_reducible exact rv_neT (by assumption) (by assumption) | with_reducible exact rv_ixL (by assumption) (by assumption) | with_reducible exact rv_ixT (by assumption) (by assumption) | with_reducible refine' ev_din ?_ ?_ (by assumption) | with_reducible refine' ev_dnotin ?_ ?_ (by assumption) | with_reducible refine' ev_dget ?_ ?_ (by assumption) (by assumption) | ((with_reducible show SpV _ _ _ _); assumption) | ((with_reducible show RV _ _ _ _ _); assumption) | ((with_reducible show RC _ _ _ _); assumption) | ((with_reducible show CDiv _ _); exact ⟨by omega, by omega⟩) | ((with_reducible show CMul _ _); first | exact .inl ⟨by omega, by omega⟩ | exact .inr ⟨by omega, by omega⟩) | ((with_reducible show CPow _ _); exact ⟨by omega, by omega, by first | decide | assumption | omega⟩) | ((with_reducible show (0 : Int) < _); omega) | ((with_reducible show (0 : Int) ≤ _); omega) | ((with_reducible show scal _ _ = true); rfl)))) fun H3 e3 => ?_
    have e03 := (e1.trans e2).trans e3
    have lt : (t.take at_.toNat).length ≤ 1000 := by
      rw [List.length_take]
      omega
    have ld : ∀ k, (t.drop k).length ≤ 1000 := fun k => by
      rw [List.length_drop]
      omega
    have ld1 := ld at_.toNat
    have ld2 := ld (at_ + 1).toNat
    refine q_when (b := decide (V.int (cs.getD 2 0 % 4) = V.int 0)) (by (repeat' (first | with_reducible exact ev_c | ((with_reducible show Ev (tVar _) _ _ _); exact ev_var rfl) | with_reducible exact ea_nil | with_reducible exact eo_none | with_reducible refine' ea_cons ?_ ?_ | with_reducible refine' eo_some ?_ | with_reducible refine' ev_and2 ?_ ?_ | with_reducible refine' ev_or2 ?_ ?_ | with_reducible refine' ev_notV ?_ | with_reducible exact ru_I | with_reducible refine' ev_un ?_ ?_ | with_reducible exact rv_I0 | with_reducible exact rv_isN | with_reducible exact rv_notN | with_reducible refine' rv_I ?_ | with_reducible refine' rv_eq ?_ | with_reducible refine' rv_ne ?_ | with_reducible refine' ev_op ?_ ?_ ?_ | with_reducible refine' ev_chain2 ?_ ?_ ?_ ?_ ?_ | with_reducible refine' et_B ?_ | with_reducible refine' et_test ?_ | with_reducible refine' et_and2 ?_ ?_ | with_reducible refine' et_or2 ?_ ?_ | with_reducible refine' et_not ?_ | with_reducible refine' ev_call ?_ ?_ | with_reducible refine' ev_callS ?_ ?_ | with_reducible refine' ev_cb ?_ ?_ | with_reducible exact isi_bool (by assumption) | with_reducible exact isi_int (by assumption) | with_reducible exact isi_list (by assumption) | with_reducible exact rc_len (by assumption) | with_reducible exact rc_sum (by assumption) | with_reducible exact rc_abs | with_reducible exact isi_listL (by assumption) | with_reducible exact isi_intI | with_reducible exact isi_boolI | with_reducible exact rc_lenT (by assumption) | with_reducible exact isi_tup (by assumption) | with_reducible exact rv_eqL (by assumption) (by assumption) | with_reducible exact rv_neL (by assumption) (by assumption) | with_reducible exact rv_neT (by assumption) (by assumption) | with_reducible exact rv_ixL (by assumption) (by assumption) | with_reducible exact rv_ixT (by assumption) (by assumption) | with_reducible refine' ev_din ?_ ?_ (by assumption) | with_reducible refine' ev_dnotin ?_ ?_ (by assumption) | with_reducible refine' ev_dget ?_ ?_ (by assumption) (by assumption) | ((with_reducible show SpV _ _ _ _); assumption) | ((with_reducible show RV _ _ _ _ _); assumption) | ((with_reducible show RC _ _ _ _); assumption) | ((with_reducible show CDiv _ _); exact ⟨by omega, by omega⟩) | ((with_reducible show CMul _ _); first | exact .inl ⟨by omega, by omega⟩ | exact .inr ⟨by omega, by omega⟩) | ((with_reducible show CPow _ _); exact ⟨by omega, by omega, by first | decide | assumption | omega⟩) | ((with_reducible show (0 : Int) < _); omega) | ((with_reducible show (0 : Int) ≤ _); omega) | ((with_reducible show scal _ _ = true); rfl)))) (fun _ H4 e4 => ?_) (fun _ H4 e4 => ?_)
    · exact s_ret (v := .str (S ((t.take at_.toNat ++ [c]) ++ t.drop at_.toNat))) (ev_op (ev_op (ev_slTo (ev_var rfl) (ev_var rfl) a0 (by omega)) (ev_var rfl) (rv_addS (by simp only [List.length_singleton]; omega))) (ev_slFrom (ev_var rfl) (ev_var rfl) a0 (by omega)) (rv_addS (by rw [List.length_append, List.length_singleton]; omega))) fun H5 e5 => q _ (by rw [List.length_append, List.length_append, List.length_singleton, List.length_take, List.length_drop]; omega) H5 ((e03.trans e4).trans e5)
    refine q_when (b := decide (V.int (cs.getD 2 0 % 4) = V.int 1)) (by (repeat' (first | with_reducible exact ev_c | ((with_reducible show Ev (tVar _) _ _ _); exact ev_var rfl) | with_reducible exact ea_nil | with_reducible exact eo_none | with_reducible refine' ea_cons ?_ ?_ | with_reducible refine' eo_some ?_ | with_reducible refine' ev_and2 ?_ ?_ | with_reducible refine' ev_or2 ?_ ?_ | with_reducible refine' ev_notV ?_ | with_reducible exact ru_I | with_reducible refine' ev_un ?_ ?_ | with_reducible exact rv_I0 | with_reducible exact rv_isN | with_reducible exact rv_notN | with_reducible refine' rv_I ?_ | with_reducible refine' rv_eq ?_ | with_reducible refine' rv_ne ?_ | with_reducible refine' ev_op ?_ ?_ ?_ | with_reducible refine' ev_chain2 ?_ ?_ ?_ ?_ ?_ | with_reducible refine' et_B ?_ | with_reducible refine' et_test ?_ | with_reducible refine' et_and2 ?_ ?_ | with_reducible refine' et_or2 ?_ ?_ | with_reducible refine' et_not ?_ | with_reducible refine' ev_call ?_ ?_ | with_reducible refine' ev_callS ?_ ?_ | with_reducible refine' ev_cb ?_ ?_ | with_reducible exact isi_bool (by assumption) | with_reducible exact isi_int (by assumption) | with_reducible exact isi_list (by assumption) | with_reducible exact rc_len (by assumption) | with_reducible exact rc_sum (by assumption) | with_reducible exact rc_abs | with_reducible exact isi_listL (by assumption) | with_reducible exact isi_intI | with_reducible exact isi_boolI | with_reducible exact rc_lenT (by assumption) | with_reducible exact isi_tup (by assumption) | with_reducible exact rv_eqL (by assumption) (by assumption) | with_reducible exact rv_neL (by assumption) (by assumption) | with_reducible exact rv_neT (by assumption) (by assumption) | with_reducible exact rv_ixL (by assumption) (by assumption) | with_reducible exact rv_ixT (by assumption) (by assumption) | with_reducible refine' ev_din ?_ ?_ (by assumption) | with_reducible refine' ev_dnotin ?_ ?_ (by assumption) | with_reducible refine' ev_dget ?_ ?_ (by assumption) (by assumption) | ((with_reducible show SpV _ _ _ _); assumption) | ((with_reducible show RV _ _ _ _ _); assumption) | ((with_reducible show RC _ _ _ _); assumption) | ((with_reducible show CDiv _ _); exact ⟨by omega, by omega⟩) | ((with_reducible show CMul _ _); first | exact .inl ⟨by omega, by omega⟩ | exact .inr ⟨by omega, by omega⟩) | ((with_reducible show CPow _ _); exact ⟨by omega, by omega, by first | decide | assumption | omega⟩) | ((with_reducible show (0 : Int) < _); omega) | ((with_reducible show (0 : Int) ≤ _); omega) | ((with_reducible show scal _ _ = true); rfl)))) (fun _ H5 e5 => ?_) (fun _ H5 e5 => ?_)
    · exact s_ret (v := .str (S (t.take at_.toNat ++ t.drop (at_ + 1).toNat))) (ev_op (ev_slTo (ev_var rfl) (ev_var rfl) a0 (by omega)) (ev_slFrom (ev_var rfl) (by (repeat' (first | with_reducible exact ev_c | ((with_reducible show Ev (tVar _) _ _ _); exact ev_var rfl) | with_reducible exact ea_nil | with_reducible exact eo_none | with_reducible refine' ea_cons ?_ ?_ | with_reducible refine' eo_some ?_ | with_reducible refine' ev_and2 ?_ ?_ | with_reducible refine' ev_or2 ?_ ?_ | with_reducible refine' ev_notV ?_ | with_reducible exact ru_I | with_reducible refine' ev_un ?_ ?_ | with_reducible exact rv_I0 | with_reducible exact rv_isN | with_reducible exact rv_notN | with_reducible refine' rv_I ?_ | with_reducible refine' rv_eq ?_ | with_reducible refine' rv_ne ?_ | with_reducible refine' ev_op ?_ ?_ ?_ | with_reducible refine' ev_chain2 ?_ ?_ ?_ ?_ ?_ | with_reducible refine' et_B ?_ | with_reducible refine' et_test ?_ | with_reducible refine' et_and2 ?_ ?_ | with_reducible refine' et_or2 ?_ ?_ | with_reducible refine' et_not ?_ | with_reducible refine' ev_call ?_ ?_ | with_reducible refine' ev_callS ?_ ?_ | with_reducible refine' ev_cb ?_ ?_ | with_reducible exact isi_bool (by assumption) | with_reducible exact isi_int (by assumption) | with_reducible exact isi_list (by assumption) | with_reducible exact rc_len (by assumption) | with_reducible exact rc_sum (by assumption) | with_reducible exact rc_abs | with_reducible exact isi_listL (by assumption) | with_reducible exact isi_intI | with_reducible exact isi_boolI | with_reducible exact rc_lenT (by assumption) | with_reducible exact isi_tup (by assumption) | with_reducible exact rv_eqL (by assumption) (by assumption) | with_reducible exact rv_neL (by assumption) (by assumption) | with_reducible exact rv_neT (by assumption) (by assumption) | with_reducible exact rv_ixL (by assumption) (by assumption) | with_reducible exact rv_ixT (by assumption) (by assumption) | with_reducible refine' ev_din ?_ ?_ (by assumption) | with_reducible refine' ev_dnotin ?_ ?_ (by assumption) | with_reducible refine' ev_dget ?_ ?_ (by assumption) (by assumption) | ((with_reducible show SpV _ _ _ _); assumption) | ((with_reducible show RV _ _ _ _ _); assumption) | ((with_reducible show RC _ _ _ _); assumption) | ((with_reducible show CDiv _ _); exact ⟨by omega, by omega⟩) | ((with_reducible show CMul _ _); first | exact .inl ⟨by omega, by omega⟩ | exact .inr ⟨by omega, by omega⟩) | ((with_reducible show CPow _ _); exact ⟨by omega, by omega, by first | decide | assumption | omega⟩) | ((with_reducible show (0 : Int) < _); omega) | ((with_reducible show (0 : Int) ≤ _); omega) | ((with_reducible show scal _ _ = true); rfl)))) (by omega) (by omega)) (rv_addS (by omega))) fun H6 e6 => q _ (by rw [List.length_append]; omega) H6 (((e03.trans e4).trans e5).trans e6)
    refine q_when (b := decide (V.int (cs.getD 2 0 % 4) = V.int 2)) (by (repeat' (first | with_reducible exact ev_c | ((with_reducible show Ev (tVar _) _ _ _); exact ev_var rfl) | with_reducible exact ea_nil | with_reducible exact eo_none | with_reducible refine' ea_cons ?_ ?_ | with_reducible refine' eo_some ?_ | with_reducible refine' ev_and2 ?_ ?_ | with_reducible refine' ev_or2 ?_ ?_ | with_reducible refine' ev_notV ?_ | with_reducible exact ru_I | with_reducible refine' ev_un ?_ ?_ | with_reducible exact rv_I0 | with_reducible exact rv_isN | with_reducible exact rv_notN | with_reducible refine' rv_I ?_ | with_reducible refine' rv_eq ?_ | with_reducible refine' rv_ne ?_ | with_reducible refine' ev_op ?_ ?_ ?_ | with_reducible refine' ev_chain2 ?_ ?_ ?_ ?_ ?_ | with_reducible refine' et_B ?_ | with_reducible refine' et_test ?_ | with_reducible refine' et_and2 ?_ ?_ | with_reducible refine' et_or2 ?_ ?_ | with_reducible refine' et_not ?_ | with_reducible refine' ev_call ?_ ?_ | with_reducible refine' ev_callS ?_ ?_ | with_reducible refine' ev_cb ?_ ?_ | with_reducible exact isi_bool (by assumption) | with_reducible exact isi_int (by assumption) | with_reducible exact isi_list (by assumption) | with_reducible exact rc_len (by assumption) | with_reducible exact rc_sum (by assumption) | with_reducible exact rc_abs | with_reducible exact isi_listL (by assumption) | with_reducible exact isi_intI | with_reducible exact isi_boolI | with_reducible exact rc_lenT (by assumption) | with_reducible exact isi_tup (by assumption) | with_reducible exact rv_eqL (by assumption) (by assumption) | with_reducible exact rv_neL (by assumption) (by assumption) | with_reducible exact rv_neT (by assumption) (by assumption) | with_reducible exact rv_ixL (by assumption) (by assumption) | with_reducible exact rv_ixT (by assumption) (by assumption) | with_reducible refine' ev_din ?_ ?_ (by assumption) | with_reducible refine' ev_dnotin ?_ ?_ (by assumption) | with_reducible refine' ev_dget ?_ ?_ (by assumption) (by assumption) | ((with_reducible show SpV _ _ _ _); assumption) | ((with_reducible show RV _ _ _ _ _); assumption) | ((with_reducible show RC _ _ _ _); assumption) | ((with_reducible show CDiv _ _); exact ⟨by omega, by omega⟩) | ((with_reducible show CMul _ _); first | exact .inl ⟨by omega, by omega⟩ | exact .inr ⟨by omega, by omega⟩) | ((with_reducible show CPow _ _); exact ⟨by omega, by omega, by first | decide | assumption | omega⟩) | ((with_reducible show (0 : Int) < _); omega) | ((with_reducible show (0 : Int) ≤ _); omega) | ((with_reducible show scal _ _ = true); rfl)))) (fun _ H6 e6 => ?_) (fun _ H6 e6 => ?_)
    · exact s_ret (v := .str (S ((t.take at_.toNat ++ [c]) ++ t.drop (at_ + 1).toNat))) (ev_op (ev_op (ev_slTo (ev_var rfl) (ev_var rfl) a0 (by omega)) (ev_var rfl) (rv_addS (by simp only [List.length_singleton]; omega))) (ev_slFrom (ev_var rfl) (by (repeat' (first | with_reducible exact ev_c | ((with_reducible show Ev (tVar _) _ _ _); exact ev_var rfl) | with_reducible exact ea_nil | with_reducible exact eo_none | with_reducible refine' ea_cons ?_ ?_ | with_reducible refine' eo_some ?_ | with_reducible refine' ev_and2 ?_ ?_ | with_reducible refine' ev_or2 ?_ ?_ | with_reducible refine' ev_notV ?_ | with_reducible exact ru_I | with_reducible refine' ev_un ?_ ?_ | with_reducible exact rv_I0 | with_reducible exact rv_isN | with_reducible exact rv_notN | with_reducible refine' rv_I ?_ | with_reducible refine' rv_eq ?_ | with_reducible refine' rv_ne ?_ | with_reducible refine' ev_op ?_ ?_ ?_ | with_reducible refine' ev_chain2 ?_ ?_ ?_ ?_ ?_ | with_reducible refine' et_B ?_ | with_reducible refine' et_test ?_ | with_reducible refine' et_and2 ?_ ?_ | with_reducible refine' et_or2 ?_ ?_ | with_reducible refine' et_not ?_ | with_reducible refine' ev_call ?_ ?_ | with_reducible refine' ev_callS ?_ ?_ | with_reducible refine' ev_cb ?_ ?_ | with_reducible exact isi_bool (by assumption) | with_reducible exact isi_int (by assumption) | with_reducible exact isi_list (by assumption) | with_reducible exact rc_len (by assumption) | with_reducible exact rc_sum (by assumption) | with_reducible exact rc_abs | with_reducible exact isi_listL (by assumption) | with_reducible exact isi_intI | with_reducible exact isi_boolI | with_reducible exact rc_lenT (by assumption) | with_reducible exact isi_tup (by assumption) | with_reducible exact rv_eqL (by assumption) (by assumption) | with_reducible exact rv_neL (by assumption) (by assumption) | with_reducible exact rv_neT (by assumption) (by assumption) | with_reducible exact rv_ixL (by assumption) (by assumption) | with_reducible exact rv_ixT (by assumption) (by assumption) | with_reducible refine' ev_din ?_ ?_ (by assumption) | with_reducible refine' ev_dnotin ?_ ?_ (by assumption) | with_reducible refine' ev_dget ?_ ?_ (by assumption) (by assumption) | ((with_reducible show SpV _ _ _ _); assumption) | ((with_reducible show RV _ _ _ _ _); assumption) | ((with_reducible show RC _ _ _ _); assumption) | ((with_reducible show CDiv _ _); exact ⟨by omega, by omega⟩) | ((with_reducible show CMul _ _); first | exact .inl ⟨by omega, by omega⟩ | exact .inr ⟨by omega, by omega⟩) | ((with_reducible show CPow _ _); exact ⟨by omega, by omega, by first | decide | assumption | omega⟩) | ((with_reducible show (0 : Int) < _); omega) | ((with_reducible show (0 : Int) ≤ _); omega) | ((with_reducible show scal _ _ = true); rfl)))) (by omega) (by omega)) (rv_addS (by rw [List.length_append, List.length_singleton]; omega))) fun H7 e7 => q _ (by rw [List.length_append, List.length_append, List.length_singleton, List.length_take, List.length_drop]; omega) H7 ((((e03.trans e4).trans e5).trans e6).trans e7)
    · exact s_ret (v := .str (S (t ++ t))) (ev_op (ev_var rfl) (ev_var rfl) (rv_addS (by omega))) fun H7 e7 => q _ (by rw [List.length_append]; omega) H7 ((((e03.trans e4).trans e5).trans e6).trans e7)

def sp_few : Sp := fun vs H Q E => vs = [] ∧ ∀ fs : List Str, fs.length ≤ 30 → (∀ x ∈ fs, x.length ≤ 100) → RetL (fs.map V.str) H Q
theorem sc__law_few : FnScope ["_law_some"] [] (defScope s__law_few) := ⟨rfl, rfl, rfl, by decide +kernel, rfl, by decide +kernel, by decide +kernel⟩
theorem ok__law_few {P : Program} {w : World} {K : PySem.W.Frag} {mg : Str → Option Value} {base : Heap} (T : TXT K mg) : OK P w K mg base "_law_few" [] 1 (sp_few) := by
  obtain ⟨fd, F⟩ := T.def_ 15
  refine ⟨_, fd, T.glo 14, F.kp, F.bindsN (fun _ _ _ _ _ _ us hl => match us, hl with | [], _ => rfl), F.ok sc__law_few (fun vs H Q E h => ?_) (fun cdv A outer s H vs Q E hr h => ?_), F.bindsA (fun _ _ _ _ _ _ us hl => match us, hl with | [], _ => rfl)⟩
  · first | (obtain ⟨rfl, _⟩ := h; rfl) | (obtain ⟨_, rfl, _⟩ := h; rfl) | (obtain ⟨_, _, rfl, _⟩ := h; rfl) | (obtain ⟨_, _, _, rfl, _⟩ := h; rfl) | (obtain ⟨_, _, _, _, rfl, _⟩ := h; rfl) | (obtain ⟨_, _, _, _, _, rfl, _⟩ := h; rfl) | (obtain ⟨_, _, _, _, _, _, rfl, _⟩ := h; rfl) | (obtain ⟨_, _, _, _, _, _, _, rfl, _⟩ := h; rfl) | (obtain ⟨_, _, _, _, _, _, _, _, rfl, _⟩ := h; rfl)
  · replace F : FunD K "_law_few" "_law_few" (defArgs s__law_few) (defBody s__law_few) (defScope s__law_few) [] [] (He.ga K "_law_few") fd := F
    refine ⟨_, (pss_cons (ps_set (i := 0) sc__law_few.nd rfl (Or.inl rfl) (pe_lst (pa_cons pe_str (pa_cons pe_str (pa_cons pe_str (pa_cons pe_str (pa_cons pe_str (pa_cons pe_str (pa_cons pe_str (pa_cons pe_str (pa_cons pe_str (pa_cons pe_str (pa_cons pe_str pa_nil)))))))))))))
      (pss_one (ps_ret (pe_op op_cat (pv 0) (pe_lst (pa_cons (pe_op op_repS pe_str pe_int) (pa_cons (pe_op op_repS pe_str pe_int) (pa_cons pe_str (pa_cons pe_str (pa_cons pe_str (pa_cons pe_str (pa_cons pe_str (pa_cons pe_str (pa_cons pe_str (pa_cons pe_str pa_nil))))))))))))))), ?_⟩
    obtain ⟨rfl, q⟩ := h
    dsimp only [cxOf, L2.start, List.map_cons, List.map_nil, List.length_cons, List.length_nil, Nat.reduceAdd, Nat.reduceSub, List.replicate_succ, List.replicate_zero, List.cons_append, List.nil_append, Nat.zero_add, List.reduceReplicate, List.map]
    refine q_asgL (xs := [V.str "", .str "()", .str "(-0)", .str "(00)", .str "(036)", .str "(35)", .str "(36)", .str "(1000001)", .str "(-1000000)", .str "(-1)(", .str "((36))"]) (el_lst (by (repeat' (first | with_reducible exact ev_c | ((with_reducible show Ev (tVar _) _ _ _); exact ev_var rfl) | with_reducible exact ea_nil | with_reducible exact eo_none | with_reducible refine' ea_cons ?_ ?_ | with_reducible refine' eo_some ?_ | with_reducible refine' ev_and2 ?_ ?_ | with_reducible refine' ev_or2 ?_ ?_ | with_reducible refine' ev_notV ?_ | with_reducible exact ru_I | with_reducible refine' ev_un ?_ ?_ | with_reducible exact rv_I0 | with_reducible exact rv_isN | with_reducible exact rv_notN | with_reducible refine' rv_I ?_ | with_reducible refine' rv_eq ?_ | with_reducible refine' rv_ne ?_ | with_reducible refine' ev_op ?_ ?_ ?_ | with_reducible refine' ev_chain2 ?_ ?_ ?_ ?_ ?_ | with_reducible refine' et_B ?_ | with_reducible refine' et_test ?_ | with_reducible refine' et_and2 ?_ ?_ | with_reducible refine' et_or2 ?_ ?_ | with_reducible refine' et_not ?_ | with_reducible refine' ev_call ?_ ?_ | with_reducible refine' ev_callS ?_ ?_ | with_reducible refine' ev_cb ?_ ?_ | with_reducible exact isi_bool (by assumption) | with_reducible exact isi_int (by assumption) | with_reducible exact isi_list (by assumption) | with_reducible exact rc_len (by assumption) | with_reducible exact rc_sum (by assumption) | with_reducible exact rc_abs | with_reducible exact isi_listL (by assumption) | with_reducible exact isi_intI | with_reducible exact isi_boolI | with_reducible exact rc_lenT (by assumption) | with_reducible exact isi_tup (by assumption) | with_reducible exact rv_eqL (by assumption) (by assumption) | with_reducible exact rv_neL (by assumption) (by assumption) | with_reducible exact rv_neT (by assumption) (by assumption) | with_reducible exact rv_ixL (by assumption) (by assumption) | with_reducible exact rv_ixT (by assumption) (by assumption) | with_reducible refine' ev_din ?_ ?_ (by assumption) | with_reducible refine' ev_dnotin ?_ ?_ (by assumption) | with_reducible refine' ev_dget ?_ ?_ (by assumption) (by assumption) | ((with_reducible show SpV _ _ _ _); assumption) | ((with_reducible show RV _ _ _ _ _); assumption) | ((with_reducible show RC _ _ _ _); assumption) | ((with_reducible show CDiv _ _); exact ⟨by omega, by omega⟩) | ((with_reducible show CMul _ _); first | exact .inl ⟨by omega, by omega⟩ | exact .inr ⟨by omega, by omega⟩) | ((with_reducible show CPow _ _); exact ⟨by omega, by omega, by first | decide | assumption | omega⟩) | ((with_reducible show (0 : Int) < _); omega) | ((with_reducible show (0 : Int) ≤ _); omega) | ((with_reducible show scal _ _ = true); rfl)))) (by simp)) fun p H1 hp e1 h1 => ?_
    have z0 : ("0" : Str) = S [48] := by decide +kernel
    have zz : ("z" : Str) = S [122] := by decide +kernel
    rw [z0, zz]
    have zr : ∀ (c n : Nat) (σ : L2.St) (H : Hp), 2 ≤ n → n ≤ 1000 → Ev (tOp rRepS (tC (.str (S [c]))) (tC (.int (n : Int)))) σ H (.str (S (List.replicate n c))) := fun c n σ H h2 h3 => ev_op ev_c ev_c fun H1 e Q q => ⟨c, n, rfl, rfl, h2, h3, q H1 (Ex.refl H1)⟩
    refine s_retL (xs := ([("" : Str), "()", "(-0)", "(00)", "(036)", "(35)", "(36)", "(1000001)", "(-1000000)", "(-1)(", "((36))", S (List.replicate 61 48), S (List.replicate 60 122), "(0)", "(+40)", "(-1000001)", "( 40)", "(40 )", "(4_0)", "z0(-5)", "(40"] : List Str).map V.str) (el_catVN (ys := [V.str (S (List.replicate 61 48)), .str (S (List.replicate 60 122)), .str "(0)", .str "(+40)", .str "(-1000001)", .str "( 40)", .str "(40 )", .str "(4_0)", .str "z0(-5)", .str "(40"]) (ev_var rfl) (el_lst (ea_cons (zr 48 61 _ _ (by decide) (by decide)) (ea_cons (zr 122 60 _ _ (by decide) (by decide)) (by (repeat' (first | with_reducible exact ev_c | ((with_reducible show Ev (tVar _) _ _ _); exact ev_var rfl) | with_reducible exact ea_nil | with_reducible exact eo_none | with_reducible refine' ea_cons ?_ ?_ | with_reducible refine' eo_some ?_ | with_reducible refine' ev_and2 ?_ ?_ | with_reducible refine' ev_or2 ?_ ?_ | with_reducible refine' ev_notV ?_ | with_reducible exact ru_I | with_reducible refine' ev_un ?_ ?_ | with_reducible exact rv_I0 | with_reducible exact rv_isN | with_reducible exact rv_notN | with_reducible refine' rv_I ?_ | with_reducible refine' rv_eq ?_ | with_reducible refine' rv_ne ?_ | with_reducible refine' ev_op ?_ ?_ ?_ | with_reducible refine' ev_chain2 ?_ ?_ ?_ ?_ ?_ | with_reducible refine' et_B ?_ | with_reducible refine' et_test ?_ | with_reducible refine' et_and2 ?_ ?_ | with_reducible refine' et_or2 ?_ ?_ | with_reducible refine' et_not ?_ | with_reducible refine' ev_call ?_ ?_ | with_reducible refine' ev_callS ?_ ?_ | with_reducible refine' ev_cb ?_ ?_ | with_reducible exact isi_bool (by assumption) | with_reducible exact isi_int (by assumption) | with_reducible exact isi_list (by assumption) | with_reducible exact rc_len (by assumption) | with_reducible exact rc_sum (by assumption) | with_reducible exact rc_abs | with_reducible exact isi_listL (by assumption) | with_reducible exact isi_intI | with_reducible exact isi_boolI | with_reducible exact rc_lenT (by assumption) | with_reducible exact isi_tup (by assumption) | with_reducible exact rv_eqL (by assumption) (by assumption) | with_reducible exact rv_neL (by assumption) (by assumption) | with_reducible exact rv_neT (by assumption) (by assumption) | with_reducible exact rv_ixL (by assumption) (by assumption) | with_reducible exact rv_ixT (by assumption) (by assumption) | with_reducible refine' ev_din ?_ ?_ (by assumption) | with_reducible refine' ev_dnotin ?_ ?_ (by assumption) | with_reducible refine' ev_dget ?_ ?_ (by assumption) (by assumption) | ((with_reducible show SpV _ _ _ _); assumption) | ((with_reducible show RV _ _ _ _ _); assumption) | ((with_reducible show RC _ _ _ _); assumption) | ((with_reducible show CDiv _ _); exact ⟨by omega, by omega⟩) | ((with_reducible show CMul _ _); first | exact .inl ⟨by omega, by omega⟩ | exact .inr ⟨by omega, by omega⟩) | ((with_reducible show CPow _ _); exact ⟨by omega, by omega, by first | decide | assumption | omega⟩) | ((with_reducible show (0 : Int) < _); omega) | ((with_reducible show (0 : Int) ≤ _); omega) | ((with_reducible show scal _ _ = true); rfl)))))) (by simp)) h1 (by simp)) fun w H2 hw e2 h2 => q _ (by simp) (by
      intro x hx
      have : ([("" : Str), "()", "(-0)", "(00)", "(036)", "(35)", "(36)", "(1000001)", "(-1000000)", "(-1)(", "((36))", S (List.replicate 61 48), S (List.replicate 60 122), "(0)", "(+40)", "(-1000001)", "( 40)", "(40 )", "(4_0)", "z0(-5)", "(40"].all fun x => decide (x.length ≤ 100)) = true := by decide +kernel
      exact of_decide_eq_true (List.all_eq_true.mp this x hx)) w H2 (fresh_back e1 hw) (e1.trans e2) h2

def optV (o : Option Int) : V := match o with
  | some x => .int x
  | none => .non
def sp_lnum : Sp := fun vs H Q E => ∃ t : List Nat, vs = [.str (S t)] ∧ t.length ≤ 40000 ∧ RetV (optV (numOf t)) H Q
theorem sc__law_number_of : FnScope ["_law_text", "_law_figures", "_law_sign", "_law_number"] ["_law_text"] (defScope s__law_number_of) := ⟨rfl, rfl, rfl, by decide +kernel, rfl, by decide +kernel, by decide +kernel⟩
theorem ok__law_number_of {P : Program} {w : World} {K : PySem.W.Frag} {mg : Str → Option Value} {base : Heap} (T : TXT K mg) : OK P w K mg base "_law_number_of" ["_law_text"] 1 (sp_lnum) := by
  obtain ⟨fd, F⟩ := T.def_ 16
  refine ⟨_, fd, T.glo 15, F.kp, F.bindsN (fun _ _ _ _ _ _ us hl => match us, hl with | [_], _ => rfl), F.ok sc__law_number_of (fun vs H Q E h => ?_) (fun cdv A outer s H vs Q E hr h => ?_), F.bindsA (fun _ _ _ _ _ _ us hl => match us, hl with | [_], _ => rfl)⟩
  · first | (obtain ⟨rfl, _⟩ := h; rfl) | (obtain ⟨_, rfl, _⟩ := h; rfl) | (obtain ⟨_, _, rfl, _⟩ := h; rfl) | (obtain ⟨_, _, _, rfl, _⟩ := h; rfl) | (obtain ⟨_, _, _, _, rfl, _⟩ := h; rfl) | (obtain ⟨_, _, _, _, _, rfl, _⟩ := h; rfl) | (obtain ⟨_, _, _, _, _, _, rfl, _⟩ := h; rfl) | (obtain ⟨_, _, _, _, _, _, _, rfl, _⟩ := h; rfl) | (obtain ⟨_, _, _, _, _, _, _, _, rfl, _⟩ := h; rfl)
  · replace F : FunD K "_law_number_of" "_law_number_of" (defArgs s__law_number_of) (defBody s__law_number_of) (defScope s__law_number_of) [] [] (He.ga K "_law_number_of") fd := F
    refine ⟨_, (pss_cons (ps_set (i := 1) sc__law_number_of.nd rfl (Or.inl rfl) (pv 0))
      (pss_cons (ps_if (pt_cmpR op_eq (pe_slice C8.sl_txt (pv 0) po_none (po_some pe_int)) pe_str (nomark _))
        (pss_one (ps_set (i := 1) sc__law_number_of.nd rfl (Or.inl rfl) (pe_slice C8.sl_txt (pv 0) (po_some pe_int) po_none)))
        pss_nil)
      (pss_cons (ps_if (PW.pt (pw_or (pt_cmpR op_eq (pv 1) pe_str (nomark _)) (pw_or (pt_cmpR op_gt (pe_callB (id := "len") call_len_str (by rfl) (T.free 33) (by decide +kernel) (pa_cons (pv 1) pa_nil)) pe_int (nomark _)) (pw_or1 (pt_val (pe_callB (id := "any") (k_any K rfl) (by rfl) (T.free 29) (by decide +kernel) (pa_cons (pe_lc (own := [("_law_sign", 2)]) (g := gName 2) (tt := tYes) rfl sc__law_number_of.nd (pi_str (pv 1)) (blkOk_by (N := ["_law_text", "_law_figures", "_law_sign", "_law_number"]) (sc := defScope s__law_number_of) (by decide +kernel)) (fun _ _ _ _ _ => pg_name (i := 2) sc__law_number_of.nd rfl (Or.inl rfl)) (fun _ _ _ _ _ => pts_nil) (fun _ _ _ _ _ => (pe_cmpR op_notIn_sign (pv 2) pe_str (by rfl)))) pa_nil)))))))
        (pss_one (ps_ret pe_non))
        pss_nil)
      (pss_cons (ps_set (i := 3) sc__law_number_of.nd rfl (Or.inl rfl) (pe_callTy (T := "int") call_int_str (by rfl) (T.free 31) (by decide +kernel) (pa_cons (pv 0) pa_nil)))
      (pss_cons (ps_if (PW.pt (pw_or (pt_cmpR op_ne (pe_callTy (T := "str") call_str_int (by rfl) (T.free 36) (by decide +kernel) (pa_cons (pv 3) pa_nil)) (pv 0) (nomark _)) (pw_or (pt_chain op_le op_le pe_int (pv 3) pe_int) (pw_or1 (pt_not (pt_chain op_le op_le (pe_un un_neg pe_int) (pv 3) pe_int))))))
        (pss_one (ps_ret pe_non))
        pss_nil)
      (pss_one (ps_ret (pv 3)))))))), ?_⟩
    obtain ⟨t, rfl, hz, q⟩ := h
    dsimp only [cxOf, L2.start, List.map_cons, List.map_nil, List.length_cons, List.length_nil, Nat.reduceAdd, Nat.reduceSub, List.replicate_succ, List.replicate_zero, List.cons_append, List.nil_append, Nat.zero_add, List.reduceReplicate, List.map]
    rw [x_minus, x_empty, figs_S]
    refine q_asg (v := .str (S t)) (by (repeat' (first | with_reducible exact ev_c | ((with_reducible show Ev (tVar _) _ _ _); exact ev_var rfl) | with_reducible exact ea_nil | with_reducible exact eo_none | with_reducible refine' ea_cons ?_ ?_ | with_reducible refine' eo_some ?_ | with_reducible refine' ev_and2 ?_ ?_ | with_reducible refine' ev_or2 ?_ ?_ | with_reducible refine' ev_notV ?_ | with_reducible exact ru_I | with_reducible refine' ev_un ?_ ?_ | with_reducible exact rv_I0 | with_reducible exact rv_isN | with_reducible exact rv_notN | with_reducible refine' rv_I ?_ | with_reducible refine' rv_eq ?_ | with_reducible refine' rv_ne ?_ | with_reducible refine' ev_op ?_ ?_ ?_ | with_reducible refine' ev_chain2 ?_ ?_ ?_ ?_ ?_ | with_reducible refine' et_B ?_ | with_reducible refine' et_test ?_ | with_reducible refine' et_and2 ?_ ?_ | with_reducible refine' et_or2 ?_ ?_ | with_reducible refine' et_not ?_ | with_reducible refine' ev_call ?_ ?_ | with_reducible refine' ev_callS ?_ ?_ | with_reducible refine' ev_cb ?_ ?_ | with_reducible exact isi_bool (by assumption) | with_reducible exact isi_int (by assumption) | with_reducible exact isi_list (by assumption) | with_reducible exact rc_len (by assumption) | with_reducible exact rc_sum (by assumption) | with_reducible exact rc_abs | with_reducible exact isi_listL (by assumption) | with_reducible exact isi_intI | with_reducible exact isi_boolI | with_reducible exact rc_lenT (by assumption) | with_reducible exact isi_tup (by assumption) | with_reducible exact rv_eqL (by assumption) (by assumption) | with_reducible exact rv_neL (by assumption) (by assumption) | with_reducible exact rv_neT (by assumption) (by assumption) | with_reducible exact rv_ixL (by assumption) (by assumption) | with_reducible exact rv_ixT (by assumption) (by assumption) | with_reducible refine' ev_din ?_ ?_ (by assumption) | with_reducible refine' ev_dnotin ?_ ?_ (by assumption) | with_reducible refine' ev_dget ?_ ?_ (by assumption) (by assumption) | ((with_reducible show SpV _ _ _ _); assumption) | ((with_reducible show RV _ _ _ _ _); assumption) | ((with_reducible show RC _ _ _ _); assumption) | ((with_reducible show CDiv _ _); exact ⟨by omega, by omega⟩) | ((with_reducible show CMul _ _); first | exact .inl ⟨by omega, by omega⟩ | exact .inr ⟨by omega, by omega⟩) | ((with_reducible show CPow _ _); exact ⟨by omega, by omega, by first | decide | assumption | omega⟩) | ((with_reducible show (0 : Int) < _); omega) | ((with_reducible show (0 : Int) ≤ _); omega) | ((with_reducible show scal _ _ = true); rfl)))) fun H1 e1 => ?_
    have fe := figsOf_eq t
    have fz : (figsOf t).length ≤ 40000 := by
      rw [fe]
      split
      · rw [List.length_tail]
        omega
      · exact hz
    have e45 : decide (V.str (S (t.take 1)) = V.str (S [45])) = decide (t.head? = some 45) := by
      rw [dec_S, decide_eq_decide]
      cases t <;> simp
    refine q_ifAsg (b := decide (V.str (S (t.take 1)) = V.str (S [45]))) (v := .str (S (figsOf t))) (et_test (ev_op (ev_slTo (l := t) (i := 1) (ev_var rfl) ev_c (by omega) (by omega)) ev_c (rv_eq rfl))) (fun h => ?_) (fun h => ?_) fun H2 e2 => ?_
    · rw [e45] at h
      rw [fe, if_pos (of_decide_eq_true h)]
      have z := ev_slFrom (σ := [some (V.str (S t)), some (V.str (S t)), none, none]) (H := H1) (te := tVar 0) (t1 := tC (.int 1)) (i := 1) (l := t) (ev_var rfl) ev_c (by omega) (by omega)
      rw [show (1 : Int).toNat = 1 from rfl, List.drop_one] at z
      exact z
    · rw [e45] at h
      rw [fe, if_neg (of_decide_eq_false h)]
      rfl
    have ls : RC (fun xs H Q => ∃ z : Str, xs = [.str z] ∧ z.length ≤ sizeLine ∧ Q (.int z.length) H) [.str (S (figsOf t))] H2 (.int ((figsOf t).length : Int)) := rc_lenS (by omega)
    dsimp only [List.set]
    have za : EvT (tB (tCB (rAny K) (tCons (tLc (iStr (tVar 1)) (gName 2) tYes (tOp (fun x y H Q => ∃ (c : Nat) (z : Str), x = V.str { cps := #[c] } ∧ y = V.str z ∧ Q (V.bl (!decide (c ∈ z.cps.toList))) H) (tVar 2) (tC (V.str (S figsL)))) [2]) tNil))) [some (V.str (S t)), some (V.str (S (figsOf t))), none, none] H2 ((figsOf t).any fun c => !(decide (48 ≤ c) && decide (c ≤ 57))) := by
      have z := el_lcS (σ := [some (V.str (S t)), some (V.str (S (figsOf t))), none, none]) (H := H2) (tl := tVar 1) (te := tOp (fun x y H Q => ∃ (c : Nat) (z : Str), x = V.str { cps := #[c] } ∧ y = V.str z ∧ Q (V.bl (!decide (c ∈ z.cps.toList))) H) (tVar 2) (tC (V.str (S figsL)))) (l := figsOf t) (j := 2) (vs := [2]) (fun c => V.bl (!(decide (48 ≤ c) && decide (c ≤ 57)))) (ev_var rfl) fz (fun _ => rfl) (fun c H3 e3 hc => ev_op (ev_var rfl) ev_c (by
        rw [← figs_mem]
        exact rv_notInS))
      have ee : (figsOf t).map (fun c => V.bl (!(decide (48 ≤ c) && decide (c ≤ 57)))) = ((figsOf t).map fun c => !(decide (48 ≤ c) && decide (c ≤ 57))).map V.bl := by
        rw [List.map_map]
        rfl
      rw [ee] at z
      refine et_B (ev_is (ev_any z) ?_)
      rw [List.any_map]
      rfl
    have hany : ((figsOf t).any fun c => !(decide (48 ≤ c) && decide (c ≤ 57))) = !((figsOf t).all fun c => decide (48 ≤ c) && decide (c ≤ 57)) := by
      rw [List.not_all_eq_any_not]
    rw [hany] at za
    have e12 := e1.trans e2
    have hb0 : figB t = (decide (1 ≤ (figsOf t).length ∧ (figsOf t).length ≤ 7) && (figsOf t).all fun c => decide (48 ≤ c) && decide (c ≤ 57)) := rfl
    have hnil : decide (V.str (S (figsOf t)) = V.str (S [])) = decide ((figsOf t).length = 0) := by
      rw [dec_S, decide_eq_decide]
      exact List.length_eq_zero_iff.symm
    refine q_when (b := !figB t) (et_is (et_or2 (a := decide (V.str (S (figsOf t)) = V.str (S []))) (by (repeat' (first | with_reducible exact ev_c | ((with_reducible show Ev (tVar _) _ _ _); exact ev_var rfl) | with_reducible exact ea_nil | with_reducible exact eo_none | with_reducible refine' ea_cons ?_ ?_ | with_reducible refine' eo_some ?_ | with_reducible refine' ev_and2 ?_ ?_ | with_reducible refine' ev_or2 ?_ ?_ | with_reducible refine' ev_notV ?_ | with_reducible exact ru_I | with_reducible refine' ev_un ?_ ?_ | with_reducible exact rv_I0 | with_reducible exact rv_isN | with_reducible exact rv_notN | with_reducible refine' rv_I ?_ | with_reducible refine' rv_eq ?_ | with_reducible refine' rv_ne ?_ | with_reducible refine' ev_op ?_ ?_ ?_ | with_reducible refine' ev_chain2 ?_ ?_ ?_ ?_ ?_ | with_reducible refine' et_B ?_ | with_reducible refine' et_test ?_ | with_reducible refine' et_and2 ?_ ?_ | with_reducible refine' et_or2 ?_ ?_ | with_reducible refine' et_not ?_ | with_reducible refine' ev_call ?_ ?_ | with_reducible refine' ev_callS ?_ ?_ | with_reducible refine' ev_cb ?_ ?_ | with_reducible exact isi_bool (by assumption) | with_reducible exact isi_int (by assumption) | with_reducible exact isi_list (by assumption) | with_reducible exact rc_len (by assumption) | with_reducible exact rc_sum (by assumption) | with_reducible exact rc_abs | with_reducible exact isi_listL (by assumption) | with_reducible exact isi_intI | with_reducible exact isi_boolI | with_reducible exact rc_lenT (by assumption) | with_reducible exact isi_tup (by assumption) | with_reducible exact rv_eqL (by assumption) (by assumption) | with_reducible exact rv_neL (by assumption) (by assumption) | with_reducible exact rv_neT (by assumption) (by assumption) | with_reducible exact rv_ixL (by assumption) (by assumption) | with_reducible exact rv_ixT (by assumption) (by assumption) | with_reducible refine' ev_din ?_ ?_ (by assumption) | with_reducible refine' ev_dnotin ?_ ?_ (by assumption) | with_reducible refine' ev_dget ?_ ?_ (by assumption) (by assumption) | ((with_reducible show SpV _ _ _ _); assumption) | ((with_reducible show RV _ _ _ _ _); assumption) | ((with_reducible show RC _ _ _ _); assumption) | ((with_reducible show CDiv _ _); exact ⟨by omega, by omega⟩) | ((with_reducible show CMul _ _); first | exact .inl ⟨by omega, by omega⟩ | exact .inr ⟨by omega, by omega⟩) | ((with_reducible show CPow _ _); exact ⟨by omega, by omega, by first | decide | assumption | omega⟩) | ((with_reducible show (0 : Int) < _); omega) | ((with_reducible show (0 : Int) ≤ _); omega) | ((with_reducible show scal _ _ = true); rfl)))) (et_or2 (a := decide ((7 : Int) < ((figsOf t).length : Int))) (by (repeat' (first | with_reducible exact ev_c | ((with_reducible show Ev (tVar _) _ _ _); exact ev_var rfl) | with_reducible exact ea_nil | with_reducible exact eo_none | with_reducible refine' ea_cons ?_ ?_ | with_reducible refine' eo_some ?_ | with_reducible refine' ev_and2 ?_ ?_ | with_reducible refine' ev_or2 ?_ ?_ | with_reducible refine' ev_notV ?_ | with_reducible exact ru_I | with_reducible refine' ev_un ?_ ?_ | with_reducible exact rv_I0 | with_reducible exact rv_isN | with_reducible exact rv_notN | with_reducible refine' rv_I ?_ | with_reducible refine' rv_eq ?_ | with_reducible refine' rv_ne ?_ | with_reducible refine' ev_op ?_ ?_ ?_ | with_reducible refine' ev_chain2 ?_ ?_ ?_ ?_ ?_ | with_reducible refine' et_B ?_ | with_reducible refine' et_test ?_ | with_reducible refine' et_and2 ?_ ?_ | with_reducible refine' et_or2 ?_ ?_ | with_reducible refine' et_not ?_ | with_reducible refine' ev_call ?_ ?_ | with_reducible refine' ev_callS ?_ ?_ | with_reducible refine' ev_cb ?_ ?_ | with_reducible exact isi_bool (by assumption) | with_reducible exact isi_int (by assumption) | with_reducible exact isi_list (by assumption) | with_reducible exact rc_len (by assumption) | with_reducible exact rc_sum (by assumption) | with_reducible exact rc_abs | with_reducible exact isi_listL (by assumption) | with_reducible exact isi_intI | with_reducible exact isi_boolI | with_reducible exact rc_lenT (by assumption) | with_reducible exact isi_tup (by assumption) | with_reducible exact rv_eqL (by assumption) (by assumption) | with_reducible exact rv_neL (by assumption) (by assumption) | with_reducible exact rv_neT (by assumption) (by assumption) | with_reducible exact rv_ixL (by assumption) (by assumption) | with_reducible exact rv_ixT (by assumption) (by assumption) | with_reducible refine' ev_din ?_ ?_ (by assumption) | with_reducible refine' ev_dnotin ?_ ?_ (by assumption) | with_reducible refine' ev_dget ?_ ?_ (by assumption) (by assumption) | ((with_reducible show SpV _ _ _ _); assumption) | ((with_reducible show RV _ _ _ _ _); assumption) | ((with_reducible show RC _ _ _ _); assumption) | ((with_reducible show CDiv _ _); exact ⟨by omega, by omega⟩) | ((with_reducible show CMul _ _); first | exact .inl ⟨by omega, by omega⟩ | exact .inr ⟨by omega, by omega⟩) | ((with_reducible show CPow _ _); exact ⟨by omega, by omega, by first | decide | assumption | omega⟩) | ((with_reducible show (0 : Int) < _); omega) | ((with_reducible show (0 : Int) ≤ _); omega) | ((with_reducible show scal _ _ = true); rfl)))) za)) (by
      rw [hb0, hnil, Bool.not_and]
      rw [← Bool.or_assoc]
      congr 1
      by_cases c : 1 ≤ (figsOf t).length ∧ (figsOf t).length ≤ 7
      · rw [decide_eq_true c, decide_eq_false (show ¬ (figsOf t).length = 0 by omega), decide_eq_false (show ¬ (7 : Int) < ((figsOf t).length : Int) by omega)]
        rfl
      · rw [decide_eq_false c]
        by_cases c2 : (figsOf t).length = 0
        · rw [decide_eq_true c2]
          rfl
        · rw [decide_eq_true (show (7 : Int) < ((figsOf t).length : Int) by omega), Bool.or_true]
          rfl)) (fun h H3 e3 => ?_) (fun h H3 e3 => ?_)
    · rw [Bool.not_eq_true'] at h
      have hno : numOf t = none := by
        unfold numOf numOk
        rw [h]
        rfl
      rw [hno] at q
      exact s_ret (v := .non) ev_c fun H4 e4 => q H4 ((e12.trans e3).trans e4)
    rw [Bool.not_eq_false'] at h
    have nl := num_law h
    have ri := rc_intS (H := H3) h
    refine q_asg (v := .int (valOf t)) (by (repeat' (first | with_reducible exact ev_c | ((with_reducible show Ev (tVar _) _ _ _); exact ev_var rfl) | with_reducible exact ea_nil | with_reducible exact eo_none | with_reducible refine' ea_cons ?_ ?_ | with_reducible refine' eo_some ?_ | with_reducible refine' ev_and2 ?_ ?_ | with_reducible refine' ev_or2 ?_ ?_ | with_reducible refine' ev_notV ?_ | with_reducible exact ru_I | with_reducible refine' ev_un ?_ ?_ | with_reducible exact rv_I0 | with_reducible exact rv_isN | with_reducible exact rv_notN | with_reducible refine' rv_I ?_ | with_reducible refine' rv_eq ?_ | with_reducible refine' rv_ne ?_ | with_reducible refine' ev_op ?_ ?_ ?_ | with_reducible refine' ev_chain2 ?_ ?_ ?_ ?_ ?_ | with_reducible refine' et_B ?_ | with_reducible refine' et_test ?_ | with_reducible refine' et_and2 ?_ ?_ | with_reducible refine' et_or2 ?_ ?_ | with_reducible refine' et_not ?_ | with_reducible refine' ev_call ?_ ?_ | with_reducible refine' ev_callS ?_ ?_ | with_reducible refine' ev_cb ?_ ?_ | with_reducible exact isi_bool (by assumption) | with_reducible exact isi_int (by assumption) | with_reducible exact isi_list (by assumption) | with_reducible exact rc_len (by assumption) | with_reducible exact rc_sum (by assumption) | with_reducible exact rc_abs | with_reducible exact isi_listL (by assumption) | with_reducible exact isi_intI | with_reducible exact isi_boolI | with_reducible exact rc_lenT (by assumption) | with_reducible exact isi_tup (by assumption) | with_reducible exact rv_eqL (by assumption) (by assumption) | with_reducible exact rv_neL (by assumption) (by assumption) | with_reducible exact rv_neT (by assumption) (by assumption) | with_reducible exact rv_ixL (by assumption) (by assumption) | with_reducible exact rv_ixT (by assumption) (by assumption) | with_reducible refine' ev_din ?_ ?_ (by assumption) | with_reducible refine' ev_dnotin ?_ ?_ (by assumption) | with_reducible refine' ev_dget ?_ ?_ (by assumption) (by assumption) | ((with_reducible show SpV _ _ _ _); assumption) | ((with_reducible show RV _ _ _ _ _); assumption) | ((with_reducible show RC _ _ _ _); assumption) | ((with_reducible show CDiv _ _); exact ⟨by omega, by omega⟩) | ((with_reducible show CMul _ _); first | exact .inl ⟨by omega, by omega⟩ | exact .inr ⟨by omega, by omega⟩) | ((with_reducible show CPow _ _); exact ⟨by omega, by omega, by first | decide | assumption | omega⟩) | ((with_reducible show (0 : Int) < _); omega) | ((with_reducible show (0 : Int) ≤ _); omega) | ((with_reducible show scal _ _ = true); rfl)))) fun H4 e4 => ?_
    have e04 := (e12.trans e3).trans e4
    obtain ⟨g1, g2, g3⟩ := figB_iff.mp h
    have vb : (valOf t).natAbs < 2 ^ 64 := by
      have hd := digits_lt _ g3
      have hp : (10 : Nat) ^ (figsOf t).length ≤ 10 ^ 7 := Nat.pow_le_pow_right (by decide) g2
      unfold valOf
      split <;> omega
    have si := rc_strI (H := H4) vb
    have sd : (!decide (V.str (S (strL (valOf t))) = V.str (S t)) || ((decide (0 ≤ valOf t) && decide (valOf t ≤ 35)) || !(decide (-1000000 ≤ valOf t) && decide (valOf t ≤ 1000000)))) = !numOk t := by
      rw [nl, dec_S]
      by_cases c1 : strL (valOf t) = t <;> by_cases c2 : 0 ≤ valOf t ∧ valOf t ≤ 35 <;> by_cases c3 : -1000000 ≤ valOf t ∧ valOf t ≤ 1000000 <;> simp [c1, c2, c3] <;> omega
    refine q_when (b := !numOk t) (et_is (by (repeat' (first | with_reducible exact ev_c | ((with_reducible show Ev (tVar _) _ _ _); exact ev_var rfl) | with_reducible exact ea_nil | with_reducible exact eo_none | with_reducible refine' ea_cons ?_ ?_ | with_reducible refine' eo_some ?_ | with_reducible refine' ev_and2 ?_ ?_ | with_reducible refine' ev_or2 ?_ ?_ | with_reducible refine' ev_notV ?_ | with_reducible exact ru_I | with_reducible refine' ev_un ?_ ?_ | with_reducible exact rv_I0 | with_reducible exact rv_isN | with_reducible exact rv_notN | with_reducible refine' rv_I ?_ | with_reducible refine' rv_eq ?_ | with_reducible refine' rv_ne ?_ | with_reducible refine' ev_op ?_ ?_ ?_ | with_reducible refine' ev_chain2 ?_ ?_ ?_ ?_ ?_ | with_reducible refine' et_B ?_ | with_reducible refine' et_test ?_ | with_reducible refine' et_and2 ?_ ?_ | with_reducible refine' et_or2 ?_ ?_ | with_reducible refine' et_not ?_ | with_reducible refine' ev_call ?_ ?_ | with_reducible refine' ev_callS ?_ ?_ | with_reducible refine' ev_cb ?_ ?_ | with_reducible exact isi_bool (by assumption) | with_reducible exact isi_int (by assumption) | with_reducible exact isi_list (by assumption) | with_reducible exact rc_len (by assumption) | with_reducible exact rc_sum (by assumption) | with_reducible exact rc_abs | with_reducible exact isi_listL (by assumption) | with_reducible exact isi_intI | with_reducible exact isi_boolI | with_reducible exact rc_lenT (by assumption) | with_reducible exact isi_tup (by assumption) | with_reducible exact rv_eqL (by assumption) (by assumption) | with_reducible exact rv_neL (by assumption) (by assumption) | with_reducible exact rv_neT (by assumption) (by assumption) | with_reducible exact rv_ixL (by assumption) (by assumption) | with_reducible exact rv_ixT (by assumption) (by assumption) | with_reducible refine' ev_din ?_ ?_ (by assumption) | with_reducible refine' ev_dnotin ?_ ?_ (by assumption) | with_reducible refine' ev_dget ?_ ?_ (by assumption) (by assumption) | ((with_reducible show SpV _ _ _ _); assumption) | ((with_reducible show RV _ _ _ _ _); assumption) | ((with_reducible show RC _ _ _ _); assumption) | ((with_reducible show CDiv _ _); exact ⟨by omega, by omega⟩) | ((with_reducible show CMul _ _); first | exact .inl ⟨by omega, by omega⟩ | exact .inr ⟨by omega, by omega⟩) | ((with_reducible show CPow _ _); exact ⟨by omega, by omega, by first | decide | assumption | omega⟩) | ((with_reducible show (0 : Int) < _); omega) | ((with_reducible show (0 : Int) ≤ _); omega) | ((with_reducible show scal _ _ = true); rfl)))) sd) (fun hn H5 e5 => ?_) (fun hn H5 e5 => ?_)
    · rw [Bool.not_eq_true'] at hn
      have hno : numOf t = none := by
        unfold numOf
        rw [hn]
        rfl
      rw [hno] at q
      exact s_ret (v := .non) ev_c fun H6 e6 => q H6 ((e04.trans e5).trans e6)
    · rw [Bool.not_eq_false'] at hn
      have hno : numOf t = some (valOf t) := by
        unfold numOf
        rw [if_pos hn]
      rw [hno] at q
      exact s_ret (by (repeat' (first | with_reducible exact ev_c | ((with_reducible show Ev (tVar _) _ _ _); exact ev_var rfl) | with_reducible exact ea_nil | with_reducible exact eo_none | with_reducible refine' ea_cons ?_ ?_ | with_reducible refine' eo_some ?_ | with_reducible refine' ev_and2 ?_ ?_ | with_reducible refine' ev_or2 ?_ ?_ | with_reducible refine' ev_notV ?_ | with_reducible exact ru_I | with_reducible refine' ev_un ?_ ?_ | with_reducible exact rv_I0 | with_reducible exact rv_isN | with_reducible exact rv_notN | with_reducible refine' rv_I ?_ | with_reducible refine' rv_eq ?_ | with_reducible refine' rv_ne ?_ | with_reducible refine' ev_op ?_ ?_ ?_ | with_reducible refine' ev_chain2 ?_ ?_ ?_ ?_ ?_ | with_reducible refine' et_B ?_ | with_reducible refine' et_test ?_ | with_reducible refine' et_and2 ?_ ?_ | with_reducible refine' et_or2 ?_ ?_ | with_reducible refine' et_not ?_ | with_reducible refine' ev_call ?_ ?_ | with_reducible refine' ev_callS ?_ ?_ | with_reducible refine' ev_cb ?_ ?_ | with_reducible exact isi_bool (by assumption) | with_reducible exact isi_int (by assumption) | with_reducible exact isi_list (by assumption) | with_reducible exact rc_len (by assumption) | with_reducible exact rc_sum (by assumption) | with_reducible exact rc_abs | with_reducible exact isi_listL (by assumption) | with_reducible exact isi_intI | with_reducible exact isi_boolI | with_reducible exact rc_lenT (by assumption) | with_reducible exact isi_tup (by assumption) | with_reducible exact rv_eqL (by assumption) (by assumption) | with_reducible exact rv_neL (by assumption) (by assumption) | with_reducible exact rv_neT (by assumption) (by assumption) | with_reducible exact rv_ixL (by assumption) (by assumption) | with_reducible exact rv_ixT (by assumption) (by assumption) | with_reducible refine' ev_din ?_ ?_ (by assumption) | with_reducible refine' ev_dnotin ?_ ?_ (by assumption) | with_reducible refine' ev_dget ?_ ?_ (by assumption) (by assumption) | ((with_reducible show SpV _ _ _ _); assumption) | ((with_reducible show RV _ _ _ _ _); assumption) | ((with_reducible show RC _ _ _ _); assumption) | ((with_reducible show CDiv _ _); exact ⟨by omega, by omega⟩) | ((with_reducible show CMul _ _); first | exact .inl ⟨by omega, by omega⟩ | exact .inr ⟨by omega, by omega⟩) | ((with_reducible show CPow _ _); exact ⟨by omega, by omega, by first | decide | assumption | omega⟩) | ((with_reducible show (0 : Int) < _); omega) | ((with_reducible show (0 : Int) ≤ _); omega) | ((with_reducible show scal _ _ = true); rfl)))) fun H6 e6 => q H6 ((e04.trans e5).trans e6)

theorem slice_mid {a : List Nat} {i j : Nat} (h1 : i ≤ j) (h2 : j ≤ a.length) : Txt.slice (S a) (some (i : Int)) (some (j : Int)) = S ((a.drop i).take (j - i)) := by
  rw [← C8.cutS_slice]
  unfold cutS
  have e1 : HT.sIx (S a).length 0 (some (i : Int)) = i := by
    show (if (i : Int) < 0 then ((i : Int) + ((S a).length : Int)).toNat else min (i : Int).toNat (S a).length) = i
    rw [if_neg (by omega), S_len]
    omega
  have e2 : HT.sIx (S a).length (S a).length (some (j : Int)) = j := by
    show (if (j : Int) < 0 then ((j : Int) + ((S a).length : Int)).toNat else min (j : Int).toNat (S a).length) = j
    rw [if_neg (by omega), S_len]
    omega
  rw [e1, e2]
def rowRe (t : List Nat) : Re := match readOf t with
  | some ns => .lst (ns.map V.int)
  | none => .val .non
def sp_lrow (K : PySem.W.Frag) : Sp := fun vs H Q E => ∃ t : List Nat, vs = [.str (S t)] ∧ t.length ≤ 40000 ∧ Give K (rowRe t) H Q E
theorem sc__law_row_of : FnScope ["_law_text", "_law_signs", "_law_row", "_law_left", "_law_end"] ["_law_text"] (defScope s__law_row_of) := ⟨rfl, rfl, rfl, by decide +kernel, rfl, by decide +kernel, by decide +kernel⟩
theorem ok__law_row_of {P : Program} {w : World} {K : PySem.W.Frag} {mg : Str → Option Value} {base : Heap} (T : TXT K mg) : OK P w K mg base "_law_row_of" ["_law_text"] 2 (sp_lrow K) := by
  have O__law_number_of := ok__law_number_of (P := P) (w := w) (base := base) T
  obtain ⟨fd, F⟩ := T.def_ 17
  refine ⟨_, fd, T.glo 16, F.kp, F.bindsN (fun _ _ _ _ _ _ us hl => match us, hl with | [_], _ => rfl), F.ok sc__law_row_of (fun vs H Q E h => ?_) (fun cdv A outer s H vs Q E hr h => ?_), F.bindsA (fun _ _ _ _ _ _ us hl => match us, hl with | [_], _ => rfl)⟩
  · first | (obtain ⟨rfl, _⟩ := h; rfl) | (obtain ⟨_, rfl, _⟩ := h; rfl) | (obtain ⟨_, _, rfl, _⟩ := h; rfl) | (obtain ⟨_, _, _, rfl, _⟩ := h; rfl) | (obtain ⟨_, _, _, _, rfl, _⟩ := h; rfl) | (obtain ⟨_, _, _, _, _, rfl, _⟩ := h; rfl) | (obtain ⟨_, _, _, _, _, _, rfl, _⟩ := h; rfl) | (obtain ⟨_, _, _, _, _, _, _, rfl, _⟩ := h; rfl) | (obtain ⟨_, _, _, _, _, _, _, _, rfl, _⟩ := h; rfl)
  · replace F : FunD K "_law_row_of" "_law_row_of" (defArgs s__law_row_of) (defBody s__law_row_of) (defScope s__law_row_of) [] [] (He.ga K "_law_row_of") fd := F
    refine ⟨_, (pss_cons (ps_set (i := 1) sc__law_row_of.nd rfl (Or.inl rfl) pe_str)
      (pss_cons (ps_set (i := 2) sc__law_row_of.nd rfl (Or.inl rfl) (pe_lst pa_nil))
      (pss_cons (ps_set (i := 3) sc__law_row_of.nd rfl (Or.inl rfl) (pv 0))
      (pss_cons (ps_while (passes_of rfl) (pt_cmpR op_ne (pv 3) pe_str (nomark _))
        (pss_one (ps_if (pt_cmpR op_in_sign (pe_ix ix_str (pv 3) pe_int (fun _ _ => rfl)) (pv 1) (by rfl))
        (pss_cons (ps_expr (pe_bm PySem.F.plainAttrs_list PySem.F.slot_list_append PySem.F.type_list_append mt_append (pv 2) (pa_cons (pe_m1 PySem.F.slot_str_index PySem.F.type_str_index mt_sindex (pv 1) (pe_ix ix_str (pv 3) pe_int (fun _ _ => rfl))) pa_nil)))
      (pss_one (ps_set (i := 3) sc__law_row_of.nd rfl (Or.inl rfl) (pe_slice C8.sl_txt (pv 3) (po_some pe_int) po_none))))
        (pss_cons (ps_set (i := 4) sc__law_row_of.nd rfl (Or.inl rfl) (pe_m1 PySem.F.slot_str_find PySem.F.type_str_find mt_find (pv 3) pe_str))
      (pss_cons (ps_if (PW.pt (pw_or (pt_cmpR op_ne (pe_ix ix_str (pv 3) pe_int (fun _ _ => rfl)) pe_str (nomark _)) (pw_or (pt_cmpR op_lt (pv 4) pe_int (nomark _)) (pw_or1 (pt_cmpR op_isN (pe_own O__law_number_of (hr.mono (by decide)) (by rfl) (passes_call (takes_of rfl rfl rfl rfl) (fun _ _ _ _ h => h)) (pa_cons (pe_slice C8.sl_txt (pv 3) (po_some pe_int) (po_some (pv 4))) pa_nil)) pe_non (nomark _))))))
        (pss_one (ps_ret pe_non))
        pss_nil)
      (pss_cons (ps_expr (pe_bm PySem.F.plainAttrs_list PySem.F.slot_list_append PySem.F.type_list_append mt_append (pv 2) (pa_cons (pe_own O__law_number_of (hr.mono (by decide)) (by rfl) (passes_call (takes_of rfl rfl rfl rfl) (fun _ _ _ _ h => h)) (pa_cons (pe_slice C8.sl_txt (pv 3) (po_some pe_int) (po_some (pv 4))) pa_nil)) pa_nil)))
      (pss_one (ps_set (i := 3) sc__law_row_of.nd rfl (Or.inl rfl) (pe_slice C8.sl_txt (pv 3) (po_some (pe_op op_add (pv 4) pe_int)) po_none)))))))))
      (pss_cons (ps_if (pt_not (pt_chain op_le op_le pe_int (pe_callB (id := "len") (k_len K) (by rfl) (T.free 33) (by decide +kernel) (pa_cons (pv 2) pa_nil)) pe_int))
        (pss_one (ps_ret pe_non))
        pss_nil)
      (pss_one (ps_ret (pv 2)))))))), ?_⟩
    obtain ⟨t, rfl, hz, q⟩ := h
    dsimp only [cxOf, L2.start, List.map_cons, List.map_nil, List.length_cons, List.length_nil, Nat.reduceAdd, Nat.reduceSub, List.replicate_succ, List.replicate_zero, List.cons_append, List.nil_append, Nat.zero_add, List.reduceReplicate, List.map]
    rw [x_empty, x_open, x_close, signs_S]
    have qerr : parse t.length [] t = none → ∀ H9, Ex H H9 → Q .non H9 := fun hn H9 e9 => by
      unfold rowRe readOf at q
      rw [hn] at q
      exact q H9 e9
    refine q_asg (v := .str (S signsL)) (by (repeat' (first | with_reducible exact ev_c | ((with_reducible show Ev (tVar _) _ _ _); exact ev_var rfl) | with_reducible exact ea_nil | with_reducible exact eo_none | with_reducible refine' ea_cons ?_ ?_ | with_reducible refine' eo_some ?_ | with_reducible refine' ev_and2 ?_ ?_ | with_reducible refine' ev_or2 ?_ ?_ | with_reducible refine' ev_notV ?_ | with_reducible exact ru_I | with_reducible refine' ev_un ?_ ?_ | with_reducible exact rv_I0 | with_reducible exact rv_isN | with_reducible exact rv_notN | with_reducible refine' rv_I ?_ | with_reducible refine' rv_eq ?_ | with_reducible refine' rv_ne ?_ | with_reducible refine' ev_op ?_ ?_ ?_ | with_reducible refine' ev_chain2 ?_ ?_ ?_ ?_ ?_ | with_reducible refine' et_B ?_ | with_reducible refine' et_test ?_ | with_reducible refine' et_and2 ?_ ?_ | with_reducible refine' et_or2 ?_ ?_ | with_reducible refine' et_not ?_ | with_reducible refine' ev_call ?_ ?_ | with_reducible refine' ev_callS ?_ ?_ | with_reducible refine' ev_cb ?_ ?_ | with_reducible exact isi_bool (by assumption) | with_reducible exact isi_int (by assumption) | with_reducible exact isi_list (by assumption) | with_reducible exact rc_len (by assumption) | with_reducible exact rc_sum (by assumption) | with_reducible exact rc_abs | with_reducible exact isi_listL (by assumption) | with_reducible exact isi_intI | with_reducible exact isi_boolI | with_reducible exact rc_lenT (by assumption) | with_reducible exact isi_tup (by assumption) | with_reducible exact rv_eqL (by assumption) (by assumption) | with_reducible exact rv_neL (by assumption) (by assumption) | with_reducible exact rv_neT (by assumption) (by assumption) | with_reducible exact rv_ixL (by assumption) (by assumption) | with_reducible exact rv_ixT (by assumption) (by assumption) | with_reducible refine' ev_din ?_ ?_ (by assumption) | with_reducible refine' ev_dnotin ?_ ?_ (by assumption) | with_reducible refine' ev_dget ?_ ?_ (by assumption) (by assumption) | ((with_reducible show SpV _ _ _ _); assumption) | ((with_reducible show RV _ _ _ _ _); assumption) | ((with_reducible show RC _ _ _ _); assumption) | ((with_reducible show CDiv _ _); exact ⟨by omega, by omega⟩) | ((with_reducible show CMul _ _); first | exact .inl ⟨by omega, by omega⟩ | exact .inr ⟨by omega, by omega⟩) | ((with_reducible show CPow _ _); exact ⟨by omega, by omega, by first | decide | assumption | omega⟩) | ((with_reducible show (0 : Int) < _); omega) | ((with_reducible show (0 : Int) ≤ _); omega) | ((with_reducible show scal _ _ = true); rfl)))) fun H1 e1 => ?_
    refine q_asgL (xs := []) (el_lst ea_nil (by decide)) fun l H2 hl e2 h2 => ?_
    have hl0 : H l = none := fresh_back e1 hl
    refine q_asg (v := .str (S t)) (by (repeat' (first | with_reducible exact ev_c | ((with_reducible show Ev (tVar _) _ _ _); exact ev_var rfl) | with_reducible exact ea_nil | with_reducible exact eo_none | with_reducible refine' ea_cons ?_ ?_ | with_reducible refine' eo_some ?_ | with_reducible refine' ev_and2 ?_ ?_ | with_reducible refine' ev_or2 ?_ ?_ | with_reducible refine' ev_notV ?_ | with_reducible exact ru_I | with_reducible refine' ev_un ?_ ?_ | with_reducible exact rv_I0 | with_reducible exact rv_isN | with_reducible exact rv_notN | with_reducible refine' rv_I ?_ | with_reducible refine' rv_eq ?_ | with_reducible refine' rv_ne ?_ | with_reducible refine' ev_op ?_ ?_ ?_ | with_reducible refine' ev_chain2 ?_ ?_ ?_ ?_ ?_ | with_reducible refine' et_B ?_ | with_reducible refine' et_test ?_ | with_reducible refine' et_and2 ?_ ?_ | with_reducible refine' et_or2 ?_ ?_ | with_reducible refine' et_not ?_ | with_reducible refine' ev_call ?_ ?_ | with_reducible refine' ev_callS ?_ ?_ | with_reducible refine' ev_cb ?_ ?_ | with_reducible exact isi_bool (by assumption) | with_reducible exact isi_int (by assumption) | with_reducible exact isi_list (by assumption) | with_reducible exact rc_len (by assumption) | with_reducible exact rc_sum (by assumption) | with_reducible exact rc_abs | with_reducible exact isi_listL (by assumption) | with_reducible exact isi_intI | with_reducible exact isi_boolI | with_reducible exact rc_lenT (by assumption) | with_reducible exact isi_tup (by assumption) | with_reducible exact rv_eqL (by assumption) (by assumption) | with_reducible exact rv_neL (by assumption) (by assumption) | with_reducible exact rv_neT (by assumption) (by assumption) | with_reducible exact rv_ixL (by assumption) (by assumption) | with_reducible exact rv_ixT (by assumption) (by assumption) | with_reducible refine' ev_din ?_ ?_ (by assumption) | with_reducible refine' ev_dnotin ?_ ?_ (by assumption) | with_reducible refine' ev_dget ?_ ?_ (by assumption) (by assumption) | ((with_reducible show SpV _ _ _ _); assumption) | ((with_reducible show RV _ _ _ _ _); assumption) | ((with_reducible show RC _ _ _ _); assumption) | ((with_reducible show CDiv _ _); exact ⟨by omega, by omega⟩) | ((with_reducible show CMul _ _); first | exact .inl ⟨by omega, by omega⟩ | exact .inr ⟨by omega, by omega⟩) | ((with_reducible show CPow _ _); exact ⟨by omega, by omega, by first | decide | assumption | omega⟩) | ((with_reducible show (0 : Int) < _); omega) | ((with_reducible show (0 : Int) ≤ _); omega) | ((with_reducible show scal _ _ = true); rfl)))) fun H3 e3 => ?_
    refine q_while (fun m σ' H' => ∃ (acc : List Int) (left : List Nat) (y4 : Option V), σ' = [some (V.str (S t)), some (V.str (S signsL)), some (V.ref l), some (V.str (S left)), y4] ∧ Ex H1 H' ∧ H' l = some (.lst (acc.map V.int)) ∧ (∃ n, left.length ≤ n ∧ parse n acc left = parse t.length [] t) ∧ acc.length + left.length ≤ t.length ∧ m = left.length) t.length ⟨[], t, _, rfl, e2.trans e3, e3 _ _ h2, ⟨_, Nat.le_refl _, rfl⟩, by simp, rfl⟩ ?_
    rintro m σ' H4 ⟨acc, left, y4, rfl, e4, h4, ⟨n, hn, hp⟩, hsz, rfl⟩
    refine ⟨!decide (V.str (S left) = V.str (S [])), by (repeat' (first | with_reducible exact ev_c | ((with_reducible show Ev (tVar _) _ _ _); exact ev_var rfl) | with_reducible exact ea_nil | with_reducible exact eo_none | with_reducible refine' ea_cons ?_ ?_ | with_reducible refine' eo_some ?_ | with_reducible refine' ev_and2 ?_ ?_ | with_reducible refine' ev_or2 ?_ ?_ | with_reducible refine' ev_notV ?_ | with_reducible exact ru_I | with_reducible refine' ev_un ?_ ?_ | with_reducible exact rv_I0 | with_reducible exact rv_isN | with_reducible exact rv_notN | with_reducible refine' rv_I ?_ | with_reducible refine' rv_eq ?_ | with_reducible refine' rv_ne ?_ | with_reducible refine' ev_op ?_ ?_ ?_ | with_reducible refine' ev_chain2 ?_ ?_ ?_ ?_ ?_ | with_reducible refine' et_B ?_ | with_reducible refine' et_test ?_ | with_reducible refine' et_and2 ?_ ?_ | with_reducible refine' et_or2 ?_ ?_ | with_reducible refine' et_not ?_ | with_reducible refine' ev_call ?_ ?_ | with_reducible refine' ev_callS ?_ ?_ | with_reducible refine' ev_cb ?_ ?_ | with_reducible exact isi_bool (by assumption) | with_reducible exact isi_int (by assumption) | with_reducible exact isi_list (by assumption) | with_reducible exact rc_len (by assumption) | with_reducible exact rc_sum (by assumption) | with_reducible exact rc_abs | with_reducible exact isi_listL (by assumption) | with_reducible exact isi_intI | with_reducible exact isi_boolI | with_reducible exact rc_lenT (by assumption) | with_reducible exact isi_tup (by assumption) | with_reducible exact rv_eqL (by assumption) (by assumption) | with_reducible exact rv_neL (by assumption) (by assumption) | with_reducible exact rv_neT (by assumption) (by assumption) | with_reducible exact rv_ixL (by assumption) (by assumption) | with_reducible exact rv_ixT (by assumption) (by assumption) | with_reducible refine' ev_din ?_ ?_ (by assumption) | with_reducible refine' ev_dnotin ?_ ?_ (by assumption) | with_reducible refine' ev_dget ?_ ?_ (by assumption) (by assumption) | ((with_reducible show SpV _ _ _ _); assumption) | ((with_reducible show RV _ _ _ _ _); assumption) | ((with_reducible show RC _ _ _ _); assumption) | ((with_reducible show CDiv _ _); exact ⟨by omega, by omega⟩) | ((with_reducible show CMul _ _); first | exact .inl ⟨by omega, by omega⟩ | exact .inr ⟨by omega, by omega⟩) | ((with_reducible show CPow _ _); exact ⟨by omega, by omega, by first | decide | assumption | omega⟩) | ((with_reducible show (0 : Int) < _); omega) | ((with_reducible show (0 : Int) ≤ _); omega) | ((with_reducible show scal _ _ = true); rfl))), fun hb H5 e5 => ?_, fun hb H5 e5 => ?_⟩
    case refine_2 =>
      rw [Bool.not_eq_false', dec_S, decide_eq_true_iff] at hb
      subst hb
      rw [parse_nil] at hp
      have h5 := e5 _ _ h4
      have s5 := sq_of (K := K) h5
      have ll : (acc.map V.int).length = acc.length := List.length_map ..
      refine q_when (b := !(decide ((1 : Int) ≤ ((acc.map V.int).length : Int)) && decide (((acc.map V.int).length : Int) ≤ 60))) (by (repeat' (first | with_reducible exact ev_c | ((with_reducible show Ev (tVar _) _ _ _); exact ev_var rfl) | with_reducible exact ea_nil | with_reducible exact eo_none | with_reducible refine' ea_cons ?_ ?_ | with_reducible refine' eo_some ?_ | with_reducible refine' ev_and2 ?_ ?_ | with_reducible refine' ev_or2 ?_ ?_ | with_reducible refine' ev_notV ?_ | with_reducible exact ru_I | with_reducible refine' ev_un ?_ ?_ | with_reducible exact rv_I0 | with_reducible exact rv_isN | with_reducible exact rv_notN | with_reducible refine' rv_I ?_ | with_reducible refine' rv_eq ?_ | with_reducible refine' rv_ne ?_ | with_reducible refine' ev_op ?_ ?_ ?_ | with_reducible refine' ev_chain2 ?_ ?_ ?_ ?_ ?_ | with_reducible refine' et_B ?_ | with_reducible refine' et_test ?_ | with_reducible refine' et_and2 ?_ ?_ | with_reducible refine' et_or2 ?_ ?_ | with_reducible refine' et_not ?_ | with_reducible refine' ev_call ?_ ?_ | with_reducible refine' ev_callS ?_ ?_ | with_reducible refine' ev_cb ?_ ?_ | with_reducible exact isi_bool (by assumption) | with_reducible exact isi_int (by assumption) | with_reducible exact isi_list (by assumption) | with_reducible exact rc_len (by assumption) | with_reducible exact rc_sum (by assumption) | with_reducible exact rc_abs | with_reducible exact isi_listL (by assumption) | with_reducible exact isi_intI | with_reducible exact isi_boolI | with_reducible exact rc_lenT (by assumption) | with_reducible exact isi_tup (by assumption) | with_reducible exact rv_eqL (by assumption) (by assumption) | with_reducible exact rv_neL (by assumption) (by assumption) | with_reducible exact rv_neT (by assumption) (by assumption) | with_reducible exact rv_ixL (by assumption) (by assumption) | with_reducible exact rv_ixT (by assumption) (by assumption) | with_reducible refine' ev_din ?_ ?_ (by assumption) | with_reducible refine' ev_dnotin ?_ ?_ (by assumption) | with_reducible refine' ev_dget ?_ ?_ (by assumption) (by assumption) | ((with_reducible show SpV _ _ _ _); assumption) | ((with_reducible show RV _ _ _ _ _); assumption) | ((with_reducible show RC _ _ _ _); assumption) | ((with_reducible show CDiv _ _); exact ⟨by omega, by omega⟩) | ((with_reducible show CMul _ _); first | exact .inl ⟨by omega, by omega⟩ | exact .inr ⟨by omega, by omega⟩) | ((with_reducible show CPow _ _); exact ⟨by omega, by omega, by first | decide | assumption | omega⟩) | ((with_reducible show (0 : Int) < _); omega) | ((with_reducible show (0 : Int) ≤ _); omega) | ((with_reducible show scal _ _ = true); rfl)))) (fun h H6 e6 => ?_) (fun h H6 e6 => ?_)
      · rw [ll, Bool.not_eq_true', Bool.and_eq_false_iff, decide_eq_false_iff_not, decide_eq_false_iff_not] at h
        unfold rowRe readOf at q
        rw [← hp] at q
        dsimp only at q
        rw [if_neg (by omega)] at q
        exact s_ret (v := .non) ev_c fun H7 e7 => q H7 ((((e1.trans e4).trans e5).trans e6).trans e7)
      · rw [ll, Bool.not_eq_false', Bool.and_eq_true, decide_eq_true_iff, decide_eq_true_iff] at h
        unfold rowRe readOf at q
        rw [← hp] at q
        dsimp only at q
        rw [if_pos (by omega)] at q
        exact s_ret (v := .ref l) (by (repeat' (first | with_reducible exact ev_c | ((with_reducible show Ev (tVar _) _ _ _); exact ev_var rfl) | with_reducible exact ea_nil | with_reducible exact eo_none | with_reducible refine' ea_cons ?_ ?_ | with_reducible refine' eo_some ?_ | with_reducible refine' ev_and2 ?_ ?_ | with_reducible refine' ev_or2 ?_ ?_ | with_reducible refine' ev_notV ?_ | with_reducible exact ru_I | with_reducible refine' ev_un ?_ ?_ | with_reducible exact rv_I0 | with_reducible exact rv_isN | with_reducible exact rv_notN | with_reducible refine' rv_I ?_ | with_reducible refine' rv_eq ?_ | with_reducible refine' rv_ne ?_ | with_reducible refine' ev_op ?_ ?_ ?_ | with_reducible refine' ev_chain2 ?_ ?_ ?_ ?_ ?_ | with_reducible refine' et_B ?_ | with_reducible refine' et_test ?_ | with_reducible refine' et_and2 ?_ ?_ | with_reducible refine' et_or2 ?_ ?_ | with_reducible refine' et_not ?_ | with_reducible refine' ev_call ?_ ?_ | with_reducible refine' ev_callS ?_ ?_ | with_reducible refine' ev_cb ?_ ?_ | with_reducible exact isi_bool (by assumption) | with_reducible exact isi_int (by assumption) | with_reducible exact isi_list (by assumption) | with_reducible exact rc_len (by assumption) | with_reducible exact rc_sum (by assumption) | with_reducible exact rc_abs | with_reducible exact isi_listL (by assumption) | with_reducible exact isi_intI | with_reducible exact isi_boolI | with_reducible exact rc_lenT (by assumption) | with_reducible exact isi_tup (by assumption) | with_reducible exact rv_eqL (by assumption) (by assumption) | with_reducible exact rv_neL (by assumption) (by assumption) | with_reducible exact rv_neT (by assumption) (by assumption) | with_reducible exact rv_ixL (by assumption) (by assumption) | with_reducible exact rv_ixT (by assumption) (by assumption) | with_reducible refine' ev_din ?_ ?_ (by assumption) | with_reducible refine' ev_dnotin ?_ ?_ (by assumption) | with_reducible refine' ev_dget ?_ ?_ (by assumption) (by assumption) | ((with_reducible show SpV _ _ _ _); assumption) | ((with_reducible show RV _ _ _ _ _); assumption) | ((with_reducible show RC _ _ _ _); assumption) | ((with_reducible show CDiv _ _); exact ⟨by omega, by omega⟩) | ((with_reducible show CMul _ _); first | exact .inl ⟨by omega, by omega⟩ | exact .inr ⟨by omega, by omega⟩) | ((with_reducible show CPow _ _); exact ⟨by omega, by omega, by first | decide | assumption | omega⟩) | ((with_reducible show (0 : Int) < _); omega) | ((with_reducible show (0 : Int) ≤ _); omega) | ((with_reducible show scal _ _ = true); rfl)))) fun H7 e7 => q l H7 hl0 ((((e1.trans e4).trans e5).trans e6).trans e7) ((e6.trans e7) _ _ h5)
    rw [Bool.not_eq_true', dec_S, decide_eq_false_iff_not] at hb
    obtain ⟨c, r, rfl⟩ := List.exists_cons_of_ne_nil hb
    have lz : (c :: r).length = r.length + 1 := rfl
    obtain ⟨n, rfl⟩ : ∃ k, n = k + 1 := ⟨n - 1, by omega⟩
    have e05 := (e1.trans e4).trans e5
    have h5 := e5 _ _ h4
    have ix : ∀ (y : Option V) (H9 : Hp), Ev (tOp rIxS (tVar 3) (tC (V.int 0))) [some (V.str (S t)), some (V.str (S signsL)), some (V.ref l), some (V.str (S (c :: r))), y] H9 (.str (S [c])) := fun y H9 => ev_op (ev_var rfl) ev_c (rv_ixS (by omega) (atI_nat (show (c :: r)[0]? = some c from rfl)))
    refine ⟨fun σ2 H' => ∃ (acc : List Int) (left : List Nat) (y4 : Option V), σ2 = [some (V.str (S t)), some (V.str (S signsL)), some (V.ref l), some (V.str (S left)), y4] ∧ Ex H1 H' ∧ H' l = some (.lst (acc.map V.int)) ∧ (∃ n, left.length ≤ n ∧ parse n acc left = parse t.length [] t) ∧ acc.length + left.length ≤ t.length ∧ left.length < r.length + 1, fun σ2 H' ⟨acc, left, y4, a1, a2, a3, a4, a5, a6⟩ => ⟨left.length, a6, acc, left, y4, a1, a2, a3, a4, a5, rfl⟩, ?_⟩
    show tIfS _ _ _ _ _ _
    refine s_if (b := (sgn c).isSome) (et_is (et_test (ev_op (ix _ _) (ev_var rfl) rv_inS)) (sgn_mem c)) (fun hc H6 e6 => ?_) (fun hc H6 e6 => ?_)
    · obtain ⟨k, hk⟩ := Option.isSome_iff_exists.mp hc
      obtain ⟨k36, ks, kn⟩ := sgn_at hk
      have hpar : TL.par [c] [] signsL = some (signsL.take k, signsL.drop (k + 1)) := by
        conv => lhs; rw [ks]
        exact par_of kn
      have hlk : (signsL.take k).length = k := by
        rw [List.length_take]
        exact Nat.min_eq_left (by show k ≤ 36; omega)
      have zi := ev_sindex (t1 := tVar 1) (σ := [some (V.str (S t)), some (V.str (S signsL)), some (V.ref l), some (V.str (S (c :: r))), y4]) (H := H6) (ev_var rfl) (ix y4 H6) hpar
      rw [hlk] at zi
      have h6 := e6 _ _ h5
      refine q_app (xs := acc.map V.int) (v := .int (k : Int)) h6 (by (repeat' (first | with_reducible exact ev_c | ((with_reducible show Ev (tVar _) _ _ _); exact ev_var rfl) | with_reducible exact ea_nil | with_reducible exact eo_none | with_reducible refine' ea_cons ?_ ?_ | with_reducible refine' eo_some ?_ | with_reducible refine' ev_and2 ?_ ?_ | with_reducible refine' ev_or2 ?_ ?_ | with_reducible refine' ev_notV ?_ | with_reducible exact ru_I | with_reducible refine' ev_un ?_ ?_ | with_reducible exact rv_I0 | with_reducible exact rv_isN | with_reducible exact rv_notN | with_reducible refine' rv_I ?_ | with_reducible refine' rv_eq ?_ | with_reducible refine' rv_ne ?_ | with_reducible refine' ev_op ?_ ?_ ?_ | with_reducible refine' ev_chain2 ?_ ?_ ?_ ?_ ?_ | with_reducible refine' et_B ?_ | with_reducible refine' et_test ?_ | with_reducible refine' et_and2 ?_ ?_ | with_reducible refine' et_or2 ?_ ?_ | with_reducible refine' et_not ?_ | with_reducible refine' ev_call ?_ ?_ | with_reducible refine' ev_callS ?_ ?_ | with_reducible refine' ev_cb ?_ ?_ | with_reducible exact isi_bool (by assumption) | with_reducible exact isi_int (by assumption) | with_reducible exact isi_list (by assumption) | with_reducible exact rc_len (by assumption) | with_reducible exact rc_sum (by assumption) | with_reducible exact rc_abs | with_reducible exact isi_listL (by assumption) | with_reducible exact isi_intI | with_reducible exact isi_boolI | with_reducible exact rc_lenT (by assumption) | with_reducible exact isi_tup (by assumption) | with_reducible exact rv_eqL (by assumption) (by assumption) | with_reducible exact rv_neL (by assumption) (by assumption) | with_reducible exact rv_neT (by assumption) (by assumption) | with_reducible exact rv_ixL (by assumption) (by assumption) | with_reducible exact rv_ixT (by assumption) (by assumption) | with_reducible refine' ev_din ?_ ?_ (by assumption) | with_reducible refine' ev_dnotin ?_ ?_ (by assumption) | with_reducible refine' ev_dget ?_ ?_ (by assumption) (by assumption) | ((with_reducible show SpV _ _ _ _); assumption) | ((with_reducible show RV _ _ _ _ _); assumption) | ((with_reducible show RC _ _ _ _); assumption) | ((with_reducible show CDiv _ _); exact ⟨by omega, by omega⟩) | ((with_reducible show CMul _ _); first | exact .inl ⟨by omega, by omega⟩ | exact .inr ⟨by omega, by omega⟩) | ((with_reducible show CPow _ _); exact ⟨by omega, by omega, by first | decide | assumption | omega⟩) | ((with_reducible show (0 : Int) < _); omega) | ((with_reducible show (0 : Int) ≤ _); omega) | ((with_reducible show scal _ _ = true); rfl)))) zi (by rw [List.length_map]; omega) fun H7 e7 => ?_
      refine s_asg (v := .str (S r)) (ev_slFrom (l := c :: r) (i := 1) (ev_var rfl) ev_c (by omega) (by omega)) fun H8 e8 => ?_
      refine ⟨acc ++ [(k : Int)], r, _, rfl, (Ex.mut (((e4.trans e5).trans e6).trans e7) hl).trans e8, e8 _ _ ?_, ⟨n, by omega, ?_⟩, ?_, by omega⟩
      · rw [upd_same, List.map_append]
        rfl
      · rw [← hp, parse_cons, hk]
      · rw [List.length_append]
        simp
        omega
    · have hs : sgn c = none := by
        cases hg : sgn c with
        | none => rfl
        | some k => rw [hg] at hc; cases hc
      have ec : decide (V.str (S [c]) = V.str (S [40])) = decide (c = 40) := by
        rw [dec_S, decide_eq_decide]
        simp
      cases hpar : TL.par [41] [] (c :: r) with
      | none =>
        have hn41 := TB.par_none hpar
        have hstop : parse t.length [] t = none := by
          rw [← hp]
          exact parse_stop hs (.inr (par_head_none fun hm => hn41 (List.mem_cons_of_mem _ hm)))
        refine q_asg (v := .int (-1)) (ev_sfind (ev_var rfl) ev_c (find_none hpar)) fun H7 e7 => ?_
        refine q_when (b := !decide (V.str (S [c]) = V.str (S [40])) || true) (et_or2 (et_test (ev_op (ix _ _) ev_c (rv_ne rfl))) (et_is (et_or (a := decide ((-1 : Int) < 0)) (b := false) (by (repeat' (first | with_reducible exact ev_c | ((with_reducible show Ev (tVar _) _ _ _); exact ev_var rfl) | with_reducible exact ea_nil | with_reducible exact eo_none | with_reducible refine' ea_cons ?_ ?_ | with_reducible refine' eo_some ?_ | with_reducible refine' ev_and2 ?_ ?_ | with_reducible refine' ev_or2 ?_ ?_ | with_reducible refine' ev_notV ?_ | with_reducible exact ru_I | with_reducible refine' ev_un ?_ ?_ | with_reducible exact rv_I0 | with_reducible exact rv_isN | with_reducible exact rv_notN | with_reducible refine' rv_I ?_ | with_reducible refine' rv_eq ?_ | with_reducible refine' rv_ne ?_ | with_reducible refine' ev_op ?_ ?_ ?_ | with_reducible refine' ev_chain2 ?_ ?_ ?_ ?_ ?_ | with_reducible refine' et_B ?_ | with_reducible refine' et_test ?_ | with_reducible refine' et_and2 ?_ ?_ | with_reducible refine' et_or2 ?_ ?_ | with_reducible refine' et_not ?_ | with_reducible refine' ev_call ?_ ?_ | with_reducible refine' ev_callS ?_ ?_ | with_reducible refine' ev_cb ?_ ?_ | with_reducible exact isi_bool (by assumption) | with_reducible exact isi_int (by assumption) | with_reducible exact isi_list (by assumption) | with_reducible exact rc_len (by assumption) | with_reducible exact rc_sum (by assumption) | with_reducible exact rc_abs | with_reducible exact isi_listL (by assumption) | with_reducible exact isi_intI | with_reducible exact isi_boolI | with_reducible exact rc_lenT (by assumption) | with_reducible exact isi_tup (by assumption) | with_reducible exact rv_eqL (by assumption) (by assumption) | with_reducible exact rv_neL (by assumption) (by assumption) | with_reducible exact rv_neT (by assumption) (by assumption) | with_reducible exact rv_ixL (by assumption) (by assumption) | with_reducible exact rv_ixT (by assumption) (by assumption) | with_reducible refine' ev_din ?_ ?_ (by assumption) | with_reducible refine' ev_dnotin ?_ ?_ (by assumption) | with_reducible refine' ev_dget ?_ ?_ (by assumption) (by assumption) | ((with_reducible show SpV _ _ _ _); assumption) | ((with_reducible show RV _ _ _ _ _); assumption) | ((with_reducible show RC _ _ _ _); assumption) | ((with_reducible show CDiv _ _); exact ⟨by omega, by omega⟩) | ((with_reducible show CMul _ _); first | exact .inl ⟨by omega, by omega⟩ | exact .inr ⟨by omega, by omega⟩) | ((with_reducible show CPow _ _); exact ⟨by omega, by omega, by first | decide | assumption | omega⟩) | ((with_reducible show (0 : Int) < _); omega) | ((with_reducible show (0 : Int) ≤ _); omega) | ((with_reducible show scal _ _ = true); rfl)))) fun h => by cases h) rfl)) (fun _ H8 e8 => ?_) (fun h => by simp at h)
        exact s_ret (v := .non) ev_c fun H9 e9 => qerr hstop H9 ((((e05.trans e6).trans e7).trans e8).trans e9)
      | some pq =>
        obtain ⟨p, w⟩ := pq
        obtain ⟨es, hn41⟩ := par_some hpar
        refine q_asg (v := .int (p.length : Int)) (ev_sfind (ev_var rfl) ev_c (find_some hpar)) fun H7 e7 => ?_
        dsimp only [List.set]
        by_cases c40 : c = 40
        case neg =>
          have hstop : parse t.length [] t = none := by
            rw [← hp]
            exact parse_stop hs (.inl c40)
          refine q_when (b := true) (et_is (et_or (a := !decide (V.str (S [c]) = V.str (S [40]))) (b := false) (et_test (ev_op (ix _ _) ev_c (rv_ne rfl))) fun h => by
            rw [ec, decide_eq_false c40] at h
            cases h) (by rw [ec, decide_eq_false c40]; first | done | rfl)) (fun _ H8 e8 => ?_) (fun h => by cases h)
          exact s_ret (v := .non) ev_c fun H9 e9 => qerr hstop H9 ((((e05.trans e6).trans e7).trans e8).trans e9)
        subst c40
        cases p with
        | nil => simp at es
        | cons a p =>
          simp at es
          obtain ⟨rfl, rfl⟩ := es
          have hp41 : 41 ∉ p := fun hm => hn41 (List.mem_cons_of_mem _ hm)
          rw [parse_num hp41] at hp
          have pz : p.length + 1 + w.length ≤ (p ++ 41 :: w).length := by
            rw [List.length_append, List.length_cons]
            omega
          have hsl : Txt.slice (S (40 :: (p ++ 41 :: w))) (some 1) (some (((40 :: p).length : Nat) : Int)) = S p := by
            have z := slice_mid (a := 40 :: (p ++ 41 :: w)) (i := 1) (j := (40 :: p).length) (by simp) (by rw [List.length_cons, List.length_cons, List.length_append]; omega)
            refine z.trans ?_
            simp
          have sl : ∀ (H9 : Hp), Ev (tSl C8.rSlX (tVar 3) (tPart (tC (V.int 1))) (tPart (tVar 4))) [some (V.str (S t)), some (V.str (S signsL)), some (V.ref l), some (V.str (S (40 :: (p ++ 41 :: w)))), some (V.int (((40 :: p).length : Nat) : Int))] H9 (.str (S p)) := fun H9 => ev_slS (ev_var rfl) (eo_some ev_c) (eo_some (ev_var rfl)) (by omega) hsl
          have ln : ∀ (H9 : Hp), SpV sp_lnum [.str (S p)] H9 (optV (numOf p)) := fun H9 => spv_of fun H8 e8 Q E q => ⟨p, rfl, by omega, q⟩
          refine q_when (b := !decide (V.str (S [40]) = V.str (S [40])) || (decide ((((40 :: p).length : Nat) : Int) < 0) || decide (optV (numOf p) = V.non))) (et_or2 (et_test (ev_op (ix _ _) ev_c (rv_ne rfl))) (et_or2 (by (repeat' (first | with_reducible exact ev_c | ((with_reducible show Ev (tVar _) _ _ _); exact ev_var rfl) | with_reducible exact ea_nil | with_reducible exact eo_none | with_reducible refine' ea_cons ?_ ?_ | with_reducible refine' eo_some ?_ | with_reducible refine' ev_and2 ?_ ?_ | with_reducible refine' ev_or2 ?_ ?_ | with_reducible refine' ev_notV ?_ | with_reducible exact ru_I | with_reducible refine' ev_un ?_ ?_ | with_reducible exact rv_I0 | with_reducible exact rv_isN | with_reducible exact rv_notN | with_reducible refine' rv_I ?_ | with_reducible refine' rv_eq ?_ | with_reducible refine' rv_ne ?_ | with_reducible refine' ev_op ?_ ?_ ?_ | with_reducible refine' ev_chain2 ?_ ?_ ?_ ?_ ?_ | with_reducible refine' et_B ?_ | with_reducible refine' et_test ?_ | with_reducible refine' et_and2 ?_ ?_ | with_reducible refine' et_or2 ?_ ?_ | with_reducible refine' et_not ?_ | with_reducible refine' ev_call ?_ ?_ | with_reducible refine' ev_callS ?_ ?_ | with_reducible refine' ev_cb ?_ ?_ | with_reducible exact isi_bool (by assumption) | with_reducible exact isi_int (by assumption) | with_reducible exact isi_list (by assumption) | with_reducible exact rc_len (by assumption) | with_reducible exact rc_sum (by assumption) | with_reducible exact rc_abs | with_reducible exact isi_listL (by assumption) | with_reducible exact isi_intI | with_reducible exact isi_boolI | with_reducible exact rc_lenT (by assumption) | with_reducible exact isi_tup (by assumption) | with_reducible exact rv_eqL (by assumption) (by assumption) | with_reducible exact rv_neL (by assumption) (by assumption) | with_reducible exact rv_neT (by assumption) (by assumption) | with_reducible exact rv_ixL (by assumption) (by assumption) | with_reducible exact rv_ixT (by assumption) (by assumption) | with_reducible refine' ev_din ?_ ?_ (by assumption) | with_reducible refine' ev_dnotin ?_ ?_ (by assumption) | with_reducible refine' ev_dget ?_ ?_ (by assumption) (by assumption) | ((with_reducible show SpV _ _ _ _); assumption) | ((with_reducible show RV _ _ _ _ _); assumption) | ((with_reducible show RC _ _ _ _); assumption) | ((with_reducible show CDiv _ _); exact ⟨by omega, by omega⟩) | ((with_reducible show CMul _ _); first | exact .inl ⟨by omega, by omega⟩ | exact .inr ⟨by omega, by omega⟩) | ((with_reducible show CPow _ _); exact ⟨by omega, by omega, by first | decide | assumption | omega⟩) | ((with_reducible show (0 : Int) < _); omega) | ((with_reducible show (0 : Int) ≤ _); omega) | ((with_reducible show scal _ _ = true); rfl)))) (et_test (ev_op (ev_call (ea_cons (sl _) ea_nil) (ln _)) ev_c rv_isN)))) (fun h H8 e8 => ?_) (fun h H8 e8 => ?_)
          · rw [decide_eq_true rfl, decide_eq_false (show ¬ (((40 :: p).length : Nat) : Int) < 0 by omega)] at h
            have hno : numOf p = none := by
              cases ho : numOf p with
              | none => rfl
              | some x =>
                rw [ho] at h
                simp [optV] at h
            rw [hno] at hp
            exact s_ret (v := .non) ev_c fun H9 e9 => qerr hp.symm H9 ((((e05.trans e6).trans e7).trans e8).trans e9)
          · obtain ⟨x, hx⟩ : ∃ x, numOf p = some x := by
              cases ho : numOf p with
              | none =>
                rw [ho] at h
                simp [optV] at h
              | some x => exact ⟨x, rfl⟩
            rw [hx] at hp
            have e68 := (e6.trans e7).trans e8
            have h8 := e68 _ _ h5
            have ln8 := ln H8
            rw [hx] at ln8
            refine q_app (xs := acc.map V.int) (v := .int x) h8 (by (repeat' (first | with_reducible exact ev_c | ((with_reducible show Ev (tVar _) _ _ _); exact ev_var rfl) | with_reducible exact ea_nil | with_reducible exact eo_none | with_reducible refine' ea_cons ?_ ?_ | with_reducible refine' eo_some ?_ | with_reducible refine' ev_and2 ?_ ?_ | with_reducible refine' ev_or2 ?_ ?_ | with_reducible refine' ev_notV ?_ | with_reducible exact ru_I | with_reducible refine' ev_un ?_ ?_ | with_reducible exact rv_I0 | with_reducible exact rv_isN | with_reducible exact rv_notN | with_reducible refine' rv_I ?_ | with_reducible refine' rv_eq ?_ | with_reducible refine' rv_ne ?_ | with_reducible refine' ev_op ?_ ?_ ?_ | with_reducible refine' ev_chain2 ?_ ?_ ?_ ?_ ?_ | with_reducible refine' et_B ?_ | with_reducible refine' et_test ?_ | with_reducible refine' et_and2 ?_ ?_ | with_reducible refine' et_or2 ?_ ?_ | with_reducible refine' et_not ?_ | with_reducible refine' ev_call ?_ ?_ | with_reducible refine' ev_callS ?_ ?_ | with_reducible refine' ev_cb ?_ ?_ | with_reducible exact isi_bool (by assumption) | with_reducible exact isi_int (by assumption) | with_reducible exact isi_list (by assumption) | with_reducible exact rc_len (by assumption) | with_reducible exact rc_sum (by assumption) | with_reducible exact rc_abs | with_reducible exact isi_listL (by assumption) | with_reducible exact isi_intI | with_reducible exact isi_boolI | with_reducible exact rc_lenT (by assumption) | with_reducible exact isi_tup (by assumption) | with_reducible exact rv_eqL (by assumption) (by assumption) | with_reducible exact rv_neL (by assumption) (by assumption) | with_reducible exact rv_neT (by assumption) (by assumption) | with_reducible exact rv_ixL (by assumption) (by assumption) | with_reducible exact rv_ixT (by assumption) (by assumption) | with_reducible refine' ev_din ?_ ?_ (by assumption) | with_reducible refine' ev_dnotin ?_ ?_ (by assumption) | with_reducible refine' ev_dget ?_ ?_ (by assumption) (by assumption) | ((with_reducible show SpV _ _ _ _); assumption) | ((with_reducible show RV _ _ _ _ _); assumption) | ((with_reducible show RC _ _ _ _); assumption) | ((with_reducible show CDiv _ _); exact ⟨by omega, by omega⟩) | ((with_reducible show CMul _ _); first | exact .inl ⟨by omega, by omega⟩ | exact .inr ⟨by omega, by omega⟩) | ((with_reducible show CPow _ _); exact ⟨by omega, by omega, by first | decide | assumption | omega⟩) | ((with_reducible show (0 : Int) < _); omega) | ((with_reducible show (0 : Int) ≤ _); omega) | ((with_reducible show scal _ _ = true); rfl)))) (ev_call (ea_cons (sl _) ea_nil) ln8) (by rw [List.length_map]; omega) fun H9 e9 => ?_
            refine s_asg (v := .str (S w)) (ev_is (ev_slFrom (l := 40 :: (p ++ 41 :: w)) (i := (((40 :: p).length : Nat) : Int) + 1) (ev_var rfl) (by (repeat' (first | with_reducible exact ev_c | ((with_reducible show Ev (tVar _) _ _ _); exact ev_var rfl) | with_reducible exact ea_nil | with_reducible exact eo_none | with_reducible refine' ea_cons ?_ ?_ | with_reducible refine' eo_some ?_ | with_reducible refine' ev_and2 ?_ ?_ | with_reducible refine' ev_or2 ?_ ?_ | with_reducible refine' ev_notV ?_ | with_reducible exact ru_I | with_reducible refine' ev_un ?_ ?_ | with_reducible exact rv_I0 | with_reducible exact rv_isN | with_reducible exact rv_notN | with_reducible refine' rv_I ?_ | with_reducible refine' rv_eq ?_ | with_reducible refine' rv_ne ?_ | with_reducible refine' ev_op ?_ ?_ ?_ | with_reducible refine' ev_chain2 ?_ ?_ ?_ ?_ ?_ | with_reducible refine' et_B ?_ | with_reducible refine' et_test ?_ | with_reducible refine' et_and2 ?_ ?_ | with_reducible refine' et_or2 ?_ ?_ | with_reducible refine' et_not ?_ | with_reducible refine' ev_call ?_ ?_ | with_reducible refine' ev_callS ?_ ?_ | with_reducible refine' ev_cb ?_ ?_ | with_reducible exact isi_bool (by assumption) | with_reducible exact isi_int (by assumption) | with_reducible exact isi_list (by assumption) | with_reducible exact rc_len (by assumption) | with_reducible exact rc_sum (by assumption) | with_reducible exact rc_abs | with_reducible exact isi_listL (by assumption) | with_reducible exact isi_intI | with_reducible exact isi_boolI | with_reducible exact rc_lenT (by assumption) | with_reducible exact isi_tup (by assumption) | with_reducible exact rv_eqL (by assumption) (by assumption) | with_reducible exact rv_neL (by assumption) (by assumption) | with_reducible exact rv_neT (by assumption) (by assumption) | with_reducible exact rv_ixL (by assumption) (by assumption) | with_reducible exact rv_ixT (by assumption) (by assumption) | with_reducible refine' ev_din ?_ ?_ (by assumption) | with_reducible refine' ev_dnotin ?_ ?_ (by assumption) | with_reducible refine' ev_dget ?_ ?_ (by assumption) (by assumption) | ((with_reducible show SpV _ _ _ _); assumption) | ((with_reducible show RV _ _ _ _ _); assumption) | ((with_reducible show RC _ _ _ _); assumption) | ((with_reducible show CDiv _ _); exact ⟨by omega, by omega⟩) | ((with_reducible show CMul _ _); first | exact .inl ⟨by omega, by omega⟩ | exact .inr ⟨by omega, by omega⟩) | ((with_reducible show CPow _ _); exact ⟨by omega, by omega, by first | decide | assumption | omega⟩) | ((with_reducible show (0 : Int) < _); omega) | ((with_reducible show (0 : Int) ≤ _); omega) | ((with_reducible show scal _ _ = true); rfl)))) (by omega) (by omega)) ?_) fun H10 e10 => ?_
            · have e : ((((40 :: p).length : Nat) : Int) + 1).toNat = p.length + 2 := by
                rw [List.length_cons]
                omega
              rw [e]
              have e2 : (40 :: (p ++ 41 :: w)).drop (p.length + 2) = w := by
                show (p ++ 41 :: w).drop (p.length + 1) = w
                rw [← List.drop_drop, List.drop_left]
                rfl
              rw [e2]
            refine ⟨acc ++ [x], w, _, rfl, (Ex.mut (((e4.trans e5).trans e68).trans e9) hl).trans e10, e10 _ _ ?_, ⟨n, by omega, hp⟩, ?_, by omega⟩
            · rw [upd_same, List.map_append]
              rfl
            · rw [List.length_append]
              simp
              omega

theorem s_dropS {σ : L2.St} {H : Hp} {D : Ends} {sp : Sp} {vs : List V} {ES : L2.St → XK} {ta : TA} (h : EvA ta σ H vs) (k : ∀ H1, Ex H H1 → sp vs H1 (fun _ H2 => D.nx σ H2) (ES σ)) : tDrop (tCallS sp ES ta) D σ H := h H (Ex.refl H) _ k
def bad16 (H : Hp) (v : V) : Prop := (∃ t : List Nat, v = .str (S t) ∧ t.length ≤ 40000 ∧ readOf t = none) ∨ (Kd H v ∧ isS v = false)
def sp_refused (K : PySem.W.Frag) : Sp := fun vs H Q E => ∃ v, vs = [v] ∧ bad16 H v ∧ RetV (.bl true) H Q
theorem sc__law_refused : FnScope ["_law_text", "error"] ["_law_text"] (defScope s__law_refused) := ⟨rfl, rfl, rfl, by decide +kernel, rfl, by decide +kernel, by decide +kernel⟩
theorem ok__law_refused {P : Program} {w : World} {K : PySem.W.Frag} {mg : Str → Option Value} {base : Heap} (T : TXT K mg) : OK P w K mg base "_law_refused" ["_law_text"] 4 (sp_refused K) := by
  have O_read := ok_read (P := P) (w := w) (base := base) T
  obtain ⟨fd, F⟩ := T.def_ 18
  refine ⟨_, fd, T.glo 17, F.kp, F.bindsN (fun _ _ _ _ _ _ us hl => match us, hl with | [_], _ => rfl), F.ok sc__law_refused (fun vs H Q E h => ?_) (fun cdv A outer s H vs Q E hr h => ?_), F.bindsA (fun _ _ _ _ _ _ us hl => match us, hl with | [_], _ => rfl)⟩
  · first | (obtain ⟨rfl, _⟩ := h; rfl) | (obtain ⟨_, rfl, _⟩ := h; rfl) | (obtain ⟨_, _, rfl, _⟩ := h; rfl) | (obtain ⟨_, _, _, rfl, _⟩ := h; rfl) | (obtain ⟨_, _, _, _, rfl, _⟩ := h; rfl) | (obtain ⟨_, _, _, _, _, rfl, _⟩ := h; rfl) | (obtain ⟨_, _, _, _, _, _, rfl, _⟩ := h; rfl) | (obtain ⟨_, _, _, _, _, _, _, rfl, _⟩ := h; rfl) | (obtain ⟨_, _, _, _, _, _, _, _, rfl, _⟩ := h; rfl)
  · replace F : FunD K "_law_refused" "_law_refused" (defArgs s__law_refused) (defBody s__law_refused) (defScope s__law_refused) [] [] (He.ga K "_law_refused") fd := F
    refine ⟨_, (pss_cons (ps_try_as (i := 1) rfl rfl sc__law_refused.nd rfl rfl ⟨rfl, by decide, .inl (T.glo 19)⟩ (takes_of rfl rfl rfl rfl) (fun W pn xe tk hp => (pss_one (ps_expr (pe_ownS O_read (hr.mono (by decide)) (by rfl) (fun σ => passAt tk σ) (pa_cons (pv 0) pa_nil)))))
        (fun a oe cls d pn hz hf => (pss_cons (ps_if (pt_val (pe_callB (id := "isinstance") (isXT hz hf) (by rfl) (T.free 32) (by decide +kernel) (pa_cons (pv 1) (pa_cons (pe_tup (pa_cons (pe_cls (T.glo 26)) (pa_cons (pe_cls (T.glo 24)) (pa_cons (pe_cls (T.glo 20)) (pa_cons (pe_cls (T.glo 23)) (pa_cons (pe_cls (T.glo 21)) (pa_cons (pe_cls (T.glo 22)) pa_nil))))))) pa_nil))))
        (pss_one (ps_ret pe_bl))
        pss_nil)
      (pss_one (ps_ret (pe_and (pe_callB (id := "isinstance") (isX hz hf) (by rfl) (T.free 32) (by decide +kernel) (pa_cons (pv 1) (pa_cons (pe_cls (T.glo 25)) pa_nil))) (pe_one (pe_callB (id := "isinstance") (isX hz hf) (by rfl) (T.free 32) (by decide +kernel) (pa_cons (pv 1) (pa_cons (pe_ty (T := "ValueError") (T.free 27) (by decide +kernel)) pa_nil))))))))))
      (pss_one (ps_ret pe_bl))), ?_⟩
    obtain ⟨v, rfl, hb, q⟩ := h
    dsimp only [cxOf, L2.start, List.map_cons, List.map_nil, List.length_cons, List.length_nil, Nat.reduceAdd, Nat.reduceSub, List.replicate_succ, List.replicate_zero, List.cons_append, List.nil_append, Nat.zero_add, List.reduceReplicate, List.map]
    change tDrop _ _ _ _
    have rd : ∀ (H1 : Hp) (Q2 : VK) (E2 : XK), Ex H H1 → (∀ H2, Ex H1 H2 → E2 (.ref (He.ga K "NotWritten")) none H2) → sp_read K [v] H1 Q2 E2 := fun H1 Q2 E2 e1 h => by
      refine ⟨v, rfl, ?_⟩
      rcases hb with ⟨t, rfl, hz, hn⟩ | ⟨hk, hs⟩
      · refine .inl ⟨t, rfl, hz, ?_⟩
        unfold readRe
        rw [hn]
        exact h
      · exact .inr ⟨hk.mono e1, hs, h⟩
    refine s_dropS (vs := [v]) (by (repeat' (first | with_reducible exact ev_c | ((with_reducible show Ev (tVar _) _ _ _); exact ev_var rfl) | with_reducible exact ea_nil | with_reducible exact eo_none | with_reducible refine' ea_cons ?_ ?_ | with_reducible refine' eo_some ?_ | with_reducible refine' ev_and2 ?_ ?_ | with_reducible refine' ev_or2 ?_ ?_ | with_reducible refine' ev_notV ?_ | with_reducible exact ru_I | with_reducible refine' ev_un ?_ ?_ | with_reducible exact rv_I0 | with_reducible exact rv_isN | with_reducible exact rv_notN | with_reducible refine' rv_I ?_ | with_reducible refine' rv_eq ?_ | with_reducible refine' rv_ne ?_ | with_reducible refine' ev_op ?_ ?_ ?_ | with_reducible refine' ev_chain2 ?_ ?_ ?_ ?_ ?_ | with_reducible refine' et_B ?_ | with_reducible refine' et_test ?_ | with_reducible refine' et_and2 ?_ ?_ | with_reducible refine' et_or2 ?_ ?_ | with_reducible refine' et_not ?_ | with_reducible refine' ev_call ?_ ?_ | with_reducible refine' ev_callS ?_ ?_ | with_reducible refine' ev_cb ?_ ?_ | with_reducible exact isi_bool (by assumption) | with_reducible exact isi_int (by assumption) | with_reducible exact isi_list (by assumption) | with_reducible exact rc_len (by assumption) | with_reducible exact rc_sum (by assumption) | with_reducible exact rc_abs | with_reducible exact isi_listL (by assumption) | with_reducible exact isi_intI | with_reducible exact isi_boolI | with_reducible exact rc_lenT (by assumption) | with_reducible exact isi_tup (by assumption) | with_reducible exact rv_eqL (by assumption) (by assumption) | with_reducible exact rv_neL (by assumption) (by assumption) | with_reducible exact rv_neT (by assumption) (by assumption) | with_reducible exact rv_ixL (by assumption) (by assumption) | with_reducible exact rv_ixT (by assumption) (by assumption) | with_reducible refine' ev_din ?_ ?_ (by assumption) | with_reducible refine' ev_dnotin ?_ ?_ (by assumption) | with_reducible refine' ev_dget ?_ ?_ (by assumption) (by assumption) | ((with_reducible show SpV _ _ _ _); assumption) | ((with_reducible show RV _ _ _ _ _); assumption) | ((with_reducible show RC _ _ _ _); assumption) | ((with_reducible show CDiv _ _); exact ⟨by omega, by omega⟩) | ((with_reducible show CMul _ _); first | exact .inl ⟨by omega, by omega⟩ | exact .inr ⟨by omega, by omega⟩) | ((with_reducible show CPow _ _); exact ⟨by omega, by omega, by first | decide | assumption | omega⟩) | ((with_reducible show (0 : Int) < _); omega) | ((with_reducible show (0 : Int) ≤ _); omega) | ((with_reducible show scal _ _ = true); rfl)))) fun H1 e1 => rd H1 _ _ e1 fun H2 e2 => ?_
    refine ⟨true, He.exm_ok (T.fact 53), fun _ x hx => ?_, fun h => nomatch h⟩
    have C := (tx_NotWritten T).1
    have V := (tx_NotWritten T).2.1
    have F := (tx_NotWritten T).2.2
    have f7 := F 7 ("Clash", false) rfl
    have f5 := F 5 ("NoThrow", false) rfl
    have f1 := F 1 ("NotARow", false) rfl
    have f4 := F 4 ("NotPlain", false) rfl
    have f2 := F 2 ("OtherLength", false) rfl
    have f3 := F 3 ("OutOfBounds", false) rfl
    have f6 := F 6 ("NotWritten", true) rfl
    refine q_when (b := false) (et_B (ev_cbU (by (repeat' (first | with_reducible exact ev_c | ((with_reducible show Ev (tVar _) _ _ _); exact ev_var rfl) | with_reducible exact ea_nil | with_reducible exact eo_none | with_reducible refine' ea_cons ?_ ?_ | with_reducible refine' eo_some ?_ | with_reducible refine' ev_and2 ?_ ?_ | with_reducible refine' ev_or2 ?_ ?_ | with_reducible refine' ev_notV ?_ | with_reducible exact ru_I | with_reducible refine' ev_un ?_ ?_ | with_reducible exact rv_I0 | with_reducible exact rv_isN | with_reducible exact rv_notN | with_reducible refine' rv_I ?_ | with_reducible refine' rv_eq ?_ | with_reducible refine' rv_ne ?_ | with_reducible refine' ev_op ?_ ?_ ?_ | with_reducible refine' ev_chain2 ?_ ?_ ?_ ?_ ?_ | with_reducible refine' et_B ?_ | with_reducible refine' et_test ?_ | with_reducible refine' et_and2 ?_ ?_ | with_reducible refine' et_or2 ?_ ?_ | with_reducible refine' et_not ?_ | with_reducible refine' ev_call ?_ ?_ | with_reducible refine' ev_callS ?_ ?_ | with_reducible refine' ev_cb ?_ ?_ | with_reducible exact isi_bool (by assumption) | with_reducible exact isi_int (by assumption) | with_reducible exact isi_list (by assumption) | with_reducible exact rc_len (by assumption) | with_reducible exact rc_sum (by assumption) | with_reducible exact rc_abs | with_reducible exact isi_listL (by assumption) | with_reducible exact isi_intI | with_reducible exact isi_boolI | with_reducible exact rc_lenT (by assumption) | with_reducible exact isi_tup (by assumption) | with_reducible exact rv_eqL (by assumption) (by assumption) | with_reducible exact rv_neL (by assumption) (by assumption) | with_reducible exact rv_neT (by assumption) (by assumption) | with_reducible exact rv_ixL (by assumption) (by assumption) | with_reducible exact rv_ixT (by assumption) (by assumption) | with_reducible refine' ev_din ?_ ?_ (by assumption) | with_reducible refine' ev_dnotin ?_ ?_ (by assumption) | with_reducible refine' ev_dget ?_ ?_ (by assumption) (by assumption) | ((with_reducible show SpV _ _ _ _); assumption) | ((with_reducible show RV _ _ _ _ _); assumption) | ((with_reducible show RC _ _ _ _); assumption) | ((with_reducible show CDiv _ _); exact ⟨by omega, by omega⟩) | ((with_reducible show CMul _ _); first | exact .inl ⟨by omega, by omega⟩ | exact .inr ⟨by omega, by omega⟩) | ((with_reducible show CPow _ _); exact ⟨by omega, by omega, by first | decide | assumption | omega⟩) | ((with_reducible show (0 : Int) < _); omega) | ((with_reducible show (0 : Int) ≤ _); omega) | ((with_reducible show scal _ _ = true); rfl)))) (eu_tup (by (repeat' (first | with_reducible exact ev_c | ((with_reducible show Ev (tVar _) _ _ _); exact ev_var rfl) | with_reducible exact ea_nil | with_reducible exact eo_none | with_reducible refine' ea_cons ?_ ?_ | with_reducible refine' eo_some ?_ | with_reducible refine' ev_and2 ?_ ?_ | with_reducible refine' ev_or2 ?_ ?_ | with_reducible refine' ev_notV ?_ | with_reducible exact ru_I | with_reducible refine' ev_un ?_ ?_ | with_reducible exact rv_I0 | with_reducible exact rv_isN | with_reducible exact rv_notN | with_reducible refine' rv_I ?_ | with_reducible refine' rv_eq ?_ | with_reducible refine' rv_ne ?_ | with_reducible refine' ev_op ?_ ?_ ?_ | with_reducible refine' ev_chain2 ?_ ?_ ?_ ?_ ?_ | with_reducible refine' et_B ?_ | with_reducible refine' et_test ?_ | with_reducible refine' et_and2 ?_ ?_ | with_reducible refine' et_or2 ?_ ?_ | with_reducible refine' et_not ?_ | with_reducible refine' ev_call ?_ ?_ | with_reducible refine' ev_callS ?_ ?_ | with_reducible refine' ev_cb ?_ ?_ | with_reducible exact isi_bool (by assumption) | with_reducible exact isi_int (by assumption) | with_reducible exact isi_list (by assumption) | with_reducible exact rc_len (by assumption) | with_reducible exact rc_sum (by assumption) | with_reducible exact rc_abs | with_reducible exact isi_listL (by assumption) | with_reducible exact isi_intI | with_reducible exact isi_boolI | with_reducible exact rc_lenT (by assumption) | with_reducible exact isi_tup (by assumption) | with_reducible exact rv_eqL (by assumption) (by assumption) | with_reducible exact rv_neL (by assumption) (by assumption) | with_reducible exact rv_neT (by assumption) (by assumption) | with_reducible exact rv_ixL (by assumption) (by assumption) | with_reducible exact rv_ixT (by assumption) (by assumption) | with_reducible refine' ev_din ?_ ?_ (by assumption) | with_reducible refine' ev_dnotin ?_ ?_ (by assumption) | with_reducible refine' ev_dget ?_ ?_ (by assumption) (by assumption) | ((with_reducible show SpV _ _ _ _); assumption) | ((with_reducible show RV _ _ _ _ _); assumption) | ((with_reducible show RC _ _ _ _); assumption) | ((with_reducible show CDiv _ _); exact ⟨by omega, by omega⟩) | ((with_reducible show CMul _ _); first | exact .inl ⟨by omega, by omega⟩ | exact .inr ⟨by omega, by omega⟩) | ((with_reducible show CPow _ _); exact ⟨by omega, by omega, by first | decide | assumption | omega⟩) | ((with_reducible show (0 : Int) < _); omega) | ((with_reducible show (0 : Int) ≤ _); omega) | ((with_reducible show scal _ _ = true); rfl)))) (by simp)) fun tp H6 h6 e6 => rc_isXT C h6 (.cons (.own _) (.cons (.own _) (.cons (.own _) (.cons (.own _) (.cons (.own _) (.cons (.own _) .nil)))))) (kitAny_cons f7 (fun _ => kitAny_cons f5 (fun _ => kitAny_cons f1 (fun _ => kitAny_cons f4 (fun _ => kitAny_cons f2 (fun _ => kitAny_cons f3 (fun _ => rfl) (fun h => nomatch h)) (fun h => nomatch h)) (fun h => nomatch h)) (fun h => nomatch h)) (fun h => nomatch h)) (fun h => nomatch h)))) (fun h => by cases h) (fun _ H6 e6 => ?_)
    exact s_ret (v := .bl (true && true)) (ev_and2 (ev_cb (by (repeat' (first | with_reducible exact ev_c | ((with_reducible show Ev (tVar _) _ _ _); exact ev_var rfl) | with_reducible exact ea_nil | with_reducible exact eo_none | with_reducible refine' ea_cons ?_ ?_ | with_reducible refine' eo_some ?_ | with_reducible refine' ev_and2 ?_ ?_ | with_reducible refine' ev_or2 ?_ ?_ | with_reducible refine' ev_notV ?_ | with_reducible exact ru_I | with_reducible refine' ev_un ?_ ?_ | with_reducible exact rv_I0 | with_reducible exact rv_isN | with_reducible exact rv_notN | with_reducible refine' rv_I ?_ | with_reducible refine' rv_eq ?_ | with_reducible refine' rv_ne ?_ | with_reducible refine' ev_op ?_ ?_ ?_ | with_reducible refine' ev_chain2 ?_ ?_ ?_ ?_ ?_ | with_reducible refine' et_B ?_ | with_reducible refine' et_test ?_ | with_reducible refine' et_and2 ?_ ?_ | with_reducible refine' et_or2 ?_ ?_ | with_reducible refine' et_not ?_ | with_reducible refine' ev_call ?_ ?_ | with_reducible refine' ev_callS ?_ ?_ | with_reducible refine' ev_cb ?_ ?_ | with_reducible exact isi_bool (by assumption) | with_reducible exact isi_int (by assumption) | with_reducible exact isi_list (by assumption) | with_reducible exact rc_len (by assumption) | with_reducible exact rc_sum (by assumption) | with_reducible exact rc_abs | with_reducible exact isi_listL (by assumption) | with_reducible exact isi_intI | with_reducible exact isi_boolI | with_reducible exact rc_lenT (by assumption) | with_reducible exact isi_tup (by assumption) | with_reducible exact rv_eqL (by assumption) (by assumption) | with_reducible exact rv_neL (by assumption) (by assumption) | with_reducible exact rv_neT (by assumption) (by assumption) | with_reducible exact rv_ixL (by assumption) (by assumption) | with_reducible exact rv_ixT (by assumption) (by assumption) | with_reducible refine' ev_din ?_ ?_ (by assumption) | with_reducible refine' ev_dnotin ?_ ?_ (by assumption) | with_reducible refine' ev_dget ?_ ?_ (by assumption) (by assumption) | ((with_reducible show SpV _ _ _ _); assumption) | ((with_reducible show RV _ _ _ _ _); assumption) | ((with_reducible show RC _ _ _ _); assumption) | ((with_reducible show CDiv _ _); exact ⟨by omega, by omega⟩) | ((with_reducible show CMul _ _); first | exact .inl ⟨by omega, by omega⟩ | exact .inr ⟨by omega, by omega⟩) | ((with_reducible show CPow _ _); exact ⟨by omega, by omega, by first | decide | assumption | omega⟩) | ((with_reducible show (0 : Int) < _); omega) | ((with_reducible show (0 : Int) ≤ _); omega) | ((with_reducible show scal _ _ = true); rfl)))) (rc_isX C (.own _) f6)) (ev_cb (by (repeat' (first | with_reducible exact ev_c | ((with_reducible show Ev (tVar _) _ _ _); exact ev_var rfl) | with_reducible exact ea_nil | with_reducible exact eo_none | with_reducible refine' ea_cons ?_ ?_ | with_reducible refine' eo_some ?_ | with_reducible refine' ev_and2 ?_ ?_ | with_reducible refine' ev_or2 ?_ ?_ | with_reducible refine' ev_notV ?_ | with_reducible exact ru_I | with_reducible refine' ev_un ?_ ?_ | with_reducible exact rv_I0 | with_reducible exact rv_isN | with_reducible exact rv_notN | with_reducible refine' rv_I ?_ | with_reducible refine' rv_eq ?_ | with_reducible refine' rv_ne ?_ | with_reducible refine' ev_op ?_ ?_ ?_ | with_reducible refine' ev_chain2 ?_ ?_ ?_ ?_ ?_ | with_reducible refine' et_B ?_ | with_reducible refine' et_test ?_ | with_reducible refine' et_and2 ?_ ?_ | with_reducible refine' et_or2 ?_ ?_ | with_reducible refine' et_not ?_ | with_reducible refine' ev_call ?_ ?_ | with_reducible refine' ev_callS ?_ ?_ | with_reducible refine' ev_cb ?_ ?_ | with_reducible exact isi_bool (by assumption) | with_reducible exact isi_int (by assumption) | with_reducible exact isi_list (by assumption) | with_reducible exact rc_len (by assumption) | with_reducible exact rc_sum (by assumption) | with_reducible exact rc_abs | with_reducible exact isi_listL (by assumption) | with_reducible exact isi_intI | with_reducible exact isi_boolI | with_reducible exact rc_lenT (by assumption) | with_reducible exact isi_tup (by assumption) | with_reducible exact rv_eqL (by assumption) (by assumption) | with_reducible exact rv_neL (by assumption) (by assumption) | with_reducible exact rv_neT (by assumption) (by assumption) | with_reducible exact rv_ixL (by assumption) (by assumption) | with_reducible exact rv_ixT (by assumption) (by assumption) | with_reducible refine' ev_din ?_ ?_ (by assumption) | with_reducible refine' ev_dnotin ?_ ?_ (by assumption) | with_reducible refine' ev_dget ?_ ?_ (by assumption) (by assumption) | ((with_reducible show SpV _ _ _ _); assumption) | ((with_reducible show RV _ _ _ _ _); assumption) | ((with_reducible show RC _ _ _ _); assumption) | ((with_reducible show CDiv _ _); exact ⟨by omega, by omega⟩) | ((with_reducible show CMul _ _); first | exact .inl ⟨by omega, by omega⟩ | exact .inr ⟨by omega, by omega⟩) | ((with_reducible show CPow _ _); exact ⟨by omega, by omega, by first | decide | assumption | omega⟩) | ((with_reducible show (0 : Int) < _); omega) | ((with_reducible show (0 : Int) ≤ _); omega) | ((with_reducible show scal _ _ = true); rfl)))) (rc_isX C (.ty _) V))) fun H7 e7 => q H7 (((e1.trans e2).trans e6).trans e7)

end TB

/-! ### the law k16, joined -/
namespace TB
open PySem PySem.Spec PyProof.Rows L2 Evl SX
section
variable {K : PySem.W.Frag} {σ : L2.St} {H H' : Hp} {t1 t2 te tl : TE} {ta : TA} {tu tz : TS} {g : TG} {D : Ends}
/-- a for over a list that is made on the way, known by a word -/
theorem q_forD {R : List V → Hp → Prop} (h : ∀ Q : VK, (∀ p xs H2, Ex H H2 → H2 p = some (.lst xs) → R xs H2 → Q (.ref p) H2) → te σ H Q)
    (Pv : Hp → Nat → L2.St → Hp → Prop) (h0 : ∀ HB, Ex H HB → Pv HB 0 σ HB) (hk : ∀ HB i σ' H', Pv HB i σ' H' → Ex HB H')
    (hs : ∀ HB xs i x σ' H', Ex H HB → R xs HB → xs[i]? = some x → Pv HB i σ' H' → g x σ' H' fun σ2 H2 => tu { D with nx := Pv HB (i + 1), ct := Pv HB (i + 1), bk := tz D } σ2 H2)
    (hd : ∀ HB i σ' H', Ex H HB → Pv HB i σ' H' → tz D σ' H') : tSeq (tFor (iList K te) g tu) tz D σ H :=
  h _ fun p xs H2 e h2 r => ⟨p, rfl, ⟨xs, sq_of h2⟩, for_list (D := { D with nx := tz D }) (Pv H2) (h0 H2 e) (fun i σ' H' _ q => sq_of (hk _ _ _ _ q _ _ h2)) (fun i x σ' H' hi q => hs H2 xs i x σ' H' e r hi q) (fun σ' H' q => hd H2 _ σ' H' e q)⟩
theorem few_cat {sp1 sp2 : Sp} {d1 d2 : List V} {E1 E2 : XK} {ts : TA} {vs : List V} {r : R2} {Q : VK} (h : EvA ts σ H vs) (k : ∀ H1, Ex H H1 → sp1 (vs ++ d1) H1 (fun v H2 => [v].length ≤ sizeLine ∧ ∀ p, H2 p = none → sp2 d2 (upd H2 p (.lst [v])) (fun w H3 => r (.ref p) w H3 Q) E2) E1) :
    tOp r (tLst (tCons (tCall sp1 d1 E1 ts) tNil)) (tCall sp2 d2 E2 tNil) σ H Q := h H (Ex.refl H) _ fun H1 e1 => k H1 e1
theorem q_callX {sp : Sp} {dvs vs : List V} {E : XK} {i : Nat} (h : EvA ta σ H vs) (k : ∀ H1, Ex H H1 → sp (vs ++ dvs) H1 (fun v H2 => tz D (σ.set i (some v)) H2) E) : tSeq (tAsg (tCall sp dvs E ta) (gName i)) tz D σ H := h H (Ex.refl H) _ fun H1 e1 => k H1 e1
end
theorem sv_refused {K : PySem.W.Frag} {H : Hp} {v : V} (h : bad16 H v) : SpV (sp_refused K) [v] H (.bl true) := spv_of fun H1 e Q E q => ⟨v, rfl, by
  rcases h with h | ⟨h1, h2⟩
  · exact .inl h
  · exact .inr ⟨h1.mono e, h2⟩, q⟩
theorem sl_read {K : PySem.W.Frag} {H : Hp} {t : List Nat} {ns : List Int} (hz : t.length ≤ 40000) (h : readOf t = some ns) : SpL (sp_read K) [.str (S t)] H (ns.map V.int) := spl_of fun H1 e Q E q => ⟨_, rfl, .inl ⟨t, rfl, hz, by
  unfold readRe
  rw [h]
  exact q⟩⟩
def sp_law (K : PySem.W.Frag) : Sp := fun vs H Q E => ∃ (a : Addr) (ns : List Int), vs = [.ref a] ∧ SqL K H a (ns.map V.int) ∧ ∀ H', Q (.bl true) H'
theorem law_true {K : PySem.W.Frag} (H : Hp) (a : Addr) (ns : List Int) (_ : ns.length ≤ 63) (hS : SqL K H a (ns.map V.int)) : sp_law K [.ref a] H (fun v _ => v = .bl true) (fun _ _ _ => False) := ⟨a, ns, rfl, hS, fun _ => rfl⟩
def lawLevel : Nat := 5
theorem sc_law : FnScope ["_law_script", "_law_row", "_law_handed", "_law_text", "_law_thing", "_law_other", "_law_due"] ["_law_script"] (defScope s_law) := ⟨rfl, rfl, rfl, by decide +kernel, rfl, by decide +kernel, by decide +kernel⟩
theorem ok_law {P : Program} {w : World} {K : PySem.W.Frag} {mg : Str → Option Value} (T : TXT K mg) : OKL P w K mg "law" ["_law_script"] 5 (sp_law K) := by
  obtain ⟨fd, F⟩ := T.def_ 19
  refine ⟨_, fd, T.glo 18, F.bindsA (fun _ _ _ _ _ _ us hl => match us, hl with | [_], _ => rfl), fun base => ?_⟩
  have O__law_row_by := ok__law_row_by (P := P) (w := w) (base := base) T
  have O_written := ok_written (P := P) (w := w) (base := base) T
  have O__law_same := ok__law_same (P := P) (w := w) (base := base) T
  have O_read := ok_read (P := P) (w := w) (base := base) T
  have O__law_text_of := ok__law_text_of (P := P) (w := w) (base := base) T
  have O__law_refused := ok__law_refused (P := P) (w := w) (base := base) T
  have O__law_other_by := ok__law_other_by (P := P) (w := w) (base := base) T
  have O__law_few := ok__law_few (P := P) (w := w) (base := base) T
  have O__law_row_of := ok__law_row_of (P := P) (w := w) (base := base) T
  refine F.ok sc_law (fun vs H Q E h => ?_) (fun cdv A outer s H vs Q E hr h => ?_)
  · first | (obtain ⟨rfl, _⟩ := h; rfl) | (obtain ⟨_, rfl, _⟩ := h; rfl) | (obtain ⟨_, _, rfl, _⟩ := h; rfl) | (obtain ⟨_, _, _, rfl, _⟩ := h; rfl) | (obtain ⟨_, _, _, _, rfl, _⟩ := h; rfl) | (obtain ⟨_, _, _, _, _, rfl, _⟩ := h; rfl) | (obtain ⟨_, _, _, _, _, _, rfl, _⟩ := h; rfl) | (obtain ⟨_, _, _, _, _, _, _, rfl, _⟩ := h; rfl) | (obtain ⟨_, _, _, _, _, _, _, _, rfl, _⟩ := h; rfl)
  · replace F : FunD K "law" "law" (defArgs s_law) (defBody s_law) (defScope s_law) [] [] (He.ga K "law") fd := F
    refine ⟨_, (pss_cons (ps_set (i := 1) sc_law.nd rfl (Or.inl rfl) (pe_own O__law_row_by (hr.mono (by decide)) (by rfl) (passes_call (takes_of rfl rfl rfl rfl) (fun _ _ _ _ h => h)) (pa_cons (pv 0) pa_nil)))
      (pss_cons (ps_set (i := 2) sc_law.nd rfl (Or.inl rfl) (pe_callTy (T := "list") (k_list K) (by rfl) (T.free 34) (by decide +kernel) (pa_cons (pv 1) pa_nil)))
      (pss_cons (ps_set (i := 3) sc_law.nd rfl (Or.inl rfl) (pe_own O_written (hr.mono (by decide)) (by rfl) (passes_call (takes_of rfl rfl rfl rfl) (fun _ _ _ _ h => h)) (pa_cons (pv 2) pa_nil)))
      (pss_cons (ps_if (PW.pt (pw_or (pt_not (pt_val (pe_callB (id := "isinstance") (k_isi K) (by rfl) (T.free 32) (by decide +kernel) (pa_cons (pv 3) (pa_cons (pe_ty (T := "str") (T.free 36) (by decide +kernel)) pa_nil))))) (pw_or (pt_cmpR op_ne (pv 3) (pe_own O__law_text_of (hr.mono (by decide)) (by rfl) (passes_call (takes_of rfl rfl rfl rfl) (fun _ _ _ _ h => h)) (pa_cons (pv 1) pa_nil)) (nomark _)) (pw_or (pt_cmpR (k_neD K (units_of hr)) (pv 2) (pv 1) (nomark _)) (pw_or1 (pt_not (pt_val (pe_own O__law_same (hr.mono (by decide)) (by rfl) (passes_call (takes_of rfl rfl rfl rfl) (fun _ _ _ _ h => h)) (pa_cons (pe_own O_read (hr.mono (by decide)) (by rfl) (passes_call (takes_of rfl rfl rfl rfl) (fun _ _ _ _ h => h)) (pa_cons (pv 3) pa_nil)) (pa_cons (pv 1) pa_nil))))))))))
        (pss_one (ps_ret pe_bl))
        pss_nil)
      (pss_cons (ps_for (passes_of rfl) rfl (k_piL K (pe_lst (pa_cons pe_non (pa_cons pe_int (pa_cons (pe_lst (pa_cons pe_str pa_nil)) (pa_cons pe_bl pa_nil)))))) (pg_name (i := 4) sc_law.nd rfl (Or.inl rfl))
        (pss_one (ps_if (pt_not (pt_val (pe_own O__law_refused (hr.mono (by decide)) (by rfl) (passes_call (takes_of rfl rfl rfl rfl) (fun _ _ _ _ h => h)) (pa_cons (pv 4) pa_nil))))
        (pss_one (ps_ret pe_bl))
        pss_nil)))
      (pss_cons (ps_for (passes_of rfl) rfl (k_piL K (pe_op op_cat (pe_lst (pa_cons (pe_own O__law_other_by (hr.mono (by decide)) (by rfl) (passes_call (takes_of rfl rfl rfl rfl) (fun _ _ _ _ h => h)) (pa_cons (pv 3) (pa_cons (pv 0) pa_nil))) pa_nil)) (pe_own0 O__law_few (hr.mono (by decide)) (by rfl) (passes_call (takes_of rfl rfl rfl rfl) (fun _ _ _ _ h => h))))) (pg_name (i := 5) sc_law.nd rfl (Or.inl rfl))
        (pss_cons (ps_set (i := 6) sc_law.nd rfl (Or.inl rfl) (pe_own O__law_row_of (hr.mono (by decide)) (by rfl) (passes_call (takes_of rfl rfl rfl rfl) (fun _ _ _ _ h => h)) (pa_cons (pv 5) pa_nil)))
      (pss_one (ps_if (pt_cmpR op_isN (pv 6) pe_non (nomark _))
        (pss_one (ps_if (pt_not (pt_val (pe_own O__law_refused (hr.mono (by decide)) (by rfl) (passes_call (takes_of rfl rfl rfl rfl) (fun _ _ _ _ h => h)) (pa_cons (pv 5) pa_nil))))
        (pss_one (ps_ret pe_bl))
        pss_nil))
        (pss_one (ps_if (pt_not (pt_val (pe_own O__law_same (hr.mono (by decide)) (by rfl) (passes_call (takes_of rfl rfl rfl rfl) (fun _ _ _ _ h => h)) (pa_cons (pe_own O_read (hr.mono (by decide)) (by rfl) (passes_call (takes_of rfl rfl rfl rfl) (fun _ _ _ _ h => h)) (pa_cons (pv 5) pa_nil)) (pa_cons (pv 6) pa_nil)))))
        (pss_one (ps_ret pe_bl))
        pss_nil))))))
      (pss_one (ps_ret pe_bl)))))))), ?_⟩
    obtain ⟨a, cs, rfl, hs, q⟩ := h
    dsimp only [cxOf, L2.start, List.map_cons, List.map_nil, List.length_cons, List.length_nil, Nat.reduceAdd, Nat.reduceSub, List.replicate_succ, List.replicate_zero, List.cons_append, List.nil_append, Nat.zero_add, List.reduceReplicate, List.map]
    refine q_relL (vs := [.ref a]) (P := RowI) (by (repeat' (first | with_reducible exact ev_c | ((with_reducible show Ev (tVar _) _ _ _); exact ev_var rfl) | with_reducible exact ea_nil | with_reducible exact eo_none | with_reducible refine' ea_cons ?_ ?_ | with_reducible refine' eo_some ?_ | with_reducible refine' ev_and2 ?_ ?_ | with_reducible refine' ev_or2 ?_ ?_ | with_reducible refine' ev_notV ?_ | with_reducible exact ru_I | with_reducible refine' ev_un ?_ ?_ | with_reducible exact rv_I0 | with_reducible exact rv_isN | with_reducible exact rv_notN | with_reducible refine' rv_I ?_ | with_reducible refine' rv_eq ?_ | with_reducible refine' rv_ne ?_ | with_reducible refine' ev_op ?_ ?_ ?_ | with_reducible refine' ev_chain2 ?_ ?_ ?_ ?_ ?_ | with_reducible refine' et_B ?_ | with_reducible refine' et_test ?_ | with_reducible refine' et_and2 ?_ ?_ | with_reducible refine' et_or2 ?_ ?_ | with_reducible refine' et_not ?_ | with_reducible refine' ev_call ?_ ?_ | with_reducible refine' ev_callS ?_ ?_ | with_reducible refine' ev_cb ?_ ?_ | with_reducible exact isi_bool (by assumption) | with_reducible exact isi_int (by assumption) | with_reducible exact isi_list (by assumption) | with_reducible exact rc_len (by assumption) | with_reducible exact rc_sum (by assumption) | with_reducible exact rc_abs | with_reducible exact isi_listL (by assumption) | with_reducible exact isi_intI | with_reducible exact isi_boolI | with_reducible exact rc_lenT (by assumption) | with_reducible exact isi_tup (by assumption) | with_reducible exact rv_eqL (by assumption) (by assumption) | with_reducible exact rv_neL (by assumption) (by assumption) | with_reducible exact rv_neT (by assumption) (by assumption) | with_reducible exact rv_ixL (by assumption) (by assumption) | with_reducible exact rv_ixT (by assumption) (by assumption) | with_reducible refine' ev_din ?_ ?_ (by assumption) | with_reducible refine' ev_dnotin ?_ ?_ (by assumption) | with_reducible refine' ev_dget ?_ ?_ (by assumption) (by assumption) | ((with_reducible show SpV _ _ _ _); assumption) | ((with_reducible show RV _ _ _ _ _); assumption) | ((with_reducible show RC _ _ _ _); assumption) | ((with_reducible show CDiv _ _); exact ⟨by omega, by omega⟩) | ((with_reducible show CMul _ _); first | exact .inl ⟨by omega, by omega⟩ | exact .inr ⟨by omega, by omega⟩) | ((with_reducible show CPow _ _); exact ⟨by omega, by omega, by first | decide | assumption | omega⟩) | ((with_reducible show (0 : Int) < _); omega) | ((with_reducible show (0 : Int) ≤ _); omega) | ((with_reducible show scal _ _ = true); rfl)))) (fun H1 e1 Q E k => ⟨a, cs, rfl, ex_l e1 hs, k⟩) fun ns p H1 rn hp e1 h1 => ?_
    have hs1 := ex_l e1 hs
    have sp1 : SqL K H1 p (ns.map V.int) := sq_of h1
    refine q_asgL (el_cb (ea_cons (ev_var rfl) ea_nil) (rcl_list sp1)) fun hd H2 hhd e2 h2 => ?_
    have sp2 := ex_l e2 sp1
    have shd : SqL K H2 hd (ns.map V.int) := sq_of h2
    have rok : rowOk (some (ns.map V.int)) = true := rowOk_of rn
    have wr : SpV (sp_written K) [.ref hd] H2 (.str (S (textOf ns))) := spv_of fun H3 e3 Q E q => ⟨_, _, rfl, Row.of (e3 _ _ h2), by
      unfold wrRe
      rw [rok, rowsOf_some]
      exact q⟩
    refine q_asg (v := .str (S (textOf ns))) (by (repeat' (first | with_reducible exact ev_c | ((with_reducible show Ev (tVar _) _ _ _); exact ev_var rfl) | with_reducible exact ea_nil | with_reducible exact eo_none | with_reducible refine' ea_cons ?_ ?_ | with_reducible refine' eo_some ?_ | with_reducible refine' ev_and2 ?_ ?_ | with_reducible refine' ev_or2 ?_ ?_ | with_reducible refine' ev_notV ?_ | with_reducible exact ru_I | with_reducible refine' ev_un ?_ ?_ | with_reducible exact rv_I0 | with_reducible exact rv_isN | with_reducible exact rv_notN | with_reducible refine' rv_I ?_ | with_reducible refine' rv_eq ?_ | with_reducible refine' rv_ne ?_ | with_reducible refine' ev_op ?_ ?_ ?_ | with_reducible refine' ev_chain2 ?_ ?_ ?_ ?_ ?_ | with_reducible refine' et_B ?_ | with_reducible refine' et_test ?_ | with_reducible refine' et_and2 ?_ ?_ | with_reducible refine' et_or2 ?_ ?_ | with_reducible refine' et_not ?_ | with_reducible refine' ev_call ?_ ?_ | with_reducible refine' ev_callS ?_ ?_ | with_reducible refine' ev_cb ?_ ?_ | with_reducible exact isi_bool (by assumption) | with_reducible exact isi_int (by assumption) | with_reducible exact isi_list (by assumption) | with_reducible exact rc_len (by assumption) | with_reducible exact rc_sum (by assumption) | with_reducible exact rc_abs | with_reducible exact isi_listL (by assumption) | with_reducible exact isi_intI | with_reducible exact isi_boolI | with_reducible exact rc_lenT (by assumption) | with_reducible exact isi_tup (by assumption) | with_reducible exact rv_eqL (by assumption) (by assumption) | with_reducible exact rv_neL (by assumption) (by assumption) | with_reducible exact rv_neT (by assumption) (by assumption) | with_reducible exact rv_ixL (by assumption) (by assumption) | with_reducible exact rv_ixT (by assumption) (by assumption) | with_reducible refine' ev_din ?_ ?_ (by assumption) | with_reducible refine' ev_dnotin ?_ ?_ (by assumption) | with_reducible refine' ev_dget ?_ ?_ (by assumption) (by assumption) | ((with_reducible show SpV _ _ _ _); assumption) | ((with_reducible show RV _ _ _ _ _); assumption) | ((with_reducible show RC _ _ _ _); assumption) | ((with_reducible show CDiv _ _); exact ⟨by omega, by omega⟩) | ((with_reducible show CMul _ _); first | exact .inl ⟨by omega, by omega⟩ | exact .inr ⟨by omega, by omega⟩) | ((with_reducible show CPow _ _); exact ⟨by omega, by omega, by first | decide | assumption | omega⟩) | ((with_reducible show (0 : Int) < _); omega) | ((with_reducible show (0 : Int) ≤ _); omega) | ((with_reducible show scal _ _ = true); rfl)))) fun H3 e3 => ?_
    have e13 := e2.trans e3
    have hs3 := ex_l e13 hs1
    have sp3 := ex_l e13 sp1
    have shd3 := ex_l e3 shd
    obtain ⟨n1, n2, n3⟩ := rn
    have tlen := (text_len n3).2
    have tz : (textOf ns).length ≤ 600 := by omega
    have rd := read_text n3 n1 n2
    have si := isi_str (K := K) (H := H3) (Kd.str (S (textOf ns)))
    have tx : SpV (sp_text_of K) [.ref p] H3 (.str (S (textOf ns))) := spv_of fun H4 e4 Q E q => ⟨p, ns, rfl, ex_l e4 sp3, ⟨n1, n2, n3⟩, q⟩
    refine q_when (b := !isS (V.str (S (textOf ns))) || (!decide (V.str (S (textOf ns)) = V.str (S (textOf ns))) || (!decide (ns = ns) || !decide (ns = ns)))) (et_or2 (by (repeat' (first | with_reducible exact ev_c | ((with_reducible show Ev (tVar _) _ _ _); exact ev_var rfl) | with_reducible exact ea_nil | with_reducible exact eo_none | with_reducible refine' ea_cons ?_ ?_ | with_reducible refine' eo_some ?_ | with_reducible refine' ev_and2 ?_ ?_ | with_reducible refine' ev_or2 ?_ ?_ | with_reducible refine' ev_notV ?_ | with_reducible exact ru_I | with_reducible refine' ev_un ?_ ?_ | with_reducible exact rv_I0 | with_reducible exact rv_isN | with_reducible exact rv_notN | with_reducible refine' rv_I ?_ | with_reducible refine' rv_eq ?_ | with_reducible refine' rv_ne ?_ | with_reducible refine' ev_op ?_ ?_ ?_ | with_reducible refine' ev_chain2 ?_ ?_ ?_ ?_ ?_ | with_reducible refine' et_B ?_ | with_reducible refine' et_test ?_ | with_reducible refine' et_and2 ?_ ?_ | with_reducible refine' et_or2 ?_ ?_ | with_reducible refine' et_not ?_ | with_reducible refine' ev_call ?_ ?_ | with_reducible refine' ev_callS ?_ ?_ | with_reducible refine' ev_cb ?_ ?_ | with_reducible exact isi_bool (by assumption) | with_reducible exact isi_int (by assumption) | with_reducible exact isi_list (by assumption) | with_reducible exact rc_len (by assumption) | with_reducible exact rc_sum (by assumption) | with_reducible exact rc_abs | with_reducible exact isi_listL (by assumption) | with_reducible exact isi_intI | with_reducible exact isi_boolI | with_reducible exact rc_lenT (by assumption) | with_reducible exact isi_tup (by assumption) | with_reducible exact rv_eqL (by assumption) (by assumption) | with_reducible exact rv_neL (by assumption) (by assumption) | with_reducible exact rv_neT (by assumption) (by assumption) | with_reducible exact rv_ixL (by assumption) (by assumption) | with_reducible exact rv_ixT (by assumption) (by assumption) | with_reducible refine' ev_din ?_ ?_ (by assumption) | with_reducible refine' ev_dnotin ?_ ?_ (by assumption) | with_reducible refine' ev_dget ?_ ?_ (by assumption) (by assumption) | ((with_reducible show SpV _ _ _ _); assumption) | ((with_reducible show RV _ _ _ _ _); assumption) | ((with_reducible show RC _ _ _ _); assumption) | ((with_reducible show CDiv _ _); exact ⟨by omega, by omega⟩) | ((with_reducible show CMul _ _); first | exact .inl ⟨by omega, by omega⟩ | exact .inr ⟨by omega, by omega⟩) | ((with_reducible show CPow _ _); exact ⟨by omega, by omega, by first | decide | assumption | omega⟩) | ((with_reducible show (0 : Int) < _); omega) | ((with_reducible show (0 : Int) ≤ _); omega) | ((with_reducible show scal _ _ = true); rfl)))) (et_or2 (by (repeat' (first | with_reducible exact ev_c | ((with_reducible show Ev (tVar _) _ _ _); exact ev_var rfl) | with_reducible exact ea_nil | with_reducible exact eo_none | with_reducible refine' ea_cons ?_ ?_ | with_reducible refine' eo_some ?_ | with_reducible refine' ev_and2 ?_ ?_ | with_reducible refine' ev_or2 ?_ ?_ | with_reducible refine' ev_notV ?_ | with_reducible exact ru_I | with_reducible refine' ev_un ?_ ?_ | with_reducible exact rv_I0 | with_reducible exact rv_isN | with_reducible exact rv_notN | with_reducible refine' rv_I ?_ | with_reducible refine' rv_eq ?_ | with_reducible refine' rv_ne ?_ | with_reducible refine' ev_op ?_ ?_ ?_ | with_reducible refine' ev_chain2 ?_ ?_ ?_ ?_ ?_ | with_reducible refine' et_B ?_ | with_reducible refine' et_test ?_ | with_reducible refine' et_and2 ?_ ?_ | with_reducible refine' et_or2 ?_ ?_ | with_reducible refine' et_not ?_ | with_reducible refine' ev_call ?_ ?_ | with_reducible refine' ev_callS ?_ ?_ | with_reducible refine' ev_cb ?_ ?_ | with_reducible exact isi_bool (by assumption) | with_reducible exact isi_int (by assumption) | with_reducible exact isi_list (by assumption) | with_reducible exact rc_len (by assumption) | with_reducible exact rc_sum (by assumption) | with_reducible exact rc_abs | with_reducible exact isi_listL (by assumption) | with_reducible exact isi_intI | with_reducible exact isi_boolI | with_reducible exact rc_lenT (by assumption) | with_reducible exact isi_tup (by assumption) | with_reducible exact rv_eqL (by assumption) (by assumption) | with_reducible exact rv_neL (by assumption) (by assumption) | with_reducible exact rv_neT (by assumption) (by assumption) | with_reducible exact rv_ixL (by assumption) (by assumption) | with_reducible exact rv_ixT (by assumption) (by assumption) | with_reducible refine' ev_din ?_ ?_ (by assumption) | with_reducible refine' ev_dnotin ?_ ?_ (by assumption) | with_reducible refine' ev_dget ?_ ?_ (by assumption) (by assumption) | ((with_reducible show SpV _ _ _ _); assumption) | ((with_reducible show RV _ _ _ _ _); assumption) | ((with_reducible show RC _ _ _ _); assumption) | ((with_reducible show CDiv _ _); exact ⟨by omega, by omega⟩) | ((with_reducible show CMul _ _); first | exact .inl ⟨by omega, by omega⟩ | exact .inr ⟨by omega, by omega⟩) | ((with_reducible show CPow _ _); exact ⟨by omega, by omega, by first | decide | assumption | omega⟩) | ((with_reducible show (0 : Int) < _); omega) | ((with_reducible show (0 : Int) ≤ _); omega) | ((with_reducible show scal _ _ = true); rfl)))) (et_or2 (et_test (ev_op (ev_var rfl) (ev_var rfl) (rv_neL shd3 sp3))) (et_not (et_B (ev_cLV (el_call (ea_cons (ev_var rfl) ea_nil) (sl_read (by omega) rd)) (ev_var rfl) fun u H4 h4 e4 => sv_same h4 (ex_l e4 sp3) (by omega))))))) (fun h => by
      rw [decide_eq_true rfl, decide_eq_true rfl] at h
      cases h) (fun _ H4 e4 => ?_)
    have hs4 := ex_l e4 hs3
    refine q_forD (R := fun xs HB => ∃ w, xs = [.non, .int 5, .ref w, .bl true] ∧ HB w = some (.lst [.str "5"])) (fun Q k => ?_) (fun HB i σ' H' => ∃ y : Option V, σ' = [some (V.ref a), some (V.ref p), some (V.ref hd), some (V.str (S (textOf ns))), y, none, none] ∧ Ex HB H') (fun HB eB => ⟨_, rfl, Ex.refl HB⟩) (fun HB i σ' H' ⟨_, _, e⟩ => e) (fun HB xs i x σ' H' eB ⟨w, hxs, hw⟩ hx ⟨y, hσ, e5⟩ => ?_) (fun HB i σ' H' eB ⟨y, hσ, e5⟩ => ?_)
    · refine ⟨sz_of (by simp), fun w hw => ⟨sz_of (by simp), fun u hu => k u _ _ ((Ex.new hw).trans (Ex.new hu)) upd_same ⟨w, rfl, ?_⟩⟩⟩
      rw [upd_ne (ne_of_none upd_same hu)]
      exact upd_same
    · subst hσ hxs
      have bd : bad16 H' x := .inr (by
        have hm := List.mem_of_getElem? hx
        rcases List.mem_cons.mp hm with rfl | hm
        · exact ⟨.non, rfl⟩
        rcases List.mem_cons.mp hm with rfl | hm
        · exact ⟨.int _, rfl⟩
        rcases List.mem_cons.mp hm with rfl | hm
        · exact ⟨.lst (e5 _ _ hw), rfl⟩
        rw [List.mem_singleton.mp hm]
        exact ⟨.bl _, rfl⟩)
      have sr := sv_refused (K := K) bd
      show tIfS _ _ _ _ _ _
      exact s_when (b := !true) (by (repeat' (first | with_reducible exact ev_c | ((with_reducible show Ev (tVar _) _ _ _); exact ev_var rfl) | with_reducible exact ea_nil | with_reducible exact eo_none | with_reducible refine' ea_cons ?_ ?_ | with_reducible refine' eo_some ?_ | with_reducible refine' ev_and2 ?_ ?_ | with_reducible refine' ev_or2 ?_ ?_ | with_reducible refine' ev_notV ?_ | with_reducible exact ru_I | with_reducible refine' ev_un ?_ ?_ | with_reducible exact rv_I0 | with_reducible exact rv_isN | with_reducible exact rv_notN | with_reducible refine' rv_I ?_ | with_reducible refine' rv_eq ?_ | with_reducible refine' rv_ne ?_ | with_reducible refine' ev_op ?_ ?_ ?_ | with_reducible refine' ev_chain2 ?_ ?_ ?_ ?_ ?_ | with_reducible refine' et_B ?_ | with_reducible refine' et_test ?_ | with_reducible refine' et_and2 ?_ ?_ | with_reducible refine' et_or2 ?_ ?_ | with_reducible refine' et_not ?_ | with_reducible refine' ev_call ?_ ?_ | with_reducible refine' ev_callS ?_ ?_ | with_reducible refine' ev_cb ?_ ?_ | with_reducible exact isi_bool (by assumption) | with_reducible exact isi_int (by assumption) | with_reducible exact isi_list (by assumption) | with_reducible exact rc_len (by assumption) | with_reducible exact rc_sum (by assumption) | with_reducible exact rc_abs | with_reducible exact isi_listL (by assumption) | with_reducible exact isi_intI | with_reducible exact isi_boolI | with_reducible exact rc_lenT (by assumption) | with_reducible exact isi_tup (by assumption) | with_reducible exact rv_eqL (by assumption) (by assumption) | with_reducible exact rv_neL (by assumption) (by assumption) | with_reducible exact rv_neT (by assumption) (by assumption) | with_reducible exact rv_ixL (by assumption) (by assumption) | with_reducible exact rv_ixT (by assumption) (by assumption) | with_reducible refine' ev_din ?_ ?_ (by assumption) | with_reducible refine' ev_dnotin ?_ ?_ (by assumption) | with_reducible refine' ev_dget ?_ ?_ (by assumption) (by assumption) | ((with_reducible show SpV _ _ _ _); assumption) | ((with_reducible show RV _ _ _ _ _); assumption) | ((with_reducible show RC _ _ _ _); assumption) | ((with_reducible show CDiv _ _); exact ⟨by omega, by omega⟩) | ((with_reducible show CMul _ _); first | exact .inl ⟨by omega, by omega⟩ | exact .inr ⟨by omega, by omega⟩) | ((with_reducible show CPow _ _); exact ⟨by omega, by omega, by first | decide | assumption | omega⟩) | ((with_reducible show (0 : Int) < _); omega) | ((with_reducible show (0 : Int) ≤ _); omega) | ((with_reducible show scal _ _ = true); rfl)))) (fun h => by cases h) (fun _ H6 e6 => ⟨_, rfl, e5.trans e6⟩)
    subst hσ
    have e45 := eB.trans e5
    have hs5 := ex_l e45 hs4
    refine q_forD (R := fun xs HB => ∃ us : List (List Nat), xs = us.map (fun u => V.str (S u)) ∧ ∀ u ∈ us, u.length ≤ 2000) (fun Q k => ?_) (fun HB i σ' H' => ∃ y5 y6 : Option V, σ' = [some (V.ref a), some (V.ref p), some (V.ref hd), some (V.str (S (textOf ns))), y, y5, y6] ∧ Ex HB H') (fun HB eB => ⟨_, _, rfl, Ex.refl HB⟩) (fun HB i σ' H' ⟨_, _, _, e⟩ => e) (fun HB xs i x σ' H6 eB2 ⟨us, hxs, hz⟩ hx ⟨y5, y6, hσ, e6⟩ => ?_) (fun HB i σ' H6 eB2 ⟨y5, y6, hσ, e6⟩ => ?_)
    · have ea : EvA (tCons (tVar 3) (tCons (tVar 0) tNil)) [some (V.ref a), some (V.ref p), some (V.ref hd), some (V.str (S (textOf ns))), y, none, none] H' [.str (S (textOf ns)), .ref a] := by (repeat' (first | with_reducible exact ev_c | ((with_reducible show Ev (tVar _) _ _ _); exact ev_var rfl) | with_reducible exact ea_nil | with_reducible exact eo_none | with_reducible refine' ea_cons ?_ ?_ | with_reducible refine' eo_some ?_ | with_reducible refine' ev_and2 ?_ ?_ | with_reducible refine' ev_or2 ?_ ?_ | with_reducible refine' ev_notV ?_ | with_reducible exact ru_I | with_reducible refine' ev_un ?_ ?_ | with_reducible exact rv_I0 | with_reducible exact rv_isN | with_reducible exact rv_notN | with_reducible refine' rv_I ?_ | with_reducible refine' rv_eq ?_ | with_reducible refine' rv_ne ?_ | with_reducible refine' ev_op ?_ ?_ ?_ | with_reducible refine' ev_chain2 ?_ ?_ ?_ ?_ ?_ | with_reducible refine' et_B ?_ | with_reducible refine' et_test ?_ | with_reducible refine' et_and2 ?_ ?_ | with_reducible refine' et_or2 ?_ ?_ | with_reducible refine' et_not ?_ | with_reducible refine' ev_call ?_ ?_ | with_reducible refine' ev_callS ?_ ?_ | with_reducible refine' ev_cb ?_ ?_ | with_reducible exact isi_bool (by assumption) | with_reducible exact isi_int (by assumption) | with_reducible exact isi_list (by assumption) | with_reducible exact rc_len (by assumption) | with_reducible exact rc_sum (by assumption) | with_reducible exact rc_abs | with_reducible exact isi_listL (by assumption) | with_reducible exact isi_intI | with_reducible exact isi_boolI | with_reducible exact rc_lenT (by assumption) | with_reducible exact isi_tup (by assumption) | with_reducible exact rv_eqL (by assumption) (by assumption) | with_reducible exact rv_neL (by assumption) (by assumption) | with_reducible exact rv_neT (by assumption) (by assumption) | with_reducible exact rv_ixL (by assumption) (by assumption) | with_reducible exact rv_ixT (by assumption) (by assumption) | with_reducible refine' ev_din ?_ ?_ (by assumption) | with_reducible refine' ev_dnotin ?_ ?_ (by assumption) | with_reducible refine' ev_dget ?_ ?_ (by assumption) (by assumption) | ((with_reducible show SpV _ _ _ _); assumption) | ((with_reducible show RV _ _ _ _ _); assumption) | ((with_reducible show RC _ _ _ _); assumption) | ((with_reducible show CDiv _ _); exact ⟨by omega, by omega⟩) | ((with_reducible show CMul _ _); first | exact .inl ⟨by omega, by omega⟩ | exact .inr ⟨by omega, by omega⟩) | ((with_reducible show CPow _ _); exact ⟨by omega, by omega, by first | decide | assumption | omega⟩) | ((with_reducible show (0 : Int) < _); omega) | ((with_reducible show (0 : Int) ≤ _); omega) | ((with_reducible show scal _ _ = true); rfl)))
      refine few_cat ea fun H6 e6 => ?_
      refine ⟨textOf ns, a, cs, rfl, ex_l e6 hs5, by omega, fun u hu H7 e7 => ⟨sz_of (by simp), fun b hb => ⟨rfl, fun fs hf1 hf2 c H8 hc e8 h8 => ?_⟩⟩⟩
      have eb := e8 _ _ (upd_same (H := H7) (a := b) (o := .lst [V.str (S u)]))
      refine ⟨b, c, _, _, rfl, rfl, eb, h8, sz_of (by rw [List.length_map]; simp; omega), fun w hw => k w _ _ ((((e6.trans e7).trans (Ex.new hb)).trans e8).trans (Ex.new hw)) upd_same ⟨u :: fs.map (fun x => x.cps.toList), ?_, fun v hv => ?_⟩⟩
      · rw [List.map_cons, List.map_map]
        show V.str (S u) :: fs.map V.str = _
        congr 1
      · rcases List.mem_cons.mp hv with rfl | hv
        · exact hu
        · obtain ⟨x, hx, rfl⟩ := List.mem_map.mp hv
          have := hf2 x hx
          have e : x.cps.toList.length = x.length := by
            show _ = x.cps.size
            simp
          omega
    · subst hσ hxs
      rw [List.getElem?_map] at hx
      obtain ⟨u, hu, rfl⟩ := Option.map_eq_some_iff.mp hx
      have hul := hz u (List.mem_of_getElem? hu)
      refine q_callX (vs := [.str (S u)]) (by (repeat' (first | with_reducible exact ev_c | ((with_reducible show Ev (tVar _) _ _ _); exact ev_var rfl) | with_reducible exact ea_nil | with_reducible exact eo_none | with_reducible refine' ea_cons ?_ ?_ | with_reducible refine' eo_some ?_ | with_reducible refine' ev_and2 ?_ ?_ | with_reducible refine' ev_or2 ?_ ?_ | with_reducible refine' ev_notV ?_ | with_reducible exact ru_I | with_reducible refine' ev_un ?_ ?_ | with_reducible exact rv_I0 | with_reducible exact rv_isN | with_reducible exact rv_notN | with_reducible refine' rv_I ?_ | with_reducible refine' rv_eq ?_ | with_reducible refine' rv_ne ?_ | with_reducible refine' ev_op ?_ ?_ ?_ | with_reducible refine' ev_chain2 ?_ ?_ ?_ ?_ ?_ | with_reducible refine' et_B ?_ | with_reducible refine' et_test ?_ | with_reducible refine' et_and2 ?_ ?_ | with_reducible refine' et_or2 ?_ ?_ | with_reducible refine' et_not ?_ | with_reducible refine' ev_call ?_ ?_ | with_reducible refine' ev_callS ?_ ?_ | with_reducible refine' ev_cb ?_ ?_ | with_reducible exact isi_bool (by assumption) | with_reducible exact isi_int (by assumption) | with_reducible exact isi_list (by assumption) | with_reducible exact rc_len (by assumption) | with_reducible exact rc_sum (by assumption) | with_reducible exact rc_abs | with_reducible exact isi_listL (by assumption) | with_reducible exact isi_intI | with_reducible exact isi_boolI | with_reducible exact rc_lenT (by assumption) | with_reducible exact isi_tup (by assumption) | with_reducible exact rv_eqL (by assumption) (by assumption) | with_reducible exact rv_neL (by assumption) (by assumption) | with_reducible exact rv_neT (by assumption) (by assumption) | with_reducible exact rv_ixL (by assumption) (by assumption) | with_reducible exact rv_ixT (by assumption) (by assumption) | with_reducible refine' ev_din ?_ ?_ (by assumption) | with_reducible refine' ev_dnotin ?_ ?_ (by assumption) | with_reducible refine' ev_dget ?_ ?_ (by assumption) (by assumption) | ((with_reducible show SpV _ _ _ _); assumption) | ((with_reducible show RV _ _ _ _ _); assumption) | ((with_reducible show RC _ _ _ _); assumption) | ((with_reducible show CDiv _ _); exact ⟨by omega, by omega⟩) | ((with_reducible show CMul _ _); first | exact .inl ⟨by omega, by omega⟩ | exact .inr ⟨by omega, by omega⟩) | ((with_reducible show CPow _ _); exact ⟨by omega, by omega, by first | decide | assumption | omega⟩) | ((with_reducible show (0 : Int) < _); omega) | ((with_reducible show (0 : Int) ≤ _); omega) | ((with_reducible show scal _ _ = true); rfl)))) fun H7 e7 => ⟨u, rfl, by omega, ?_⟩
      unfold rowRe
      cases hr : readOf u with
      | none =>
        intro H8 e8
        dsimp only [List.set]
        refine s_if (b := decide (V.non = V.non)) (et_test (ev_op (ev_var rfl) ev_c rv_isN)) (fun _ H9 e9 => ?_) (fun h => by simp at h)
        have sr := sv_refused (K := K) (H := H9) (v := .str (S u)) (.inl ⟨u, rfl, by omega, hr⟩)
        exact s_when (b := !true) (by (repeat' (first | with_reducible exact ev_c | ((with_reducible show Ev (tVar _) _ _ _); exact ev_var rfl) | with_reducible exact ea_nil | with_reducible exact eo_none | with_reducible refine' ea_cons ?_ ?_ | with_reducible refine' eo_some ?_ | with_reducible refine' ev_and2 ?_ ?_ | with_reducible refine' ev_or2 ?_ ?_ | with_reducible refine' ev_notV ?_ | with_reducible exact ru_I | with_reducible refine' ev_un ?_ ?_ | with_reducible exact rv_I0 | with_reducible exact rv_isN | with_reducible exact rv_notN | with_reducible refine' rv_I ?_ | with_reducible refine' rv_eq ?_ | with_reducible refine' rv_ne ?_ | with_reducible refine' ev_op ?_ ?_ ?_ | with_reducible refine' ev_chain2 ?_ ?_ ?_ ?_ ?_ | with_reducible refine' et_B ?_ | with_reducible refine' et_test ?_ | with_reducible refine' et_and2 ?_ ?_ | with_reducible refine' et_or2 ?_ ?_ | with_reducible refine' et_not ?_ | with_reducible refine' ev_call ?_ ?_ | with_reducible refine' ev_callS ?_ ?_ | with_reducible refine' ev_cb ?_ ?_ | with_reducible exact isi_bool (by assumption) | with_reducible exact isi_int (by assumption) | with_reducible exact isi_list (by assumption) | with_reducible exact rc_len (by assumption) | with_reducible exact rc_sum (by assumption) | with_reducible exact rc_abs | with_reducible exact isi_listL (by assumption) | with_reducible exact isi_intI | with_reducible exact isi_boolI | with_reducible exact rc_lenT (by assumption) | with_reducible exact isi_tup (by assumption) | with_reducible exact rv_eqL (by assumption) (by assumption) | with_reducible exact rv_neL (by assumption) (by assumption) | with_reducible exact rv_neT (by assumption) (by assumption) | with_reducible exact rv_ixL (by assumption) (by assumption) | with_reducible exact rv_ixT (by assumption) (by assumption) | with_reducible refine' ev_din ?_ ?_ (by assumption) | with_reducible refine' ev_dnotin ?_ ?_ (by assumption) | with_reducible refine' ev_dget ?_ ?_ (by assumption) (by assumption) | ((with_reducible show SpV _ _ _ _); assumption) | ((with_reducible show RV _ _ _ _ _); assumption) | ((with_reducible show RC _ _ _ _); assumption) | ((with_reducible show CDiv _ _); exact ⟨by omega, by omega⟩) | ((with_reducible show CMul _ _); first | exact .inl ⟨by omega, by omega⟩ | exact .inr ⟨by omega, by omega⟩) | ((with_reducible show CPow _ _); exact ⟨by omega, by omega, by first | decide | assumption | omega⟩) | ((with_reducible show (0 : Int) < _); omega) | ((with_reducible show (0 : Int) ≤ _); omega) | ((with_reducible show scal _ _ = true); rfl)))) (fun h => by cases h) (fun _ H10 e10 => ⟨_, _, rfl, (((e6.trans e7).trans e8).trans e9).trans e10⟩)
      | some ms =>
        intro w H8 hw e8 h8
        dsimp only [List.set]
        refine s_if (b := decide (V.ref w = V.non)) (et_test (ev_op (ev_var rfl) ev_c rv_isN)) (fun h => by simp at h) (fun _ H9 e9 => ?_)
        have ml : ms.length ≤ 1000 := by
          unfold readOf at hr
          split at hr
          · split at hr
            · injection hr with hr
              subst hr
              omega
            · cases hr
          · cases hr
        have s9 : SqL K H9 w (ms.map V.int) := sq_of (e9 _ _ h8)
        refine s_when (b := !decide (ms = ms)) (et_not (et_B (ev_cLV (el_call (ea_cons (ev_var rfl) ea_nil) (sl_read (by omega) hr)) (ev_var rfl) fun v H10 h10 e10 => sv_same h10 (ex_l e10 s9) ml))) (fun h => by simp at h) (fun _ H10 e10 => ⟨_, _, rfl, (((e6.trans e7).trans e8).trans e9).trans e10⟩)
    · exact s_ret (v := .bl true) ev_c fun H7 e7 => q H7

end TB

/-! ### the head's run -/
namespace TB
open PySem PySem.Spec PyProof.Rows L2 Evl
abbrev R : PySem.W.OpenRow := PySem.W.OpenLaw.row PySem.Challenge.rw_tossbook_k16_written
abbrev hk : PySem.W.Hook := hookM 5 fa fn ex
def ob (s : PySem.W.SharedT) : AlM := obsMG 5 fa fn ex (HandSHeadRun.getT s)
theorem ob_eq (s : PySem.W.SharedT) : ob s = hk.obs s.abs := obsMG_eq (HandSHeadRun.getT_eq s)
theorem run (w : World) : HandSHeadRun.RunEq R (PySem.W.view R.prog [33]) hk ob 4000 ((["TossError", "NotARow", "OtherLength", "OutOfBounds", "NotPlain", "NoThrow", "NotWritten", "Clash", "GREATEST", "LONGEST", "is_whole", "within", "check_row", "SIGNS", "written", "number_of", "read", "_law_cell_at", "_law_mixed", "_law_size_by", "_law_spots_by", "_law_same", "_law_row_by", "_law_text_of", "_law_other_by", "_law_few", "_law_number_of", "_law_row_of", "_law_refused"] : List PySem.Str)) w := by
  intro os
  kernel_rfl
end TB

/-! ### the end -/
namespace TB
open PySem PySem.Spec PyProof.Rows L2 Evl
theorem ref_inj {a b : Addr} (h : (some (.ref a) : Option Value) = some (.ref b)) : a = b := by
  cases h
  rfl
theorem fn_cx0 {P : Program} {w : World} {K : PySem.W.Frag} {mg : Str → Option Value} {base : Heap} {k : Nat} {f : Addr} {fd : FuncData} {ps : List Str} {sp : Sp} (F : FnOk P w K mg base (L2.CX P w) k f fd ps sp) :
    FnOk P w K mg base CX0 k f fd ps (fun vs H Q _ => sp vs H Q (fun _ _ _ => False)) :=
  ⟨fun vs H Q E h => F.len vs H Q _ h, fun A outer s H args us vs Q E hr he hb hv hs => codeAny_mono (F.run A outer s H args us vs Q (fun _ _ _ => False) hr he hb hv hs) fun r s' hq => by
    cases r with
    | error e =>
      obtain ⟨_, _, _, _, _, _, _, _, _, _, _, _, z⟩ := (show L2.CX P w outer H s (fun _ _ _ => False) e s' from hq)
      exact z.elim
    | ok fl => cases fl <;> exact hq⟩
end TB
open PySem PySem.W PySem.Calls PyProof.Rows
theorem PySem.Challenge.cw_tossbook_k16_written_holds : PySem.Challenge.rw_tossbook_k16_written.Holds := by
  w_on; o_law
  refine HandSHeadRun.head_any (r := OpenLaw.row PySem.Challenge.rw_tossbook_k16_written) (q := view (OpenLaw.row PySem.Challenge.rw_tossbook_k16_written).prog [33]) (H := TB.hk) (ob := TB.ob) (M := 4000) (loose := (["TossError", "NotARow", "OtherLength", "OutOfBounds", "NotPlain", "NoThrow", "NotWritten", "Clash", "GREATEST", "LONGEST", "is_whole", "within", "check_row", "SIGNS", "written", "number_of", "read", "_law_cell_at", "_law_mixed", "_law_size_by", "_law_spots_by", "_law_same", "_law_row_by", "_law_text_of", "_law_other_by", "_law_few", "_law_number_of", "_law_row_of", "_law_refused"] : List PySem.Str)) (d := HandSHeadRun.topDef (OpenLaw.row PySem.Challenge.rw_tossbook_k16_written).prog 33) (kwd := []) TB.ob_eq
    (by kernel_rfl) (fun s => by kernel_rfl) TB.run (by kernel_rfl) (by kernel_rfl) (by kernel_rfl) (by rfl) (by first | assumption | decide +kernel) (by decide +kernel) ⟨rfl, rfl, rfl, rfl, rfl, by decide +kernel⟩ ?hw ?hc
  case hw => w_witness2
  case hc =>
    refine L2.walk_ofE (l := PySem.Challenge.rw_tossbook_k16_written) (n := 63) (k := TB.lawLevel) (x := "_law_script") (CX := L2.CX0) rfl (by decide) (by kernel_rfl) ⟨rfl, by decide, by decide⟩ ?F (fun _ _ _ _ z => z)
    intro w mg fa h Y G hmg0
    obtain ⟨K, KX, c⟩ := Y
    have hmg : mg ("law" : PySem.Str) = some (.ref fa) := by
      have e : (HandSHeadRun.topDef (OpenLaw.row PySem.Challenge.rw_tossbook_k16_written).prog 33).name = ("law" : PySem.Str) := by kernel_rfl
      rw [← e]
      exact hmg0
    have T : TB.TXT K mg := ⟨⟨h, KX, G⟩, c⟩
    obtain ⟨f0, fd, g, bA, F⟩ := (TB.ok_law (P := (PySem.Challenge.rw_tossbook_k16_written).prog) (w := w) T).ex
    have ef : f0 = fa := TB.ref_inj (g.symm.trans hmg)
    subst ef
    exact ⟨K, fd, _, KX, fun s v => bA s [v] rfl, fun H a ns hl _ hS => TB.law_true H a ns hl hS, fun base _ _ => TB.fn_cx0 (F base)⟩
#print axioms PySem.Challenge.cw_tossbook_k16_written_holds


