import PyProof.Rows.All
import Wide.All
import OpenK.AllK
import Wide.FinOn
import KE.KStateDown
import HandS.ForMost
import HandS.ForExc
import HandS.ExcInit
import HandS.ExcField
import HandS.ExcIs
import HandS.TryMany
import HandS.IsInst
import HandS.Evl
import HandS.Defaults
import HandS.Flow
import HandS.Style
import HandS.SortInts
import HandS.Head0
import HandS.Head1
import HandS.Head2
import HandS.HeadEnd
import HandS.HeadHook1
import HandS.HeadHook2
import HandS.Zip
import HandS.SortRule
import HandS.Finally
import HandS.More
import HandS.Walk
import HandS.Deep
import HandS.Codes
import HandS.Replace
import HandS.Text
import HandS.Iter
import HandS.ClsMeth
import HandS.SetFor
import KE.DataCmp
import KE.SortData
import PySem.Challenge.RW_tossbook_k15_whole_changes
set_option Elab.async false
set_option linter.all false
set_option maxRecDepth 100000
set_option maxHeartbeats 4000000

/-! ### the head's facts, calls by name, what raises -/
namespace TB
open PySem PySem.Spec PyProof.Rows L2 Evl

/-! the hook: the defs, the facts, one Bool more -/
abbrev AlM : Type := He.AlD × Bool
def obsMG (n : Nat) (fa : List He.Fa) (fn : List He.DefD) (ex : PySem.W.Frag → Bool) (g : Addr → Option Obj) : AlM :=
  (He.obsD fa fn (He.frG g (He.asD g n ++ [cStatics])), ex (He.frG g (He.asD g n ++ [cStatics])))
def SaysM (fa : List He.Fa) (fn : List He.DefD) (ex : PySem.W.Frag → Bool) (K : PySem.W.Frag) : Prop := He.SaysD fa fn K ∧ ex K = true
def hookM (n : Nat) (fa : List He.Fa) (fn : List He.DefD) (ex : PySem.W.Frag → Bool) : PySem.W.Hook where
  α := AlM
  obs := fun s => obsMG n fa fn ex s.heap.get?
  val := fun _ => (He.valD fn, true)
  says := fun _ h => ∃ K : PySem.W.Frag, K.In h ∧ SaysM fa fn ex K
  of := fun _ _ e => ⟨_, He.frG_in, congrArg (fun z : AlM => z.1) e, congrArg (fun z : AlM => z.2) e⟩
  keeps := fun _ _ _ ⟨K, hK, c⟩ k => ⟨K, PySem.W.Frag.In.keeps hK k, c⟩
theorem obsMG_eq {n : Nat} {fa : List He.Fa} {fn : List He.DefD} {ex : PySem.W.Frag → Bool} {g : Addr → Option Obj} {s : Shared} (h : ∀ a, g a = s.heap.get? a) : obsMG n fa fn ex g = (hookM n fa fn ex).obs s := by
  have e : g = s.heap.get? := funext h
  rw [e] <;> rfl

/-- what the walk asks of the top -/
structure TX (fa : List He.Fa) (fn : List He.DefD) (ex : PySem.W.Frag → Bool) (K : PySem.W.Frag) (mg : Str → Option Value) : Prop where
  kx : ∃ h : Heap, K.In h ∧ h.Ns mainGlobals mg
  c : SaysM fa fn ex K
section
variable {fa : List He.Fa} {fn : List He.DefD} {ex : PySem.W.Frag → Bool} {K : PySem.W.Frag} {mg : Str → Option Value}
theorem TX.fact (T : TX fa fn ex K mg) (i : Nat) {f : He.Fa} (h : fa[i]? = some f := by rfl) : f.ok K = true := T.c.1.fact i h
theorem TX.glo (T : TX fa fn ex K mg) (i : Nat) {x : Str} (h : fa[i]? = some (.glo x) := by rfl) : mg x = some (.ref (He.ga K x)) := by
  obtain ⟨h0, X, G⟩ := T.kx
  exact He.glo_ok X G (T.fact i h)
theorem TX.free (T : TX fa fn ex K mg) (i : Nat) {x : Str} (h : fa[i]? = some (.free x) := by rfl) : mg x = none := by
  obtain ⟨h0, X, G⟩ := T.kx
  exact He.free_ok X G (T.fact i h)
theorem TX.int (T : TX fa fn ex K mg) (i : Nat) {x : Str} {j : Int} (h : fa[i]? = some (.int x j) := by rfl) : ∃ t, mg x = some (.int j t) := by
  obtain ⟨h0, X, G⟩ := T.kx
  exact He.int_ok X G (T.fact i h)
theorem TX.str (T : TX fa fn ex K mg) (i : Nat) {x z : Str} (h : fa[i]? = some (.str x z) := by rfl) : ∃ t, mg x = some (.str z t) := by
  obtain ⟨h0, X, G⟩ := T.kx
  exact He.str_ok X G (T.fact i h)
theorem TX.def_ (T : TX fa fn ex K mg) (i : Nat) {d : He.DefD} (h : fn[i]? = some d := by rfl) : ∃ fd, FunD K d.name d.qual d.params d.body d.scope (d.dvs K) (d.kws K) (He.fAd K d.at_) fd := T.c.1.def_ i h
end

/-- a def of the top keeps its promise, and is called by its name -/
structure OK (P : Program) (w : World) (K : PySem.W.Frag) (mg : Str → Option Value) (base : Heap) (x : Str) (ps : List Str) (k : Nat) (sp : Sp) : Prop where
  ex : ∃ f fd, mg x = some (.ref f) ∧ PySem.W.keepIn K (.ref f) = true ∧ Binds K fd ps [] ∧ FnOk P w K mg base (L2.CX P w) k f fd ps sp ∧ ∀ (s : Shared) (us : List Value), us.length = ps.length → BindsTo s fd ⟨us, []⟩ (ps.zip us)
/-- the law's own def -/
structure OKL (P : Program) (w : World) (K : PySem.W.Frag) (mg : Str → Option Value) (x : Str) (ps : List Str) (k : Nat) (sp : Sp) : Prop where
  ex : ∃ f fd, mg x = some (.ref f) ∧ (∀ (s : Shared) (us : List Value), us.length = ps.length → BindsTo s fd ⟨us, []⟩ (ps.zip us)) ∧ ∀ base : Heap, FnOk P w K mg base (L2.CX P w) k f fd ps sp
section
variable {X : Cx} {k : Nat} {ps : List Str} {sp : Sp} {E : XK} {x : Str} {p pos : Pos} {e : Expr} {es : List Expr} {t : TA} {te : TE}
theorem pe_own (O : OK X.prog X.w X.K X.mg X.base x ps k sp) (hr : Room k X.A) (hg : Gl X x) (hx : Passes (L2.CX X.prog X.w) X E) (ha : PA X (e :: es) t)
    (hdb : (x == ("__debug__" : Str)) = false := by decide) (he : starEach (e :: es) X.env = (false, eval e X.env) :: starEach es X.env := by rfl) (hpl : (backTo pos (starEach es X.env)).any (·.1) = false := by rfl) :
    PE X (.Call (.Name x p) (e :: es) [] pos) (tCall sp [] E t) := by
  obtain ⟨f, fd, g, kp, b, F, _⟩ := O.ex
  exact pe_call F hr hg g kp b .nil hx ha hdb he hpl
theorem pe_own0 (O : OK X.prog X.w X.K X.mg X.base x [] k sp) (hr : Room k X.A) (hg : Gl X x) (hx : Passes (L2.CX X.prog X.w) X E)
    (hdb : (x == ("__debug__" : Str)) = false := by decide) :
    PE X (.Call (.Name x p) [] [] pos) (tCall sp [] E tNil) := by
  obtain ⟨f, fd, g, kp, b, F, _⟩ := O.ex
  exact pe_call0 F hr hg g kp b .nil hx hdb
theorem pe_ownS {E : L2.St → XK} (O : OK X.prog X.w X.K X.mg X.base x ps k sp) (hr : Room k X.A) (hg : Gl X x) (hx : ∀ σ, PassesAt (L2.CX X.prog X.w) X σ (E σ)) (ha : PA X (e :: es) t)
    (hdb : (x == ("__debug__" : Str)) = false := by decide) (he : starEach (e :: es) X.env = (false, eval e X.env) :: starEach es X.env := by rfl) (hpl : (backTo pos (starEach es X.env)).any (·.1) = false := by rfl) :
    PE X (.Call (.Name x p) (e :: es) [] pos) (tCallS sp E t) := by
  obtain ⟨f, fd, g, kp, b, F, _⟩ := O.ex
  exact pe_callS F hr hg g kp b hx ha hdb he hpl
theorem pe_gi {i : Int} (h : ∃ t, X.mg x = some (.int i t)) (hg : Gl X x := by rfl) (hd : (x == ("__debug__" : Str)) = false := by decide) : PE X (.Name x pos) (tC (.int i)) := by
  obtain ⟨t, h⟩ := h
  exact pe_glob hg h ⟨t, rfl⟩ hd
theorem pe_gs {z : Str} (h : ∃ t, X.mg x = some (.str z t)) (hg : Gl X x := by rfl) (hd : (x == ("__debug__" : Str)) = false := by decide) : PE X (.Name x pos) (tC (.str z)) := by
  obtain ⟨t, h⟩ := h
  exact pe_glob hg h ⟨t, rfl⟩ hd
/-- a built-in class as a value -/
theorem pe_ty {T : String} (hm : X.mg x = none) (hv : bootBuiltins x = some (.type T)) (hg : Gl X x := by rfl) (hn : x ≠ "__name__" := by decide) (hd : (x == ("__debug__" : Str)) = false := by decide) : PE X (.Name x pos) (tC (.ty T)) :=
  pe_bltn hg hm hv rfl hn hd
/-- an own class, an own def as a value -/
theorem pe_cls {C : Addr} (hm : X.mg x = some (.ref C)) (hg : Gl X x := by rfl) (hd : (x == ("__debug__" : Str)) = false := by decide) : PE X (.Name x pos) (tC (.ref C)) :=
  pe_glob hg hm rfl hd
end

/-! ### what leaves by an exception -/
def Rz (te : TE) (σ : L2.St) (H : Hp) : Prop := ∀ H1, Ex H H1 → ∀ Q : VK, te σ H1 Q
def RzT (tt : TT) (σ : L2.St) (H : Hp) : Prop := ∀ H1, Ex H H1 → ∀ Q : Bool → Hp → Prop, tt σ H1 Q
def RzA (ta : TA) (σ : L2.St) (H : Hp) : Prop := ∀ H1, Ex H H1 → ∀ Q : List V → Hp → Prop, ta σ H1 Q
section
variable {σ : L2.St} {H H' : Hp} {ta tb te tx : TE} {t u : TT} {x y z v : V} {r : R2} {D : Ends} {tu tw tz : TS} {g : TG}
theorem Rz.mono (e : Ex H H') (h : Rz te σ H) : Rz te σ H' := fun H1 a Q => h H1 (e.trans a) Q
theorem rz_call {sp : Sp} {dvs vs : List V} {E : XK} {ta : TA} (h : EvA ta σ H vs) (hs : ∀ H1, Ex H H1 → ∀ Q : VK, sp (vs ++ dvs) H1 Q E) : Rz (tCall sp dvs E ta) σ H := fun H1 e Q =>
  h H1 e _ fun H2 e2 => hs H2 (e.trans e2) Q
theorem rz_callS {sp : Sp} {vs : List V} {E : L2.St → XK} {ta : TA} (h : EvA ta σ H vs) (hs : ∀ H1, Ex H H1 → ∀ Q : VK, sp vs H1 Q (E σ)) : Rz (tCallS sp E ta) σ H := fun H1 e Q =>
  h H1 e _ fun H2 e2 => hs H2 (e.trans e2) Q
theorem ev_callS {sp : Sp} {vs : List V} {E : L2.St → XK} {ta : TA} (h : EvA ta σ H vs) (hs : SpV sp vs H z) : Ev (tCallS sp E ta) σ H z := fun H1 e Q q =>
  h H1 e _ fun H2 e2 => hs H2 (e.trans e2) Q (fun H3 e3 => q H3 (e2.trans e3)) (E σ)
theorem el_callS {sp : Sp} {vs xs : List V} {E : L2.St → XK} {ta : TA} (h : EvA ta σ H vs) (hs : SpL sp vs H xs) : EvL (tCallS sp E ta) σ H xs := fun H1 e Q q =>
  h H1 e _ fun H2 e2 => hs H2 (e.trans e2) Q (fun p H3 hp e3 h3 => q p H3 (fresh_back e2 hp) (e2.trans e3) h3) (E σ)
theorem rz_op1 (h : Rz ta σ H) : Rz (tOp r ta tb) σ H := fun H1 e Q => h H1 e _
theorem rz_op2 (ha : Ev ta σ H x) (h : Rz tb σ H) : Rz (tOp r ta tb) σ H := fun H1 e Q => ha H1 e _ fun H2 e2 => h H2 (e.trans e2) _
theorem rz_un {r : V → Hp → VK → Prop} (h : Rz ta σ H) : Rz (tUn r ta) σ H := fun H1 e Q => h H1 e _
theorem rz_cons1 {tr : TA} (h : Rz ta σ H) : RzA (tCons ta tr) σ H := fun H1 e Q => h H1 e _
theorem rz_cons2 {tr : TA} (ha : Ev ta σ H x) (h : RzA tr σ H) : RzA (tCons ta tr) σ H := fun H1 e Q => ha H1 e _ fun H2 e2 => h H2 (e.trans e2) _
theorem rz_callA {sp : Sp} {dvs : List V} {E : XK} {ta : TA} (h : RzA ta σ H) : Rz (tCall sp dvs E ta) σ H := fun H1 e Q => h H1 e _
theorem rz_cbA {r : List V → Hp → VK → Prop} {ta : TA} (h : RzA ta σ H) : Rz (tCB r ta) σ H := fun H1 e Q => h H1 e _
theorem x_asg (h : Rz te σ H) : tAsg te g D σ H := h H (Ex.refl H) _
theorem x_drop (h : Rz te σ H) : tDrop te D σ H := h H (Ex.refl H) _
theorem x_ret (h : Rz te σ H) : tRet te D σ H := h H (Ex.refl H) _
theorem x_seq (h : ∀ D, tu D σ H) : tSeq tu tz D σ H := h _
theorem xq_asg (h : Rz te σ H) : tSeq (tAsg te g) tz D σ H := h H (Ex.refl H) _
theorem xq_drop (h : Rz te σ H) : tSeq (tDrop te) tz D σ H := h H (Ex.refl H) _
end
end TB

/-! ### exceptions by facts, kinds of values, steps -/
namespace TB
open PySem PySem.Spec PyProof.Rows L2 Evl
theorem units_of {A : Around} {k : Nat} (hr : Room k A) : A.units + 64 < cLine := by
  have h := hr.un
  omega
section
variable {X : Cx} {k : Nat} {x m : Str} {p p2 pos : Pos} {j : Nat}
/-- X('m'), an own class without __init__ -/
theorem pmk_ex (f : (He.Fa.exc x).ok X.K = true) (g : X.mg x = some (.ref (He.ga X.K x))) (hg : Gl X x := by rfl) (hdb : (x == ("__debug__" : Str)) = false := by decide) :
    PMk X (.Call (.Name x p) [.Constant (.str m) j p2] [] pos) (fun _ H Q => Q (.ref (He.ga X.K x)) none H) := by
  obtain ⟨e1, e2, e3, e4⟩ := He.exc_ok f
  exact pmk_own PySem.F.excBase_ValueError e1 g e2 (raises_own e3 e4) hg hdb
/-- what the head tells of an own exception class with an __init__ -/
def oexB (K : PySem.W.Frag) (C : Addr) : Bool := match K.lookup C with
  | some ⟨.type "type", _, .cls cd, sl⟩ => (match cd.mro, sl.toList with
    | .ref C' :: bm, [_, _, _, _, some (.builtin n), _] => C' == C && n == "ValueError.__new__" && !cd.hasDel && cd.hasDict && PySem.HandSPX.refsVE bm
    | _, _ => false)
  | _ => false
theorem oexB_ok {K : PySem.W.Frag} {C : Addr} (q : oexB K C = true) : ∃ nm q N bs bm sn sub ab col dd k0 k1 k2 k3 k5, K.lookup C = some (excClassObj nm q C N bs bm true sn sub ab col dd k0 k1 k2 k3 k5 "ValueError.__new__") ∧ PySem.HandSPX.refsVE bm = true := by
  unfold oexB at q
  split at q
  · rename_i dd cd sl ho
    split at q
    · rename_i C' bm k0 k1 k2 k3 n k5 hm hs
      simp only [Bool.and_eq_true, beq_iff_eq, Bool.not_eq_true'] at q
      obtain ⟨⟨⟨⟨rfl, rfl⟩, hdel⟩, hd⟩, ht⟩ := q
      obtain ⟨nm, bs, mro, ns, qn, hdi, sn, sub, ab, col, del⟩ := cd
      dsimp only at hm hdel hd
      subst hm hdel hd
      have hsl : sl = #[k0, k1, k2, k3, some (.builtin "ValueError.__new__"), k5] := by
        obtain ⟨l⟩ := sl
        simp only at hs
        rw [hs]
      subst hsl
      exact ⟨nm, qn, ns, bs, bm, sn, sub, ab, col, dd, k0, k1, k2, k3, k5, ho, ht⟩
    · cases q
  · cases q
def clashB (K : PySem.W.Frag) (C : Addr) : Bool := oexB K C && (xfB K C && (decide (PySem.W.findIn K (.ref C) "__setattr__" = some (some (.builtin "object.__setattr__"))) && (decide (PySem.W.typeIn K (.ref C) = some (.type "type")) && (PySem.W.keepIn K (.ref C) &&
  (decide (PySem.W.findIn K (.ref C) "__init__" = some (some (.ref (He.ma K C "__init__")))) && (decide (PySem.W.typeIn K (.ref (He.ma K C "__init__")) = some (.type "function")) && decide (PySem.W.findIn K (.ref C) "beats" = some none)))))))
structure ClashC (K : PySem.W.Frag) (C : Addr) : Prop where
  o : OexC K C
  x : XfC K C
  i : PySem.W.findIn K (.ref C) "__init__" = some (some (.ref (He.ma K C "__init__")))
  t : PySem.W.typeIn K (.ref (He.ma K C "__init__")) = some (.type "function")
  n : PySem.W.findIn K (.ref C) "beats" = some none
theorem clashB_ok {K : PySem.W.Frag} {C : Addr} (h : clashB K C = true) : ClashC K C := by
  obtain ⟨h1, h⟩ := Bool.and_eq_true_iff.mp h
  obtain ⟨h2, h⟩ := Bool.and_eq_true_iff.mp h
  obtain ⟨h3, h⟩ := Bool.and_eq_true_iff.mp h
  obtain ⟨h4, h⟩ := Bool.and_eq_true_iff.mp h
  obtain ⟨h5, h⟩ := Bool.and_eq_true_iff.mp h
  obtain ⟨h6, h⟩ := Bool.and_eq_true_iff.mp h
  obtain ⟨h7, h8⟩ := Bool.and_eq_true_iff.mp h
  have xf := xfB_ok h2
  exact ⟨⟨oexB_ok h1, of_decide_eq_true h3, xf.exC, of_decide_eq_true h4, h5⟩, xf, of_decide_eq_true h6, of_decide_eq_true h7, of_decide_eq_true h8⟩
/-- Clash(beats), by its own __init__ -/
structure OKE (P : Program) (w : World) (K : PySem.W.Frag) (mg : Str → Option Value) (base : Heap) (x : Str) (ps : List Str) (k : Nat) (sp : Sp) : Prop where
  ex : ∃ fd, ClashC K (He.ga K x) ∧ mg x = some (.ref (He.ga K x)) ∧ Binds K fd ps [] ∧ FnOk P w K mg base (L2.CX P w) k (He.ma K (He.ga K x) "__init__") fd ps sp
theorem passF {X : Cx} : Passes (L2.CX X.prog X.w) X (fun _ _ _ => False) := passL
theorem pmk_oexT {ps : List Str} {sp : Sp} {e : Expr} {es : List Expr} {ta : TA} (O : OKE X.prog X.w X.K X.mg X.base x ps k sp) (hr : Room (k + 1) X.A) (ha : PA X (e :: es) ta) (hg : Gl X x := by rfl) (hdb : (x == ("__debug__" : Str)) = false := by decide)
    (he : starEach (e :: es) X.env = (false, eval e X.env) :: starEach es X.env := by rfl) (hpl : (backTo pos (starEach es X.env)).any (·.1) = false := by rfl) :
    PMk X (.Call (.Name x p) (e :: es) [] pos) (tMkO (He.ga X.K x) sp [] ta) := by
  obtain ⟨fd, c, g, b, F⟩ := O.ex
  exact pmk_oex c.o c.i c.t F hr b .nil passF hg g ha hdb he hpl
end
/-! the kinds of values that the text knows -/
inductive Kd (H : Hp) : V → Prop where
  | non : Kd H .non
  | bl (b : Bool) : Kd H (.bl b)
  | int (i : Int) : Kd H (.int i)
  | str (z : Str) : Kd H (.str z)
  | lst {a : Addr} {xs : List V} (h : H a = some (.lst xs)) : Kd H (.ref a)
  | tup {a : Addr} {xs : List V} (h : H a = some (.tup xs)) : Kd H (.ref a)
theorem Kd.mono {H H' : Hp} {v : V} (e : Ex H H') (h : Kd H v) : Kd H' v := by
  cases h with
  | non => exact .non
  | bl b => exact .bl b
  | int i => exact .int i
  | str z => exact .str z
  | lst h => exact .lst (e _ _ h)
  | tup h => exact .tup (e _ _ h)
def isI : V → Bool
  | .int _ => true
  | _ => false
def isB : V → Bool
  | .bl _ => true
  | _ => false
theorem isi_int {K : PySem.W.Frag} {H : Hp} {v : V} (h : Kd H v) : RC (rIsi K) [v, .ty "int"] H (.bl (isI v || isB v)) := fun H1 e Q q => by
  have h1 := h.mono e
  cases h1 with
  | non => exact ⟨_, _, _, _, false, rfl, .ty _, .base .non, kit_ty (by decide +kernel), q H1 (Ex.refl H1)⟩
  | bl b => exact ⟨_, _, _, _, true, rfl, .ty _, .base (.bl b), kit_ty (by decide +kernel), q H1 (Ex.refl H1)⟩
  | int i => exact ⟨_, _, _, _, true, rfl, .ty _, .base (.int i), kit_ty (by decide +kernel), q H1 (Ex.refl H1)⟩
  | str z => exact ⟨_, _, _, _, false, rfl, .ty _, .base (.str z), kit_ty (by decide +kernel), q H1 (Ex.refl H1)⟩
  | lst z1 => exact ⟨_, _, _, _, false, rfl, .ty _, .base (.lst z1), kit_ty (by decide +kernel), q H1 (Ex.refl H1)⟩
  | tup z1 => exact ⟨_, _, _, _, false, rfl, .ty _, .base (.tup z1), kit_ty (by decide +kernel), q H1 (Ex.refl H1)⟩
theorem isi_bool {K : PySem.W.Frag} {H : Hp} {v : V} (h : Kd H v) : RC (rIsi K) [v, .ty "bool"] H (.bl (isB v)) := fun H1 e Q q => by
  have h1 := h.mono e
  cases h1 with
  | non => exact ⟨_, _, _, _, false, rfl, .ty _, .base .non, kit_ty (by decide +kernel), q H1 (Ex.refl H1)⟩
  | bl b => exact ⟨_, _, _, _, true, rfl, .ty _, .base (.bl b), kit_ty (by decide +kernel), q H1 (Ex.refl H1)⟩
  | int i => exact ⟨_, _, _, _, false, rfl, .ty _, .base (.int i), kit_ty (by decide +kernel), q H1 (Ex.refl H1)⟩
  | str z => exact ⟨_, _, _, _, false, rfl, .ty _, .base (.str z), kit_ty (by decide +kernel), q H1 (Ex.refl H1)⟩
  | lst z1 => exact ⟨_, _, _, _, false, rfl, .ty _, .base (.lst z1), kit_ty (by decide +kernel), q H1 (Ex.refl H1)⟩
  | tup z1 => exact ⟨_, _, _, _, false, rfl, .ty _, .base (.tup z1), kit_ty (by decide +kernel), q H1 (Ex.refl H1)⟩
/-- what is at v, if it is a list: its items -/
inductive Ls (H : Hp) : V → Option (List V) → Prop where
  | lst {a : Addr} {xs : List V} (h : H a = some (.lst xs)) : Ls H (.ref a) (some xs)
  | tup {a : Addr} {xs : List V} (h : H a = some (.tup xs)) : Ls H (.ref a) none
  | non : Ls H .non none
  | bl (b : Bool) : Ls H (.bl b) none
  | int (i : Int) : Ls H (.int i) none
  | str (z : Str) : Ls H (.str z) none
theorem Ls.mono {H H' : Hp} {v : V} {o : Option (List V)} (e : Ex H H') (h : Ls H v o) : Ls H' v o := by
  cases h with
  | lst h => exact .lst (e _ _ h)
  | tup h => exact .tup (e _ _ h)
  | non => exact .non
  | bl b => exact .bl b
  | int i => exact .int i
  | str z => exact .str z
theorem isi_list {K : PySem.W.Frag} {H : Hp} {v : V} {o : Option (List V)} (h : Ls H v o) : RC (rIsi K) [v, .ty "list"] H (.bl o.isSome) := fun H1 e Q q => by
  have h1 := h.mono e
  cases h1 with
  | lst z1 => exact ⟨_, _, _, _, true, rfl, .ty _, .base (.lst z1), kit_ty (by decide +kernel), q H1 (Ex.refl H1)⟩
  | tup z1 => exact ⟨_, _, _, _, false, rfl, .ty _, .base (.tup z1), kit_ty (by decide +kernel), q H1 (Ex.refl H1)⟩
  | non => exact ⟨_, _, _, _, false, rfl, .ty _, .base .non, kit_ty (by decide +kernel), q H1 (Ex.refl H1)⟩
  | bl b => exact ⟨_, _, _, _, false, rfl, .ty _, .base (.bl b), kit_ty (by decide +kernel), q H1 (Ex.refl H1)⟩
  | int i => exact ⟨_, _, _, _, false, rfl, .ty _, .base (.int i), kit_ty (by decide +kernel), q H1 (Ex.refl H1)⟩
  | str z => exact ⟨_, _, _, _, false, rfl, .ty _, .base (.str z), kit_ty (by decide +kernel), q H1 (Ex.refl H1)⟩
/-! the rules that name the written part, K said -/
section
variable {X : Cx}
theorem k_isi (K : PySem.W.Frag) (h : X.K = K := by rfl) : CallR X (.builtin "isinstance") (rIsi K) := by
  subst h
  exact call_isi
theorem k_isiT (K : PySem.W.Frag) (h : X.K = K := by rfl) : CallR X (.builtin "isinstance") (rIsiT K) := by
  subst h
  exact call_isiT
theorem k_len (K : PySem.W.Frag) (h : X.K = K := by rfl) : CallR X (.builtin "len") (rLenS K) := by
  subst h
  exact call_len_seq
theorem k_sum (K : PySem.W.Frag) (hc : X.calm = true) (h : X.K = K := by rfl) : CallR X (.builtin "sum") (rSum K) := by
  subst h
  exact cr_sum hc
theorem k_all (K : PySem.W.Frag) (hc : X.calm = true) (h : X.K = K := by rfl) : CallR X (.builtin "all") (rAll K) := by
  subst h
  exact cr_all hc
theorem k_any (K : PySem.W.Frag) (hc : X.calm = true) (h : X.K = K := by rfl) : CallR X (.builtin "any") (rAny K) := by
  subst h
  exact cr_any hc
theorem k_max (K : PySem.W.Frag) (hc : X.calm = true) (h : X.K = K := by rfl) : CallR X (.builtin "max") (rMax K) := by
  subst h
  exact cr_max hc
theorem k_min (K : PySem.W.Frag) (hc : X.calm = true) (h : X.K = K := by rfl) : CallR X (.builtin "min") (rMin K) := by
  subst h
  exact cr_min hc
theorem k_sorted (K : PySem.W.Frag) (h : X.K = K := by rfl) : CallR X (.builtin "sorted") (rSortedI K) := by
  subst h
  exact cr_sortedI
theorem k_list (K : PySem.W.Frag) (h : X.K = K := by rfl) : CallR X (.type "list") (rListS K) := by
  subst h
  exact call_list_of
theorem k_ixL (K : PySem.W.Frag) (h : X.K = K := by rfl) : IxR X (rIxL K) := by
  subst h
  exact ix_list
theorem k_ixT (K : PySem.W.Frag) (h : X.K = K := by rfl) : IxR X (rIxT K) := by
  subst h
  exact ix_tup
theorem k_in (K : PySem.W.Frag) (h : X.K = K := by rfl) : OpR X (compareOp .In) (rIn K false) := by
  subst h
  exact op_in_seq
theorem k_notIn (K : PySem.W.Frag) (h : X.K = K := by rfl) : OpR X (compareOp .NotIn) (rIn K true) := by
  subst h
  exact op_notIn_seq
theorem k_eqD (K : PySem.W.Frag) (hu : X.A.units + 64 < cLine) (h : X.K = K := by rfl) : OpR X (compareOp .Eq) (rEqD K) := by
  subst h
  exact op_eqD hu
theorem k_neD (K : PySem.W.Frag) (hu : X.A.units + 64 < cLine) (h : X.K = K := by rfl) : OpR X (compareOp .NotEq) (rNeD K) := by
  subst h
  exact op_neD hu
theorem k_slL (K : PySem.W.Frag) (h : X.K = K := by rfl) : SlR X (rSlL K) := by
  subst h
  exact sl_list
theorem k_piL (K : PySem.W.Frag) {tg l : Expr} {tl : TE} (hl : PE X l tl) (h : X.K = K := by rfl) : PI X tg l (iList K tl) := by
  subst h
  exact pi_list hl
theorem k_piT (K : PySem.W.Frag) {tg l : Expr} {tl : TE} (hl : PE X l tl) (h : X.K = K := by rfl) : PI X tg l (iTup K tl) := by
  subst h
  exact pi_tup hl
end
end TB

/-! ### what evaluates to what: further -/
namespace TB
open PySem PySem.Spec PyProof.Rows L2 Evl
def dInts (ns : List Int) : List PyData := ns.map PyData.int
theorem lay_ints : ∀ ns : List Int, PyData.canLayAll0 (dInts ns) = true
  | [] => rfl
  | n :: r => by
    show (PyData.canLay0 (.int n) && PyData.canLayAll0 (dInts r)) = true
    rw [lay_ints r]
    rfl
theorem dep_ints : ∀ ns : List Int, PyData.depthAll (dInts ns) = 0
  | [] => rfl
  | n :: r => by
    show max (PyData.depth (.int n)) (PyData.depthAll (dInts r)) = 0
    rw [dep_ints r]
    rfl
theorem shaped_list (ns : List Int) : SeqAt.shaped (.list (dInts ns)) = true := by
  show (PyData.canLayAll0 (dInts ns) && decide (PyData.depthAll (dInts ns) + 1 ≤ 64)) = true
  rw [lay_ints, dep_ints]
  rfl
theorem shaped_tuple (ns : List Int) : SeqAt.shaped (.tuple (dInts ns)) = true := by
  show (PyData.canLayAll0 (dInts ns) && decide (PyData.depthAll (dInts ns) + 1 ≤ 64)) = true
  rw [lay_ints, dep_ints]
  rfl
theorem eqvAll_ints : ∀ ns ms : List Int, PyData.eqvAll (dInts ns) (dInts ms) = decide (ns = ms)
  | [], [] => rfl
  | [], _ :: _ => rfl
  | _ :: _, [] => rfl
  | a :: r, b :: t => by
    show (PyData.eqv (.int a) (.int b) && PyData.eqvAll (dInts r) (dInts t)) = _
    rw [eqvAll_ints r t]
    show ((a == b) && decide (r = t)) = _
    rw [Bool.eq_iff_iff]
    simp
theorem eqv_list (ns ms : List Int) : PyData.eqv (.list (dInts ns)) (.list (dInts ms)) = decide (ns = ms) := by
  rw [← eqvAll_ints]
  rw [PyData.eqv]
theorem eqv_tuple (ns ms : List Int) : PyData.eqv (.tuple (dInts ns)) (.tuple (dInts ms)) = decide (ns = ms) := by
  rw [← eqvAll_ints]
  rw [PyData.eqv]
def RetU (xs : List V) (H : Hp) (Q : VK) : Prop := ∀ p H2, H p = none → Ex H H2 → H2 p = some (.tup xs) → Q (.ref p) H2
/-- what a def gives: a value, a new list, a new tuple, a refusal -/
inductive Re where
  | val (v : V)
  | lst (xs : List V)
  | tup (xs : List V)
  | err (x : Str)
  | clash (i j : Int)
def Give (K : PySem.W.Frag) (r : Re) (H : Hp) (Q : VK) (E : XK) : Prop := match r with
  | .val v => RetV v H Q
  | .lst xs => RetL xs H Q
  | .tup xs => RetU xs H Q
  | .err x => ∀ H2, Ex H H2 → E (.ref (He.ga K x)) none H2
  | .clash i j => ∀ H2 d p, H d = none → Ex H H2 → H2 d = some (.xd [(("beats" : Str), .ref p)]) → H2 p = some (.tup [.int i, .int j]) → E (.ref (He.ga K "Clash")) (some d) H2
section
variable {K : PySem.W.Frag} {σ : L2.St} {H H' : Hp} {ta tb tc te tl tx : TE} {t u : TT} {x y z v : V} {r r' : R2} {D : Ends} {tu tw tz : TS} {g : TG} {Q : VK} {E : XK}
theorem RetV.mono (e : Ex H H') (h : RetV v H Q) : RetV v H' Q := fun H2 e2 => h H2 (e.trans e2)
theorem RetL.mono {xs : List V} (e : Ex H H') (h : RetL xs H Q) : RetL xs H' Q := fun p H2 hp e2 h2 => h p H2 (fresh_back e hp) (e.trans e2) h2
theorem RetU.mono {xs : List V} (e : Ex H H') (h : RetU xs H Q) : RetU xs H' Q := fun p H2 hp e2 h2 => h p H2 (fresh_back e hp) (e.trans e2) h2
theorem Give.mono {r : Re} (e : Ex H H') (h : Give K r H Q E) : Give K r H' Q E := by
  cases r with
  | val v => exact RetV.mono e h
  | lst xs => exact RetL.mono e h
  | tup xs => exact RetU.mono e h
  | err x => exact fun H2 e2 => h H2 (e.trans e2)
  | clash i j => exact fun H2 d p hd e2 h1 h2 => h H2 d p (fresh_back e hd) (e.trans e2) h1 h2
theorem ev_chain {b c : Bool} (ha : Ev ta σ H x) (hb : Ev tb σ H y) (hr : RV r x y H (.bl b)) (hc : b = true → Ev tc σ H z) (hr' : b = true → RV r' y z H (.bl c)) : Ev (tChain r r' ta tb tc) σ H (.bl (b && c)) := fun H1 e Q q =>
  ha H1 e _ fun H2 e2 => hb H2 (e.trans e2) _ fun H3 e3 => hr H3 ((e.trans e2).trans e3) _ fun H4 e4 => ⟨b, rfl, by
    cases b with
    | true =>
      show tc σ H4 fun w' H4 => r' y w' H4 Q
      exact hc rfl H4 (((e.trans e2).trans e3).trans e4) _ fun H5 e5 => hr' rfl H5 ((((e.trans e2).trans e3).trans e4).trans e5) Q fun H6 e6 => q H6 ((((e2.trans e3).trans e4).trans e5).trans e6)
    | false =>
      show Q (.bl false) H4
      exact q H4 ((e2.trans e3).trans e4)⟩
theorem ev_and2 {a b : Bool} (h1 : Ev ta σ H (.bl a)) (h2 : Ev tb σ H (.bl b)) : Ev (tAndV ta tb) σ H (.bl (a && b)) := ev_andV h1 fun _ => h2
theorem ev_or2 {a b : Bool} (h1 : Ev ta σ H (.bl a)) (h2 : Ev tb σ H (.bl b)) : Ev (tOrV ta tb) σ H (.bl (a || b)) := ev_orV h1 fun _ => h2
theorem et_and2 {a b : Bool} (h1 : EvT t σ H a) (h2 : EvT u σ H b) : EvT (tAnd t u) σ H (a && b) := et_and h1 fun _ => h2
theorem et_or2 {a b : Bool} (h1 : EvT t σ H a) (h2 : EvT u σ H b) : EvT (tOr t u) σ H (a || b) := et_or h1 fun _ => h2
theorem ev_chain2 {b c : Bool} (ha : Ev ta σ H x) (hb : Ev tb σ H y) (hr : RV r x y H (.bl b)) (hc : Ev tc σ H z) (hr' : RV r' y z H (.bl c)) : Ev (tChain r r' ta tb tc) σ H (.bl (b && c)) := ev_chain ha hb hr (fun _ => hc) fun _ => hr'
/-- tests by truth -/
theorem et_tru {b : Bool} (h : Ev te σ H v) (ht : ∀ H1, Ex H H1 → TruV K v H1 b) : EvT (fun σ H Q => te σ H fun x H' => ∃ k, TruV K x H' k ∧ Q k H') σ H b := fun H1 e Q q =>
  h H1 e _ fun H2 e2 => ⟨b, ht H2 (e.trans e2), q H2 e2⟩
theorem rv_isN : RV (fun x y H Q => y = .non ∧ Q (.bl (decide (x = .non))) H) x .non H (.bl (decide (x = .non))) := fun H1 _ _ q => ⟨rfl, q H1 (Ex.refl H1)⟩
theorem rv_notN : RV (fun x y H Q => y = .non ∧ Q (.bl (!decide (x = .non))) H) x .non H (.bl (!decide (x = .non))) := fun H1 _ _ q => ⟨rfl, q H1 (Ex.refl H1)⟩
theorem ru_I {g : Int → V} {i : Int} : RU (rU g) (.int i) H (g i) := fun H1 _ _ q => ⟨i, rfl, q H1 (Ex.refl H1)⟩
/-- len of a list -/
theorem rc_len {p : Addr} {xs : List V} (h : SqL K H p xs) : RC (rLenS K) [.ref p] H (.int (xs.length : Int)) := fun H1 e _ q => ⟨p, xs, rfl, .inl (ex_l e h), q H1 (Ex.refl H1)⟩
theorem rc_lenT {p : Addr} {xs : List V} (h : SqT K H p xs) : RC (rLenS K) [.ref p] H (.int (xs.length : Int)) := fun H1 e _ q => ⟨p, xs, rfl, .inr (ex_t e h), q H1 (Ex.refl H1)⟩
theorem rc_sum {p : Addr} {ns : List Int} (h : SqL K H p (ns.map V.int)) : RC (rSum K) [.ref p] H (.int ns.sum) := fun H1 e _ q => ⟨p, ns, rfl, ex_l e h, q H1 (Ex.refl H1)⟩
theorem rc_abs {i : Int} : RC (fun xs H Q => ∃ i, xs = [.int i] ∧ Q (.int (if i < 0 then -i else i)) H) [.int i] H (.int (if i < 0 then -i else i)) := fun H1 _ _ q => ⟨i, rfl, q H1 (Ex.refl H1)⟩
theorem rcl_list {p : Addr} {xs : List V} (h : SqL K H p xs) : RCL (rListS K) [.ref p] H xs := fun H1 e _ q =>
  ⟨p, xs, rfl, .inl (ex_l e h), fun l hl => q l _ hl (Ex.new hl) upd_same⟩
theorem ev_all {bs : List Bool} (h : EvL te σ H (bs.map V.bl)) : Ev (tCB (rAll K) (tCons te tNil)) σ H (.bl (bs.all id)) := fun H1 e Q q =>
  h H1 e _ fun p H2 _ e2 h2 => ⟨p, bs, rfl, sq_of h2, q H2 e2⟩
theorem ev_any {bs : List Bool} (h : EvL te σ H (bs.map V.bl)) : Ev (tCB (rAny K) (tCons te tNil)) σ H (.bl (bs.any id)) := fun H1 e Q q =>
  h H1 e _ fun p H2 _ e2 h2 => ⟨p, bs, rfl, sq_of h2, q H2 e2⟩
theorem ev_sumN {ns : List Int} (h : EvL te σ H (ns.map V.int)) : Ev (tCB (rSum K) (tCons te tNil)) σ H (.int ns.sum) := fun H1 e Q q =>
  h H1 e _ fun p H2 _ e2 h2 => ⟨p, ns, rfl, sq_of h2, q H2 e2⟩
theorem et_yes : EvT tYes σ H true := fun H1 _ _ q => q H1 (Ex.refl H1)
theorem given_all (n : Nat) (v : Nat → V) : given n (fun _ => true) v = (List.range n).map v := by
  unfold given
  rw [List.filter_eq_self.mpr (fun _ _ => rfl)]
theorem given_map {xs : List V} {g : V → V} (v : Nat → V) (h : ∀ i x, xs[i]? = some x → v i = g x) : given xs.length (fun _ => true) v = xs.map g := by
  rw [given_all]
  apply List.ext_getElem
  · simp
  · intro i h1 h2
    simp only [List.getElem_map, List.getElem_range]
    have h3 : i < xs.length := by simpa using h2
    exact h i _ (List.getElem?_eq_getElem h3)
/-- [e for x in xs] -/
theorem el_map {a : Addr} {xs : List V} {j : Nat} {vs : List Nat} (g : V → V) (h : Ev tl σ H (.ref a)) (hx : SqL K H a xs) (hz : xs.length ≤ 40000) (hw : ∀ x, wipe ((wipe σ vs).set j (some x)) vs = wipe σ vs)
    (he : ∀ (x : V) H1, Ex H H1 → x ∈ xs → Ev te ((wipe σ vs).set j (some x)) H1 (g x)) :
    EvL (tLc (iList K tl) (gName j) tYes te vs) σ H (xs.map g) := by
  have q := el_lcL (te := te) (t := tYes) (fun _ => true) (fun i => g (xs.getD i .non)) h hx hz hw (fun _ _ _ _ _ => et_yes) (fun i x H1 e hi _ => by
    have e2 : xs.getD i .non = x := by
      rw [List.getD_eq_getElem?_getD, hi]
      rfl
    rw [e2]
    exact he x H1 e (List.mem_of_getElem? hi))
  rw [given_map (g := g) _ (fun i x hi => by
    have e2 : xs.getD i .non = x := by
      rw [List.getD_eq_getElem?_getD, hi]
      rfl
    rw [e2])] at q
  exact q
theorem el_mapT {a : Addr} {xs : List V} {j : Nat} {vs : List Nat} (gg : V → V) (h : Ev tl σ H (.ref a)) (hx : SqT K H a xs) (hz : xs.length ≤ 40000) (hw : ∀ x, wipe ((wipe σ vs).set j (some x)) vs = wipe σ vs)
    (he : ∀ (x : V) H1, Ex H H1 → x ∈ xs → Ev te ((wipe σ vs).set j (some x)) H1 (gg x)) :
    EvL (tLc (iTup K tl) (gName j) tYes te vs) σ H (xs.map gg) := fun H0 e Q q => h H0 e _ fun H1 e1 => ⟨a, rfl, ⟨xs, ex_t (e.trans e1) hx⟩, fun Dl hD =>
  lc_tup (xs := xs) (fun i H' => H1 Dl = none ∧ Ex H1 H' ∧ H' Dl = some (.lst ((xs.take i).map gg))) ⟨hD, Ex.new hD, by rw [upd_same]; rfl⟩ (fun i H' _ p => ex_t ((e.trans e1).trans p.2.1) hx) (fun i x H' hi p => ⟨hw x, by
    show te _ H' (fun y H4 => ∃ acc, H4 Dl = some (.lst acc) ∧ acc.length < sizeLine ∧ (H1 Dl = none ∧ Ex H1 (upd H4 Dl (.lst (acc ++ [y]))) ∧ (upd H4 Dl (.lst (acc ++ [y]))) Dl = some (.lst ((xs.take (i + 1)).map gg))))
    have hm := List.mem_of_getElem? hi
    have hil := (List.getElem?_eq_some_iff.mp hi).1
    refine he x H' ((e.trans e1).trans p.2.1) hm H' (Ex.refl H') _ fun H4 e4 => ⟨_, e4 _ _ p.2.2, sz_lt (by rw [List.length_map, List.length_take]; omega), p.1, Ex.mut (p.2.1.trans e4) p.1, ?_⟩
    rw [upd_same, List.take_add_one, hi, List.map_append]
    rfl⟩) (fun H' p => q Dl H' (fresh_back e1 p.1) (e1.trans p.2.1) (by
      have z := p.2.2
      rw [List.take_length] at z
      exact z))⟩
theorem isi_tup {a : Addr} {xs : List V} (h : H a = some (.tup xs)) : RC (rIsi K) [.ref a, .ty "tuple"] H (.bl true) := fun H1 e Q q =>
  ⟨_, _, _, _, true, rfl, .ty _, .base (.tup (e _ _ h)), kit_ty (by decide +kernel), q H1 (Ex.refl H1)⟩
theorem rv_eqD {d f : PyData} (h1 : ∀ H1, Ex H H1 → Dp K H1 x d) (h2 : ∀ H1, Ex H H1 → Dp K H1 y f) (s1 : SeqAt.shaped d = true) (s2 : SeqAt.shaped f = true) : RV (rEqD K) x y H (.bl (PyData.eqv d f)) := fun H1 e _ q => ⟨d, f, h1 H1 e, h2 H1 e, s1, s2, q H1 (Ex.refl H1)⟩
theorem rv_neD {d f : PyData} (h1 : ∀ H1, Ex H H1 → Dp K H1 x d) (h2 : ∀ H1, Ex H H1 → Dp K H1 y f) (s1 : SeqAt.shaped d = true) (s2 : SeqAt.shaped f = true) : RV (rNeD K) x y H (.bl (!PyData.eqv d f)) := fun H1 e _ q => ⟨d, f, h1 H1 e, h2 H1 e, s1, s2, q H1 (Ex.refl H1)⟩
theorem dp_ints : ∀ ns : List Int, DpAll K H (ns.map V.int) (dInts ns)
  | [] => .nil
  | n :: r => .cons (.int n) (dp_ints r)
theorem dp_list {a : Addr} {ns : List Int} (h : SqL K H a (ns.map V.int)) : ∀ H1, Ex H H1 → Dp K H1 (.ref a) (.list (dInts ns)) := fun H1 e => .lst (ex_l e h) (dp_ints ns)
theorem dp_tuple {a : Addr} {ns : List Int} (h : SqT K H a (ns.map V.int)) : ∀ H1, Ex H H1 → Dp K H1 (.ref a) (.tuple (dInts ns)) := fun H1 e => .tup (ex_t e h) (dp_ints ns)
/-- == and != of lists, of tuples of whole numbers -/
theorem rv_eqL {a b : Addr} {ns ms : List Int} (h1 : SqL K H a (ns.map V.int)) (h2 : SqL K H b (ms.map V.int)) : RV (rEqD K) (.ref a) (.ref b) H (.bl (decide (ns = ms))) := by
  have z := rv_eqD (dp_list h1) (dp_list h2) (shaped_list ns) (shaped_list ms)
  rw [eqv_list] at z
  exact z
theorem rv_neL {a b : Addr} {ns ms : List Int} (h1 : SqL K H a (ns.map V.int)) (h2 : SqL K H b (ms.map V.int)) : RV (rNeD K) (.ref a) (.ref b) H (.bl (!decide (ns = ms))) := by
  have z := rv_neD (dp_list h1) (dp_list h2) (shaped_list ns) (shaped_list ms)
  rw [eqv_list] at z
  exact z
theorem rv_neT {a b : Addr} {ns ms : List Int} (h1 : SqT K H a (ns.map V.int)) (h2 : SqT K H b (ms.map V.int)) : RV (rNeD K) (.ref a) (.ref b) H (.bl (!decide (ns = ms))) := by
  have z := rv_neD (dp_tuple h1) (dp_tuple h2) (shaped_tuple ns) (shaped_tuple ms)
  rw [eqv_tuple] at z
  exact z
/-- [e for k in range(n)] -/
theorem el_rng {ta : TA} {j : Nat} {vs : List Nat} {n : Int} (g : Nat → V) (h : EvA ta σ H [.int n]) (hn : 0 ≤ n ∧ n ≤ 40000) (hw : ∀ x, wipe ((wipe σ vs).set j (some x)) vs = wipe σ vs)
    (he : ∀ (i : Nat) H1, Ex H H1 → (i : Int) < n → Ev te ((wipe σ vs).set j (some (.int (i : Int)))) H1 (g i)) :
    EvL (tLc (iRng1 ta) (gName j) tYes te vs) σ H ((List.range n.toNat).map g) := by
  have q := el_lcR1 (te := te) (t := tYes) (fun _ => true) g h hn hw (fun _ _ _ _ => et_yes) (fun i H1 e hi _ => he i H1 e hi)
  rw [given_all] at q
  exact q
theorem el_filtR {ta : TA} {j : Nat} {vs : List Nat} {n : Int} (f : Nat → Bool) (g : Nat → V) (h : EvA ta σ H [.int n]) (hn : 0 ≤ n ∧ n ≤ 40000) (hw : ∀ x, wipe ((wipe σ vs).set j (some x)) vs = wipe σ vs)
    (ht : ∀ (i : Nat) H1, Ex H H1 → (i : Int) < n → EvT t ((wipe σ vs).set j (some (.int (i : Int)))) H1 (f i))
    (he : ∀ (i : Nat) H1, Ex H H1 → (i : Int) < n → f i = true → Ev te ((wipe σ vs).set j (some (.int (i : Int)))) H1 (g i)) :
    EvL (tLc (iRng1 ta) (gName j) t te vs) σ H (((List.range n.toNat).filter f).map g) := el_lcR1 f g h hn hw ht he
/-- what a call of an own def gives -/
theorem spv_of {sp : Sp} {vs : List V} (h : ∀ H1, Ex H H1 → ∀ (Q : VK) (E : XK), RetV z H1 Q → sp vs H1 Q E) : SpV sp vs H z := fun H1 e Q q E => h H1 e Q E q
theorem spl_of {sp : Sp} {vs xs : List V} (h : ∀ H1, Ex H H1 → ∀ (Q : VK) (E : XK), RetL xs H1 Q → sp vs H1 Q E) : SpL sp vs H xs := fun H1 e Q q E => h H1 e Q E q
/-- a call in the making of a tuple -/
def SpU (sp : Sp) (vs : List V) (H : Hp) (xs : List V) : Prop := ∀ H1, Ex H H1 → ∀ Q : VK, RetU xs H1 Q → ∀ E : XK, sp vs H1 Q E
theorem eu_call {sp : Sp} {dvs vs xs : List V} {E : XK} {ta : TA} (h : EvA ta σ H vs) (hs : SpU sp (vs ++ dvs) H xs) : EvU (tCall sp dvs E ta) σ H xs := fun H1 e Q q =>
  h H1 e _ fun H2 e2 => hs H2 (e.trans e2) Q (fun p H3 hp e3 h3 => q p H3 (fresh_back e2 hp) (e2.trans e3) h3) E
/-- a call that gives some new list, of which P holds -/
theorem q_relL {sp : Sp} {vs dvs : List V} {E : XK} {ta : TA} {i : Nat} {P : List Int → Prop} (h : EvA ta σ H vs) (hs : ∀ H1, Ex H H1 → ∀ (Q : VK) (E : XK), (∀ xs, P xs → RetL (xs.map V.int) H1 Q) → sp (vs ++ dvs) H1 Q E)
    (k : ∀ xs p H1, P xs → H p = none → Ex H H1 → H1 p = some (.lst (xs.map V.int)) → tz D (σ.set i (some (.ref p))) H1) : tSeq (tAsg (tCall sp dvs E ta) (gName i)) tz D σ H :=
  h H (Ex.refl H) _ fun H1 e1 => hs H1 e1 _ E fun xs hx p H2 hp e2 h2 => k xs p H2 hx (fresh_back e1 hp) (e1.trans e2) h2
/-- what follows a statement, shown once -/
theorem q_key {M : L2.St → Hp → Prop} (key : ∀ σ' H', M σ' H' → tz D σ' H') (h : (∀ σ' H', M σ' H' → tz D σ' H') → tSeq tu tz D σ H) : tSeq tu tz D σ H := h key
/-! dicts with whole keys -/
theorem ev_din {kvs : List (Key × V)} {a : Addr} {i : Int} {td ty : TE} (hy : Ev ty σ H (.int i)) (hd : Ev td σ H (.ref a)) (h : H a = some (.dK kvs)) : Ev (tDIn ty td) σ H (.bl (valV kvs (Sum.inl i)).isSome) := fun H1 e Q q =>
  hy H1 e _ fun H2 e2 => hd H2 (e.trans e2) _ fun H3 e3 => ⟨a, _, rfl, DGet.k (k := Sum.inl i) (((e.trans e2).trans e3) _ _ h), q H3 (e2.trans e3)⟩
theorem ev_dnotin {kvs : List (Key × V)} {a : Addr} {i : Int} {td ty : TE} (hy : Ev ty σ H (.int i)) (hd : Ev td σ H (.ref a)) (h : H a = some (.dK kvs)) : Ev (tDNotIn ty td) σ H (.bl (!(valV kvs (Sum.inl i)).isSome)) := fun H1 e Q q =>
  hy H1 e _ fun H2 e2 => hd H2 (e.trans e2) _ fun H3 e3 => ⟨a, _, rfl, DGet.k (k := Sum.inl i) (((e.trans e2).trans e3) _ _ h), q H3 (e2.trans e3)⟩
theorem ev_dget {kvs : List (Key × V)} {a : Addr} {i : Int} {td ty : TE} (hd : Ev td σ H (.ref a)) (hy : Ev ty σ H (.int i)) (h : H a = some (.dK kvs)) (hv : valV kvs (Sum.inl i) = some v) : Ev (tDGet td ty) σ H v := fun H1 e Q q =>
  hd H1 e _ fun H2 e2 => hy H2 (e.trans e2) _ fun H3 e3 => ⟨a, v, rfl, by
    have z := DGet.k (k := Sum.inl i) (((e.trans e2).trans e3) _ _ h)
    rw [hv] at z
    exact z, q H3 (e2.trans e3)⟩
theorem s_dput {kvs : List (Key × V)} {a : Addr} {i : Int} {td ty : TE} (h : H a = some (.dK kvs)) (hv : Ev te σ H v) (hd : Ev td σ H (.ref a)) (hy : Ev ty σ H (.int i)) (hz : kvs.length < 100000) (k : ∀ H1, Ex H H1 → D.nx σ (upd H1 a (.dK (putK kvs (Sum.inl i) v)))) :
    sDPut td ty te D σ H := hv H (Ex.refl H) _ fun H1 e1 => hd H1 e1 _ fun H2 e2 => hy H2 (e1.trans e2) _ fun H3 e3 => ⟨a, _, rfl, DPut.k (k := Sum.inl i) (((e1.trans e2).trans e3) _ _ h) (sz_lt hz), k H3 ((e1.trans e2).trans e3)⟩
theorem q_dput {kvs : List (Key × V)} {a : Addr} {i : Int} {td ty : TE} (h : H a = some (.dK kvs)) (hv : Ev te σ H v) (hd : Ev td σ H (.ref a)) (hy : Ev ty σ H (.int i)) (hz : kvs.length < 100000) (k : ∀ H1, Ex H H1 → tz D σ (upd H1 a (.dK (putK kvs (Sum.inl i) v)))) :
    tSeq (sDPut td ty te) tz D σ H := s_dput (D := { D with nx := tz D }) h hv hd hy hz k
/-- d = {} -/
theorem q_dnew {i : Nat} (k : ∀ p, H p = none → tz D (σ.set i (some (.ref p))) (upd H p (.dK []))) : tSeq (tAsg tDNewK (gName i)) tz D σ H := fun p hp => k p hp
/-- a tuple given back -/
theorem s_retU2 {xs : List V} {ta : TA} (h : EvA ta σ H xs) (hl : xs.length ≤ 100000) (k : RetU xs H D.rt) : tRet (tTup ta) D σ H := s_retU (eu_tup h hl) k
end
theorem atI_int {ns : List Int} {j : Nat} (h : j < ns.length) : atI (ns.map V.int) (j : Int) = some (.int (ns.getD j 0)) := by
  apply atI_nat
  rw [List.getElem?_map, List.getElem?_eq_getElem h, List.getD_eq_getElem?_getD, List.getElem?_eq_getElem h]
  rfl
end TB
namespace TB
open PySem PySem.Spec PyProof.Rows L2 Evl
section
variable {K : PySem.W.Frag} {σ : L2.St} {H H' : Hp} {te : TE} {tz : TS} {D : Ends}
/-- the greatest of a list -/
def mx : List Int → Int
  | [] => 0
  | x :: r => r.foldl max x
theorem foldl_max_ge : ∀ (r : List Int) (x : Int), x ≤ r.foldl max x ∧ ∀ y ∈ r, y ≤ r.foldl max x
  | [], x => ⟨Int.le_refl _, fun _ h => nomatch h⟩
  | a :: r, x => by
    obtain ⟨h1, h2⟩ := foldl_max_ge r (max x a)
    refine ⟨Int.le_trans (Int.le_max_left _ _) h1, fun y hy => ?_⟩
    rcases List.mem_cons.mp hy with rfl | hy
    · exact Int.le_trans (Int.le_max_right _ _) h1
    · exact h2 y hy
theorem foldl_max_mem : ∀ (r : List Int) (x : Int), r.foldl max x = x ∨ r.foldl max x ∈ r
  | [], x => .inl rfl
  | a :: r, x => by
    rcases foldl_max_mem r (max x a) with h | h
    · show r.foldl max (max x a) = x ∨ r.foldl max (max x a) ∈ a :: r
      rw [h]
      by_cases e : x ≤ a
      · rw [Int.max_eq_right e]
        exact .inr List.mem_cons_self
      · rw [Int.max_eq_left (by omega)]
        exact .inl rfl
    · exact .inr (List.mem_cons_of_mem _ h)
theorem mx_mem {l : List Int} (h : l ≠ []) : mx l ∈ l := by
  cases l with
  | nil => exact absurd rfl h
  | cons x r =>
    rcases foldl_max_mem r x with e | e
    · show r.foldl max x ∈ x :: r
      rw [e]
      exact List.mem_cons_self
    · exact List.mem_cons_of_mem _ e
theorem mx_ge {l : List Int} {y : Int} (h : y ∈ l) : y ≤ mx l := by
  cases l with
  | nil => cases h
  | cons x r =>
    obtain ⟨h1, h2⟩ := foldl_max_ge r x
    rcases List.mem_cons.mp h with rfl | h
    · exact h1
    · exact h2 y h
theorem mx_eq {l : List Int} {m : Int} (h1 : m ∈ l) (h2 : ∀ y, y ∈ l → y ≤ m) : m = mx l := by
  have ne : l ≠ [] := fun e => by
    rw [e] at h1
    cases h1
  have a := mx_ge h1
  have b := h2 _ (mx_mem ne)
  omega
theorem ev_maxN {ns : List Int} (h : EvL te σ H (ns.map V.int)) (h0 : 0 < ns.length) : Ev (tCB (rMax K) (tCons te tNil)) σ H (.int (mx ns)) := fun H1 e Q q =>
  h H1 e _ fun p H2 _ e2 h2 => ⟨p, ns, rfl, sq_of h2, h0, fun m hm hle => by
    rw [mx_eq hm hle]
    exact q H2 e2⟩
theorem rc_max {p : Addr} {ns : List Int} (h : SqL K H p (ns.map V.int)) (h0 : 0 < ns.length) : RC (rMax K) [.ref p] H (.int (mx ns)) := fun H1 e _ q => ⟨p, ns, rfl, ex_l e h, h0, fun m hm hle => by
  rw [mx_eq hm hle]
  exact q H1 (Ex.refl H1)⟩
/-- the greatest of what is beyond nothing is within -/
theorem mx_abs {ns : List Int} (h : ns ≠ []) (b : Int) : decide (b < mx (ns.map fun n => if n < 0 then -n else n)) = !(ns.all fun n => decide (-b ≤ n) && decide (n ≤ b)) := by
  rw [Bool.eq_iff_iff, decide_eq_true_iff, Bool.not_eq_true', List.all_eq_false]
  constructor
  · intro hb
    have hm := mx_mem (l := ns.map fun n => if n < 0 then -n else n) (by simpa using h)
    obtain ⟨n, hn, e⟩ := List.mem_map.mp hm
    refine ⟨n, hn, ?_⟩
    rw [← e] at hb
    simp only [Bool.and_eq_true, decide_eq_true_iff]
    split at hb <;> omega
  · rintro ⟨n, hn, hb⟩
    simp only [Bool.and_eq_true, decide_eq_true_iff] at hb
    have hg := mx_ge (List.mem_map.mpr ⟨n, hn, rfl⟩ : (if n < 0 then -n else n) ∈ ns.map fun n => if n < 0 then -n else n)
    split at hg <;> omega
/-- a call that gives some number, of which P holds -/
theorem q_relV {sp : Sp} {vs dvs : List V} {E : XK} {ta : TA} {i : Nat} {P : Int → Prop} (h : EvA ta σ H vs) (hs : ∀ H1, Ex H H1 → ∀ (Q : VK) (E : XK), (∀ x, P x → RetV (.int x) H1 Q) → sp (vs ++ dvs) H1 Q E)
    (k : ∀ x H1, P x → Ex H H1 → tz D (σ.set i (some (.int x))) H1) : tSeq (tAsg (tCall sp dvs E ta) (gName i)) tz D σ H :=
  h H (Ex.refl H) _ fun H1 e1 => hs H1 e1 _ E fun x hx H2 e2 => k x H2 hx (e1.trans e2)
theorem isi_listL {a : Addr} {xs : List V} (h : H a = some (.lst xs)) : RC (rIsi K) [.ref a, .ty "list"] H (.bl true) := fun H1 e Q q =>
  ⟨_, _, _, _, true, rfl, .ty _, .base (.lst (e _ _ h)), kit_ty (by decide +kernel), q H1 (Ex.refl H1)⟩
theorem isi_intI {i : Int} : RC (rIsi K) [.int i, .ty "int"] H (.bl true) := isi_int (.int i)
theorem isi_boolI {i : Int} : RC (rIsi K) [.int i, .ty "bool"] H (.bl false) := isi_bool (.int i)
end
theorem atI_lt {ns : List Int} {j : Int} (h0 : 0 ≤ j) (h : j < (ns.length : Int)) : atI (ns.map V.int) j = some (.int (ns.getD j.toNat 0)) := by
  have e : j = ((j.toNat : Nat) : Int) := by omega
  have z := atI_int (ns := ns) (j := j.toNat) (by omega)
  rw [← e] at z
  exact z
end TB
namespace TB
open PySem PySem.Spec PyProof.Rows L2 Evl
section
variable {K : PySem.W.Frag} {σ : L2.St} {H H' : Hp} {te tl : TE} {tz : TS} {D : Ends}
/-- [e for n in ns], whole numbers to whole numbers -/
theorem el_mapI {a : Addr} {ns : List Int} {j : Nat} {vs : List Nat} (f : Int → Int) (h : Ev tl σ H (.ref a)) (hx : SqL K H a (ns.map V.int)) (hz : ns.length ≤ 40000) (hw : ∀ x, wipe ((wipe σ vs).set j (some x)) vs = wipe σ vs)
    (he : ∀ (n : Int) H1, Ex H H1 → n ∈ ns → Ev te ((wipe σ vs).set j (some (.int n))) H1 (.int (f n))) : EvL (tLc (iList K tl) (gName j) tYes te vs) σ H ((ns.map f).map V.int) := by
  have z := el_map (K := K) (te := te) (tl := tl) (j := j) (vs := vs) (σ := σ) (H := H) (fun x => match x with | .int n => .int (f n) | _ => .non) h hx (by rw [List.length_map]; exact hz) hw (fun x H1 e hx => by
    obtain ⟨n, hn, rfl⟩ := List.mem_map.mp hx
    exact he n H1 e hn)
  rw [List.map_map] at z ⊢
  exact z
theorem el_rngI {ta : TA} {j : Nat} {vs : List Nat} {n : Nat} (f : Nat → Int) (h : EvA ta σ H [.int (n : Int)]) (hn : n ≤ 40000) (hw : ∀ x, wipe ((wipe σ vs).set j (some x)) vs = wipe σ vs)
    (he : ∀ (i : Nat) H1, Ex H H1 → i < n → Ev te ((wipe σ vs).set j (some (.int (i : Int)))) H1 (.int (f i))) : EvL (tLc (iRng1 ta) (gName j) tYes te vs) σ H (((List.range n).map f).map V.int) := by
  have z := el_rng (te := te) (j := j) (vs := vs) (σ := σ) (H := H) (fun i => .int (f i)) h (by omega) hw (fun i H1 e hi => he i H1 e (by omega))
  rw [List.map_map]
  exact z
end
end TB
namespace TB
open PySem PySem.Spec PyProof.Rows L2 Evl
section
variable {K : PySem.W.Frag} {σ : L2.St} {H H' : Hp} {t1 t2 : TE} {tz : TS} {D : Ends} {sp : Sp} {dvs xs ys : List V} {E : XK} {v z : V}
/-- calls of two arguments, new lists among them -/
theorem ev_cLL (h1 : EvL t1 σ H xs) (h2 : EvL t2 σ H ys) (hs : ∀ p r H1, H1 p = some (.lst xs) → H1 r = some (.lst ys) → Ex H H1 → SpV sp ([.ref p, .ref r] ++ dvs) H1 z) : Ev (tCall sp dvs E (tCons t1 (tCons t2 tNil))) σ H z := fun H1 e Q q =>
  h1 H1 e _ fun p H2 _ e2 g1 => h2 H2 (e.trans e2) _ fun r H3 _ e3 g2 => hs p r H3 (e3 _ _ g1) g2 ((e.trans e2).trans e3) H3 (Ex.refl H3) Q (fun H4 e4 => q H4 ((e2.trans e3).trans e4)) E
theorem ev_cLV (h1 : EvL t1 σ H xs) (h2 : Ev t2 σ H v) (hs : ∀ p H1, H1 p = some (.lst xs) → Ex H H1 → SpV sp ([.ref p, v] ++ dvs) H1 z) : Ev (tCall sp dvs E (tCons t1 (tCons t2 tNil))) σ H z := fun H1 e Q q =>
  h1 H1 e _ fun p H2 _ e2 g1 => h2 H2 (e.trans e2) _ fun H3 e3 => hs p H3 (e3 _ _ g1) ((e.trans e2).trans e3) H3 (Ex.refl H3) Q (fun H4 e4 => q H4 ((e2.trans e3).trans e4)) E
theorem ev_cVL (h1 : Ev t1 σ H v) (h2 : EvL t2 σ H ys) (hs : ∀ r H1, H1 r = some (.lst ys) → Ex H H1 → SpV sp ([v, .ref r] ++ dvs) H1 z) : Ev (tCall sp dvs E (tCons t1 (tCons t2 tNil))) σ H z := fun H1 e Q q =>
  h1 H1 e _ fun H2 e2 => h2 H2 (e.trans e2) _ fun r H3 _ e3 g2 => hs r H3 g2 ((e.trans e2).trans e3) H3 (Ex.refl H3) Q (fun H4 e4 => q H4 ((e2.trans e3).trans e4)) E
theorem ev_cL (h1 : EvL t1 σ H xs) (hs : ∀ p H1, H1 p = some (.lst xs) → Ex H H1 → SpV sp ([.ref p] ++ dvs) H1 z) : Ev (tCall sp dvs E (tCons t1 tNil)) σ H z := fun H1 e Q q =>
  h1 H1 e _ fun p H2 _ e2 g1 => hs p H2 g1 (e.trans e2) H2 (Ex.refl H2) Q (fun H4 e4 => q H4 (e2.trans e4)) E
/-- .. the second argument some number, of which P holds -/
theorem ev_cVR {sp2 : Sp} {dvs2 vs2 : List V} {E2 : XK} {ta : TA} {P : Int → Prop} (h1 : Ev t1 σ H v) (h2 : EvA ta σ H vs2) (hs2 : ∀ H1, Ex H H1 → ∀ (Q : VK) (E : XK), (∀ x, P x → RetV (.int x) H1 Q) → sp2 (vs2 ++ dvs2) H1 Q E)
    (hs : ∀ x H1, P x → Ex H H1 → SpV sp ([v, .int x] ++ dvs) H1 z) : Ev (tCall sp dvs E (tCons t1 (tCons (tCall sp2 dvs2 E2 ta) tNil))) σ H z := fun H1 e Q q =>
  h1 H1 e _ fun H2 e2 => h2 H2 (e.trans e2) _ fun H3 e3 => hs2 H3 ((e.trans e2).trans e3) _ E2 fun x hx H4 e4 => hs x H4 hx (((e.trans e2).trans e3).trans e4) H4 (Ex.refl H4) Q (fun H5 e5 => q H5 (((e2.trans e3).trans e4).trans e5)) E
end
end TB
/-! isinstance asked of the caught exception -/
namespace TB
open PySem PySem.Spec PyProof.Rows L2 Evl
def excB (K : PySem.W.Frag) (D : Addr) : Bool := decide (PySem.W.findIn K (.ref D) "__getattribute__" = some (some (.builtin "BaseException.__getattribute__"))) && (decide (PySem.W.findIn K (.ref D) "__getattr__" = some none) && (decide (PySem.W.subIn K (.ref D) (.type "BaseException") = some true) && (PySem.W.hasDictIn K D &&
  (decide (PySem.W.findIn K (.ref D) "__class__" = some (some (.builtin "object.__class__"))) && (decide (PySem.W.specialIn K (.builtin "object.__class__") "__get__" = some (some (.builtin "getset_descriptor.__get__"))) && (decide (PySem.W.takesIn K (.builtin "object.__class__") = some true) && decide (PySem.W.mroIn K D (.type "object") = some true)))))))
theorem excB_ok {K : PySem.W.Frag} {D : Addr} (h : excB K D = true) : ExcC K D := by
  obtain ⟨h1, h⟩ := Bool.and_eq_true_iff.mp h
  obtain ⟨h2, h⟩ := Bool.and_eq_true_iff.mp h
  obtain ⟨h3, h⟩ := Bool.and_eq_true_iff.mp h
  obtain ⟨h4, h⟩ := Bool.and_eq_true_iff.mp h
  obtain ⟨h5, h⟩ := Bool.and_eq_true_iff.mp h
  obtain ⟨h6, h⟩ := Bool.and_eq_true_iff.mp h
  obtain ⟨h7, h8⟩ := Bool.and_eq_true_iff.mp h
  exact ⟨of_decide_eq_true h1, of_decide_eq_true h2, of_decide_eq_true h3, h4, of_decide_eq_true h5, of_decide_eq_true h6, of_decide_eq_true h7, of_decide_eq_true h8⟩
/-- the classes of refusals, each with what it is an instance of -/
def exB (K : PySem.W.Frag) (cs : List (Str × List (Str × Bool))) : Bool := cs.all fun r => excB K (He.ga K r.1) && ((r.2.all fun c => decide (PySem.W.kitOne K (.ref (He.ga K r.1)) (.ref (He.ga K c.1)) = some c.2)) && decide (PySem.W.kitOne K (.ref (He.ga K r.1)) (.type "ValueError") = some true))
theorem exB_row {K : PySem.W.Frag} {cs : List (Str × List (Str × Bool))} (h : exB K cs = true) (i : Nat) {r : Str × List (Str × Bool)} (hr : cs[i]? = some r) : ExcC K (He.ga K r.1) ∧ PySem.W.kitOne K (.ref (He.ga K r.1)) (.type "ValueError") = some true ∧ ∀ (j : Nat) (c : Str × Bool), r.2[j]? = some c → PySem.W.kitOne K (.ref (He.ga K r.1)) (.ref (He.ga K c.1)) = some c.2 := by
  have z := List.all_eq_true.mp h r (List.mem_of_getElem? hr)
  obtain ⟨h1, h2⟩ := Bool.and_eq_true_iff.mp z
  obtain ⟨h3, h4⟩ := Bool.and_eq_true_iff.mp h2
  exact ⟨excB_ok h1, of_decide_eq_true h4, fun j c hc => of_decide_eq_true (List.all_eq_true.mp h3 c (List.mem_of_getElem? hc))⟩
def rIsX (K : PySem.W.Frag) (cls : Value) (d : Option Addr) (a : Addr) : List V → Hp → VK → Prop := fun xs H Q => ∃ (D : Addr) (c : V) (cv : Value) (b : Bool), cls = .ref D ∧ d = none ∧ ExcC K D ∧ xs = [.ref a, c] ∧ ClsV c cv ∧ PySem.W.kitOne K (.ref D) cv = some b ∧ Q (.bl b) H
def rIsXT (K : PySem.W.Frag) (cls : Value) (d : Option Addr) (a : Addr) : List V → Hp → VK → Prop := fun xs H Q => ∃ (D tp : Addr) (cs : List V) (us : List Value) (b : Bool), cls = .ref D ∧ d = none ∧ ExcC K D ∧ xs = [.ref a, .ref tp] ∧ H tp = some (.tup cs) ∧ Paired ClsV cs us ∧ PySem.W.kitAny K (.ref D) us = some b ∧ Q (.bl b) H
section
variable {X : Cx} {a : Addr} {oe : Obj} {cls : Value} {d : Option Addr} {pn : List (Addr × Obj)}
theorem isX (hz : Zc cls d oe) (hf : ∃ vs, oe.data = .fields vs) : CallR (X.suite a ((a, oe) :: pn)) (.builtin "isinstance") (rIsX X.K cls d a) := by
  intro pins s σ H xs us Q I r h
  obtain ⟨D, c, cv, b, rfl, rfl, C, rfl, hc, e, q⟩ := h
  exact call_isE C hz hf pins s σ H _ us Q I r ⟨c, cv, b, rfl, fun u k => hc.eq k, e, q⟩
theorem isXT (hz : Zc cls d oe) (hf : ∃ vs, oe.data = .fields vs) : CallR (X.suite a ((a, oe) :: pn)) (.builtin "isinstance") (rIsXT X.K cls d a) := by
  intro pins s σ H xs us Q I r h
  obtain ⟨D, tp, cs, ws, b, rfl, rfl, C, rfl, hT, k, e, q⟩ := h
  obtain ⟨u1, u2, rfl, r1, r2⟩ := vals2 r
  cases (show u2 = Value.ref tp from r2)
  cases (show u1 = Value.ref a from r1)
  obtain ⟨hget, _⟩ := I.pin (a, oe) (List.mem_append.mpr (.inl List.mem_cons_self))
  obtain ⟨vs, hv⟩ := hf
  have J : PySem.W.InstAt s.heap a oe D none := by
    obtain ⟨oc, od, oda, osl⟩ := oe
    obtain ⟨h1, h2⟩ := hz
    dsimp only at h1 h2 hv
    subst h1 h2 hv
    exact ⟨hget, rfl, rfl, trivial⟩
  obtain ⟨_, its, rv, o, h1, h2, n, h3⟩ := (show ObjOk X.prog X.w H s.heap tp (.tup cs) from I.hok tp _ hT)
  have e3 := ClsV.all k rv
  subst e3
  obtain ⟨oc, od, dt, sl⟩ := o
  simp only at h2 h3
  subst h2 h3
  exact PySem.W.kia_tup (PySem.W.handS_kitx_exc C.hg C.hk C.hs C.hd C.ha C.hn C.ht C.hm) I.kIn J h1 e (fun z => nomatch z) fun tk => ⟨.bl b, H, I.kept (t' := tk) fun _ _ z => z, rfl, q⟩
end
section
variable {K : PySem.W.Frag} {σ : L2.St} {H H' : Hp} {te tl : TE}
/-- isinstance(e, c) -/
theorem rc_isX {D a : Addr} {c : V} {cv : Value} {b : Bool} (C : ExcC K D) (hc : ClsV c cv) (e : PySem.W.kitOne K (.ref D) cv = some b) : RC (rIsX K (.ref D) none a) [.ref a, c] H (.bl b) := fun H1 _ Q q => ⟨D, c, cv, b, rfl, rfl, C, rfl, hc, e, q H1 (Ex.refl H1)⟩
theorem rc_isXT {D a tp : Addr} {cs : List V} {us : List Value} {b : Bool} (C : ExcC K D) (h : H tp = some (.tup cs)) (hc : Paired ClsV cs us) (e : PySem.W.kitAny K (.ref D) us = some b) : RC (rIsXT K (.ref D) none a) [.ref a, .ref tp] H (.bl b) := fun H1 e1 Q q => ⟨D, tp, cs, us, b, rfl, rfl, C, rfl, e1 _ _ h, hc, e, q H1 (Ex.refl H1)⟩
/-- a built-in call of two arguments, the second a new tuple -/
theorem ev_cbU {r : List V → Hp → VK → Prop} {t1 t2 : TE} {v z : V} {xs : List V} (h1 : Ev t1 σ H v) (h2 : EvU t2 σ H xs) (hs : ∀ p H1, H1 p = some (.tup xs) → Ex H H1 → RC r [v, .ref p] H1 z) : Ev (tCB r (tCons t1 (tCons t2 tNil))) σ H z := fun H1 e Q q =>
  h1 H1 e _ fun H2 e2 => h2 H2 (e.trans e2) _ fun p H3 _ e3 g2 => hs p H3 g2 ((e.trans e2).trans e3) H3 (Ex.refl H3) Q fun H4 e4 => q H4 ((e2.trans e3).trans e4)
/-- [e for x in xs if t], whole numbers -/
theorem el_filtL {a : Addr} {ns : List Int} {j : Nat} {vs : List Nat} {t : TT} (p : Int → Bool) (f : Int → Int) (h : Ev tl σ H (.ref a)) (hx : SqL K H a (ns.map V.int)) (hz : ns.length ≤ 40000) (hw : ∀ x, wipe ((wipe σ vs).set j (some x)) vs = wipe σ vs)
    (ht : ∀ (n : Int) H1, Ex H H1 → n ∈ ns → EvT t ((wipe σ vs).set j (some (.int n))) H1 (p n)) (he : ∀ (n : Int) H1, Ex H H1 → n ∈ ns → Ev te ((wipe σ vs).set j (some (.int n))) H1 (.int (f n))) : EvL (tLc (iList K tl) (gName j) t te vs) σ H (((ns.filter p).map f).map V.int) := by
  have at_ : ∀ (i : Nat) (x : V), (ns.map V.int)[i]? = some x → x = .int (ns.getD i 0) ∧ ns.getD i 0 ∈ ns := fun i x hi => by
    rw [List.getElem?_map] at hi
    cases hg : ns[i]? with
    | none => rw [hg] at hi; cases hi
    | some y =>
      rw [hg] at hi
      have e2 : ns.getD i 0 = y := by rw [List.getD_eq_getElem?_getD, hg]; rfl
      rw [e2]
      exact ⟨(Option.some.inj hi).symm, List.mem_of_getElem? hg⟩
  have z := el_lcL (K := K) (te := te) (t := t) (tl := tl) (j := j) (vs := vs) (σ := σ) (H := H) (fun i => p (ns.getD i 0)) (fun i => .int (f (ns.getD i 0))) h hx (by rw [List.length_map]; exact hz) hw (fun i x H1 e hi => by
    obtain ⟨rfl, hm⟩ := at_ i x hi
    exact ht _ H1 e hm) (fun i x H1 e hi _ => by
    obtain ⟨rfl, hm⟩ := at_ i x hi
    exact he _ H1 e hm)
  have e : given (ns.map V.int).length (fun i => p (ns.getD i 0)) (fun i => .int (f (ns.getD i 0))) = ((ns.filter p).map f).map V.int := by
    unfold given
    rw [List.length_map]
    have w : ns = (List.range ns.length).map fun i => ns.getD i 0 := by
      apply List.ext_getElem
      · simp
      · intro i h1 h2
        rw [List.getElem_map, List.getElem_range, List.getD_eq_getElem?_getD, List.getElem?_eq_getElem h1]
        rfl
    have w2 : ns.filter p = ((List.range ns.length).filter fun i => p (ns.getD i 0)).map fun i => ns.getD i 0 := by
      conv => lhs; rw [w]
      rw [List.filter_map]
      rfl
    rw [w2, List.map_map, List.map_map]
    rfl
  rw [e] at z
  exact z
end
end TB

namespace TB
open PySem PySem.Spec PyProof.Rows L2 Evl
def top (i : Nat) : Stmt := PySem.Challenge.pw_tossbook_k15_whole_changes.main.body.getD i (.Pass ⟨0, 0, 0, 0⟩)
abbrev s_Clash___init__ : Stmt := (inClass (top 4) 0)
abbrev s_is_whole : Stmt := (top 8)
abbrev s_within : Stmt := (top 9)
abbrev s_check_number : Stmt := (top 10)
abbrev s_check_row : Stmt := (top 11)
abbrev s_clash_of : Stmt := (top 12)
abbrev s_check_pattern : Stmt := (top 13)
abbrev s_balls_of : Stmt := (top 14)
abbrev s_kept : Stmt := (top 15)
abbrev s_turned : Stmt := (top 17)
abbrev s_lifted : Stmt := (top 18)
abbrev s_mirrored : Stmt := (top 19)
abbrev s_gaps : Stmt := (top 20)
abbrev s_swapped : Stmt := (top 22)
abbrev s_exchange : Stmt := (top 23)
abbrev s_neighbours : Stmt := (top 24)
abbrev s_Change_done : Stmt := (inClass (top 26) 0)
abbrev s_Change_undone : Stmt := (inClass (top 26) 1)
abbrev s_Change_balls : Stmt := (inClass (top 26) 2)
abbrev s_Turn___init__ : Stmt := (inClass (top 27) 0)
abbrev s_Turn_done : Stmt := (inClass (top 27) 1)
abbrev s_Turn_undone : Stmt := (inClass (top 27) 2)
abbrev s_Lift___init__ : Stmt := (inClass (top 28) 0)
abbrev s_Lift_done : Stmt := (inClass (top 28) 1)
abbrev s_Lift_undone : Stmt := (inClass (top 28) 2)
abbrev s_Lift_balls : Stmt := (inClass (top 28) 3)
abbrev s_Swap___init__ : Stmt := (inClass (top 29) 0)
abbrev s_Swap_done : Stmt := (inClass (top 29) 1)
abbrev s_Neighbours___init__ : Stmt := (inClass (top 30) 0)
abbrev s_Neighbours_done : Stmt := (inClass (top 30) 1)
abbrev s_Mirror_done : Stmt := (inClass (top 31) 0)
abbrev s_Gaps___init__ : Stmt := (inClass (top 32) 0)
abbrev s_Gaps_done : Stmt := (inClass (top 32) 1)
abbrev s_Gaps_balls : Stmt := (inClass (top 32) 2)
abbrev s_Changes___init__ : Stmt := (inClass (top 33) 0)
abbrev s_Changes_done : Stmt := (inClass (top 33) 1)
abbrev s_Changes_undone : Stmt := (inClass (top 33) 2)
abbrev s_Changes_balls : Stmt := (inClass (top 33) 3)
abbrev s__law_cell_at : Stmt := (top 35)
abbrev s__law_mixed : Stmt := (top 36)
abbrev s__law_size_by : Stmt := (top 37)
abbrev s__law_spots_by : Stmt := (top 38)
abbrev s__law_throws_by : Stmt := (top 39)
abbrev s__law_same : Stmt := (top 40)
abbrev s__law_beats_by : Stmt := (top 41)
abbrev s__law_one_by : Stmt := (top 42)
abbrev s__law_by_hand : Stmt := (top 43)
abbrev s__law_kinds_right : Stmt := (top 44)
abbrev s__law_far_right : Stmt := (top 45)
abbrev s_law : Stmt := (top 46)
def fn : List He.DefD := [
  ⟨("Clash", some "__init__"), "__init__", "Clash.__init__", defArgs s_Clash___init__, defBody s_Clash___init__, defScope s_Clash___init__, [], []⟩,
  ⟨("is_whole", none), "is_whole", "is_whole", defArgs s_is_whole, defBody s_is_whole, defScope s_is_whole, [], []⟩,
  ⟨("within", none), "within", "within", defArgs s_within, defBody s_within, defScope s_within, [], []⟩,
  ⟨("check_number", none), "check_number", "check_number", defArgs s_check_number, defBody s_check_number, defScope s_check_number, [], []⟩,
  ⟨("check_row", none), "check_row", "check_row", defArgs s_check_row, defBody s_check_row, defScope s_check_row, [], []⟩,
  ⟨("clash_of", none), "clash_of", "clash_of", defArgs s_clash_of, defBody s_clash_of, defScope s_clash_of, [], []⟩,
  ⟨("check_pattern", none), "check_pattern", "check_pattern", defArgs s_check_pattern, defBody s_check_pattern, defScope s_check_pattern, [], []⟩,
  ⟨("balls_of", none), "balls_of", "balls_of", defArgs s_balls_of, defBody s_balls_of, defScope s_balls_of, [], []⟩,
  ⟨("kept", none), "kept", "kept", defArgs s_kept, defBody s_kept, defScope s_kept, [], []⟩,
  ⟨("turned", none), "turned", "turned", defArgs s_turned, defBody s_turned, defScope s_turned, [], []⟩,
  ⟨("lifted", none), "lifted", "lifted", defArgs s_lifted, defBody s_lifted, defScope s_lifted, [], []⟩,
  ⟨("mirrored", none), "mirrored", "mirrored", defArgs s_mirrored, defBody s_mirrored, defScope s_mirrored, [], []⟩,
  ⟨("gaps", none), "gaps", "gaps", defArgs s_gaps, defBody s_gaps, defScope s_gaps, [], []⟩,
  ⟨("swapped", none), "swapped", "swapped", defArgs s_swapped, defBody s_swapped, defScope s_swapped, [], []⟩,
  ⟨("exchange", none), "exchange", "exchange", defArgs s_exchange, defBody s_exchange, defScope s_exchange, [], []⟩,
  ⟨("neighbours", none), "neighbours", "neighbours", defArgs s_neighbours, defBody s_neighbours, defScope s_neighbours, [], []⟩,
  ⟨("Change", some "done"), "done", "Change.done", defArgs s_Change_done, defBody s_Change_done, defScope s_Change_done, [], []⟩,
  ⟨("Change", some "undone"), "undone", "Change.undone", defArgs s_Change_undone, defBody s_Change_undone, defScope s_Change_undone, [], []⟩,
  ⟨("Change", some "balls"), "balls", "Change.balls", defArgs s_Change_balls, defBody s_Change_balls, defScope s_Change_balls, [], []⟩,
  ⟨("Turn", some "__init__"), "__init__", "Turn.__init__", defArgs s_Turn___init__, defBody s_Turn___init__, defScope s_Turn___init__, [], []⟩,
  ⟨("Turn", some "done"), "done", "Turn.done", defArgs s_Turn_done, defBody s_Turn_done, defScope s_Turn_done, [], []⟩,
  ⟨("Turn", some "undone"), "undone", "Turn.undone", defArgs s_Turn_undone, defBody s_Turn_undone, defScope s_Turn_undone, [], []⟩,
  ⟨("Lift", some "__init__"), "__init__", "Lift.__init__", defArgs s_Lift___init__, defBody s_Lift___init__, defScope s_Lift___init__, [], []⟩,
  ⟨("Lift", some "done"), "done", "Lift.done", defArgs s_Lift_done, defBody s_Lift_done, defScope s_Lift_done, [], []⟩,
  ⟨("Lift", some "undone"), "undone", "Lift.undone", defArgs s_Lift_undone, defBody s_Lift_undone, defScope s_Lift_undone, [], []⟩,
  ⟨("Lift", some "balls"), "balls", "Lift.balls", defArgs s_Lift_balls, defBody s_Lift_balls, defScope s_Lift_balls, [], []⟩,
  ⟨("Swap", some "__init__"), "__init__", "Swap.__init__", defArgs s_Swap___init__, defBody s_Swap___init__, defScope s_Swap___init__, [], []⟩,
  ⟨("Swap", some "done"), "done", "Swap.done", defArgs s_Swap_done, defBody s_Swap_done, defScope s_Swap_done, [], []⟩,
  ⟨("Neighbours", some "__init__"), "__init__", "Neighbours.__init__", defArgs s_Neighbours___init__, defBody s_Neighbours___init__, defScope s_Neighbours___init__, [], []⟩,
  ⟨("Neighbours", some "done"), "done", "Neighbours.done", defArgs s_Neighbours_done, defBody s_Neighbours_done, defScope s_Neighbours_done, [], []⟩,
  ⟨("Mirror", some "done"), "done", "Mirror.done", defArgs s_Mirror_done, defBody s_Mirror_done, defScope s_Mirror_done, [], []⟩,
  ⟨("Gaps", some "__init__"), "__init__", "Gaps.__init__", defArgs s_Gaps___init__, defBody s_Gaps___init__, defScope s_Gaps___init__, [], []⟩,
  ⟨("Gaps", some "done"), "done", "Gaps.done", defArgs s_Gaps_done, defBody s_Gaps_done, defScope s_Gaps_done, [], []⟩,
  ⟨("Gaps", some "balls"), "balls", "Gaps.balls", defArgs s_Gaps_balls, defBody s_Gaps_balls, defScope s_Gaps_balls, [], []⟩,
  ⟨("Changes", some "__init__"), "__init__", "Changes.__init__", defArgs s_Changes___init__, defBody s_Changes___init__, defScope s_Changes___init__, [], []⟩,
  ⟨("Changes", some "done"), "done", "Changes.done", defArgs s_Changes_done, defBody s_Changes_done, defScope s_Changes_done, [], []⟩,
  ⟨("Changes", some "undone"), "undone", "Changes.undone", defArgs s_Changes_undone, defBody s_Changes_undone, defScope s_Changes_undone, [], []⟩,
  ⟨("Changes", some "balls"), "balls", "Changes.balls", defArgs s_Changes_balls, defBody s_Changes_balls, defScope s_Changes_balls, [], []⟩,
  ⟨("_law_cell_at", none), "_law_cell_at", "_law_cell_at", defArgs s__law_cell_at, defBody s__law_cell_at, defScope s__law_cell_at, [], []⟩,
  ⟨("_law_mixed", none), "_law_mixed", "_law_mixed", defArgs s__law_mixed, defBody s__law_mixed, defScope s__law_mixed, [], []⟩,
  ⟨("_law_size_by", none), "_law_size_by", "_law_size_by", defArgs s__law_size_by, defBody s__law_size_by, defScope s__law_size_by, [], []⟩,
  ⟨("_law_spots_by", none), "_law_spots_by", "_law_spots_by", defArgs s__law_spots_by, defBody s__law_spots_by, defScope s__law_spots_by, [], []⟩,
  ⟨("_law_throws_by", none), "_law_throws_by", "_law_throws_by", defArgs s__law_throws_by, defBody s__law_throws_by, defScope s__law_throws_by, [], []⟩,
  ⟨("_law_same", none), "_law_same", "_law_same", defArgs s__law_same, defBody s__law_same, defScope s__law_same, [], []⟩,
  ⟨("_law_beats_by", none), "_law_beats_by", "_law_beats_by", defArgs s__law_beats_by, defBody s__law_beats_by, defScope s__law_beats_by, [], []⟩,
  ⟨("_law_one_by", none), "_law_one_by", "_law_one_by", defArgs s__law_one_by, defBody s__law_one_by, defScope s__law_one_by, [], []⟩,
  ⟨("_law_by_hand", none), "_law_by_hand", "_law_by_hand", defArgs s__law_by_hand, defBody s__law_by_hand, defScope s__law_by_hand, [], []⟩,
  ⟨("_law_kinds_right", none), "_law_kinds_right", "_law_kinds_right", defArgs s__law_kinds_right, defBody s__law_kinds_right, defScope s__law_kinds_right, [], []⟩,
  ⟨("_law_far_right", none), "_law_far_right", "_law_far_right", defArgs s__law_far_right, defBody s__law_far_right, defScope s__law_far_right, [], []⟩,
  ⟨("law", none), "law", "law", defArgs s_law, defBody s_law, defScope s_law, [], []⟩]
def fa : List He.Fa := [.glo "is_whole", .glo "within", .glo "check_number", .glo "check_row", .glo "clash_of", .glo "check_pattern", .glo "balls_of", .glo "kept", .glo "turned", .glo "lifted", .glo "mirrored", .glo "gaps", .glo "swapped", .glo "exchange", .glo "neighbours", .glo "_law_cell_at", .glo "_law_mixed", .glo "_law_size_by", .glo "_law_spots_by", .glo "_law_throws_by", .glo "_law_same", .glo "_law_beats_by", .glo "_law_one_by", .glo "_law_by_hand", .glo "_law_kinds_right", .glo "_law_far_right", .glo "law", .glo "TossError", .glo "NotARow", .glo "OutOfBounds", .glo "Clash", .glo "Change", .glo "Turn", .glo "Lift", .glo "Swap", .glo "Neighbours", .glo "Mirror", .glo "Gaps", .glo "Changes", .free "all", .free "bool", .free "int", .free "isinstance", .free "len", .free "list", .free "range", .free "sum", .int "GREATEST" 1000000, .int "LONGEST" 60, .exc "TossError", .exc "NotARow", .exc "OutOfBounds", .exm "TossError" "OutOfBounds" false, .exm "NotARow" "OutOfBounds" false, .exm "OutOfBounds" "OutOfBounds" true, .exm "Clash" "OutOfBounds" false, .cls "Change", .meth "Change" "done", .meth "Change" "undone", .meth "Change" "balls", .cls "Turn", .noat "Turn" "k", .mkr "Turn", .meth "Turn" "done", .meth "Turn" "undone", .meth "Turn" "balls", .cls "Lift", .noat "Lift" "k", .mkr "Lift", .meth "Lift" "done", .meth "Lift" "undone", .meth "Lift" "balls", .cls "Swap", .noat "Swap" "i", .noat "Swap" "j", .mkr "Swap", .meth "Swap" "done", .meth "Swap" "undone", .meth "Swap" "balls", .cls "Neighbours", .noat "Neighbours" "k", .mkr "Neighbours", .meth "Neighbours" "done", .meth "Neighbours" "undone", .meth "Neighbours" "balls", .cls "Mirror", .meth "Mirror" "done", .meth "Mirror" "undone", .meth "Mirror" "balls", .cls "Gaps", .noat "Gaps" "h", .mkr "Gaps", .meth "Gaps" "done", .meth "Gaps" "undone", .meth "Gaps" "balls", .cls "Changes", .noat "Changes" "rows", .mkr "Changes", .meth "Changes" "done", .meth "Changes" "undone", .meth "Changes" "balls"]
def exs : List (Str × List (Str × Bool)) := []
/-- what is asked of the classes of changes, further -/
inductive Fb where
  | own (x : Str)
  | isa (x y : Str) (b : Bool)
  | same (x m : Str)
  | mk0 (x : Str)
  | off (x m : Str)
def Fb.ok (K : PySem.W.Frag) : Fb → Bool
  | .own x => decide (PySem.W.findIn K (.ref (He.ga K x)) "__class__" = some (some (.builtin "object.__class__"))) && (decide (PySem.W.specialIn K (.builtin "object.__class__") "__get__" = some (some (.builtin "getset_descriptor.__get__"))) && (decide (PySem.W.takesIn K (.builtin "object.__class__") = some true) && decide (PySem.W.mroIn K (He.ga K x) (.type "object") = some true)))
  | .isa x y b => decide (PySem.W.kitOne K (.ref (He.ga K x)) (.ref (He.ga K y)) = some b)
  | .same x m => decide (He.ma K (He.ga K x) m = He.ma K (He.ga K "Change") m)
  | .mk0 x => PySem.W.makesIn K (He.ga K x) && (decide (PySem.W.findIn K (.ref (He.ga K x)) "__init__" = some (some (.builtin "object.__init__"))) && PySem.W.keepIn K (.ref (He.ga K x)))
  | .off x m => PySem.W.readsIn K (He.ga K x) (.type "type") && (decide (PySem.W.specialIn K (.ref (He.ga K x)) "__getattribute__" = some (some (.builtin "type.__getattribute__"))) && (match PySem.W.findCls K (.ref (He.ga K x)) (.type "type") m with
    | some (.val v) => decide (v = .ref (He.ma K (He.ga K x) m))
    | _ => false))
def fb : List Fb := [.own "Change", .isa "Change" "Change" true, .isa "Change" "Turn" false, .isa "Change" "Lift" false, .isa "Change" "Swap" false, .isa "Change" "Neighbours" false, .isa "Change" "Mirror" false, .isa "Change" "Gaps" false, .isa "Change" "Changes" false, .mk0 "Change", .own "Turn", .isa "Turn" "Change" true, .isa "Turn" "Turn" true, .isa "Turn" "Lift" false, .isa "Turn" "Swap" false, .isa "Turn" "Neighbours" false, .isa "Turn" "Mirror" false, .isa "Turn" "Gaps" false, .isa "Turn" "Changes" false, .same "Turn" "balls", .own "Lift", .isa "Lift" "Change" true, .isa "Lift" "Turn" false, .isa "Lift" "Lift" true, .isa "Lift" "Swap" false, .isa "Lift" "Neighbours" false, .isa "Lift" "Mirror" false, .isa "Lift" "Gaps" false, .isa "Lift" "Changes" false, .own "Swap", .isa "Swap" "Change" true, .isa "Swap" "Turn" false, .isa "Swap" "Lift" false, .isa "Swap" "Swap" true, .isa "Swap" "Neighbours" false, .isa "Swap" "Mirror" false, .isa "Swap" "Gaps" false, .isa "Swap" "Changes" false, .same "Swap" "undone", .same "Swap" "balls", .own "Neighbours", .isa "Neighbours" "Change" true, .isa "Neighbours" "Turn" false, .isa "Neighbours" "Lift" false, .isa "Neighbours" "Swap" false, .isa "Neighbours" "Neighbours" true, .isa "Neighbours" "Mirror" false, .isa "Neighbours" "Gaps" false, .isa "Neighbours" "Changes" false, .same "Neighbours" "undone", .same "Neighbours" "balls", .own "Mirror", .isa "Mirror" "Change" true, .isa "Mirror" "Turn" false, .isa "Mirror" "Lift" false, .isa "Mirror" "Swap" false, .isa "Mirror" "Neighbours" false, .isa "Mirror" "Mirror" true, .isa "Mirror" "Gaps" false, .isa "Mirror" "Changes" false, .same "Mirror" "undone", .same "Mirror" "balls", .mk0 "Mirror", .own "Gaps", .isa "Gaps" "Change" true, .isa "Gaps" "Turn" false, .isa "Gaps" "Lift" false, .isa "Gaps" "Swap" false, .isa "Gaps" "Neighbours" false, .isa "Gaps" "Mirror" false, .isa "Gaps" "Gaps" true, .isa "Gaps" "Changes" false, .same "Gaps" "undone", .own "Changes", .isa "Changes" "Change" true, .isa "Changes" "Turn" false, .isa "Changes" "Lift" false, .isa "Changes" "Swap" false, .isa "Changes" "Neighbours" false, .isa "Changes" "Mirror" false, .isa "Changes" "Gaps" false, .isa "Changes" "Changes" true, .off "Change" "done"]
def ex (K : PySem.W.Frag) : Bool := (clashB K (He.ga K "Clash") && exB K exs) && fb.all (Fb.ok K)
abbrev TXT (K : PySem.W.Frag) (mg : Str → Option Value) : Prop := TX fa fn ex K mg
theorem tx_clash {K : PySem.W.Frag} {mg : Str → Option Value} (T : TXT K mg) : clashB K (He.ga K "Clash") = true := (Bool.and_eq_true_iff.mp (Bool.and_eq_true_iff.mp T.c.2).1).1
theorem tx_exs {K : PySem.W.Frag} {mg : Str → Option Value} (T : TXT K mg) : exB K exs = true := (Bool.and_eq_true_iff.mp (Bool.and_eq_true_iff.mp T.c.2).1).2
theorem tx_fb {K : PySem.W.Frag} {mg : Str → Option Value} (T : TXT K mg) (i : Nat) {f : Fb} (h : fb[i]? = some f := by rfl) : f.ok K = true := List.all_eq_true.mp (Bool.and_eq_true_iff.mp T.c.2).2 f (List.mem_of_getElem? h)
end TB


/-! ### rows: is_whole, within, check_row, Clash -/
namespace TB
open PySem PySem.Spec PyProof.Rows L2 Evl
def inB (v : V) (lo hi : Int) : Bool := match v with
  | .int i => decide (lo ≤ i) && decide (i ≤ hi)
  | _ => false
def sp_is_whole : Sp := fun vs H Q E => ∃ v, vs = [v] ∧ Kd H v ∧ RetV (.bl (isI v)) H Q
def sp_within : Sp := fun vs H Q E => ∃ v lo hi, vs = [v, .int lo, .int hi] ∧ Kd H v ∧ RetV (.bl (inB v lo hi)) H Q
theorem sv_is_whole {H : Hp} {v : V} (hk : Kd H v) : SpV sp_is_whole [v] H (.bl (isI v)) := spv_of fun H1 e Q E k => ⟨v, rfl, hk.mono e, k⟩
theorem sv_within {H : Hp} {v : V} {lo hi : Int} (hk : Kd H v) : SpV sp_within [v, .int lo, .int hi] H (.bl (inB v lo hi)) := spv_of fun H1 e Q E k => ⟨v, lo, hi, rfl, hk.mono e, k⟩
theorem sc_is_whole : FnScope ["number"] ["number"] (defScope s_is_whole) := ⟨rfl, rfl, rfl, by decide +kernel, rfl, by decide +kernel, by decide +kernel⟩
theorem ok_is_whole {P : Program} {w : World} {K : PySem.W.Frag} {mg : Str → Option Value} {base : Heap} (T : TXT K mg) : OK P w K mg base "is_whole" ["number"] 1 (sp_is_whole) := by
  obtain ⟨fd, F⟩ := T.def_ 1
  refine ⟨_, fd, T.glo 0, F.kp, F.bindsN (fun _ _ _ _ _ _ us hl => match us, hl with | [_], _ => rfl), F.ok sc_is_whole (fun vs H Q E h => ?_) (fun cdv A outer s H vs Q E hr h => ?_), F.bindsA (fun _ _ _ _ _ _ us hl => match us, hl with | [_], _ => rfl)⟩
  · first | (obtain ⟨rfl, _⟩ := h; rfl) | (obtain ⟨_, rfl, _⟩ := h; rfl) | (obtain ⟨_, _, rfl, _⟩ := h; rfl) | (obtain ⟨_, _, _, rfl, _⟩ := h; rfl) | (obtain ⟨_, _, _, _, rfl, _⟩ := h; rfl) | (obtain ⟨_, _, _, _, _, rfl, _⟩ := h; rfl) | (obtain ⟨_, _, _, _, _, _, rfl, _⟩ := h; rfl) | (obtain ⟨_, _, _, _, _, _, _, rfl, _⟩ := h; rfl) | (obtain ⟨_, _, _, _, _, _, _, _, rfl, _⟩ := h; rfl)
  · replace F : FunD K "is_whole" "is_whole" (defArgs s_is_whole) (defBody s_is_whole) (defScope s_is_whole) [] [] (He.ga K "is_whole") fd := F
    refine ⟨_, (pss_one (ps_ret (pe_and (pe_callB (id := "isinstance") (k_isi K) (by rfl) (T.free 42) (by decide +kernel) (pa_cons (pv 0) (pa_cons (pe_ty (T := "int") (T.free 41) (by decide +kernel)) pa_nil))) (pe_one (pe_not (pe_callB (id := "isinstance") (k_isi K) (by rfl) (T.free 42) (by decide +kernel) (pa_cons (pv 0) (pa_cons (pe_ty (T := "bool") (T.free 40) (by decide +kernel)) pa_nil)))))))), ?_⟩
    obtain ⟨v, rfl, hk, q⟩ := h
    dsimp only [cxOf, L2.start, List.map_cons, List.map_nil, List.length_cons, List.length_nil, Nat.reduceAdd, Nat.reduceSub, List.replicate_succ, List.replicate_zero, List.cons_append, List.nil_append, Nat.zero_add, List.reduceReplicate, List.map]
    refine s_ret ?_ q
    apply ev_is
    · (repeat' (first | with_reducible exact ev_c | ((with_reducible show Ev (tVar _) _ _ _); exact ev_var rfl) | with_reducible exact ea_nil | with_reducible exact eo_none | with_reducible refine' ea_cons ?_ ?_ | with_reducible refine' eo_some ?_ | with_reducible refine' ev_and2 ?_ ?_ | with_reducible refine' ev_or2 ?_ ?_ | with_reducible refine' ev_notV ?_ | with_reducible exact ru_I | with_reducible refine' ev_un ?_ ?_ | with_reducible exact rv_I0 | with_reducible exact rv_isN | with_reducible exact rv_notN | with_reducible refine' rv_I ?_ | with_reducible refine' rv_eq ?_ | with_reducible refine' rv_ne ?_ | with_reducible refine' ev_op ?_ ?_ ?_ | with_reducible refine' ev_chain2 ?_ ?_ ?_ ?_ ?_ | with_reducible refine' et_B ?_ | with_reducible refine' et_test ?_ | with_reducible refine' et_and2 ?_ ?_ | with_reducible refine' et_or2 ?_ ?_ | with_reducible refine' et_not ?_ | with_reducible refine' ev_call ?_ ?_ | with_reducible refine' ev_callS ?_ ?_ | with_reducible refine' ev_cb ?_ ?_ | with_reducible exact isi_bool (by assumption) | with_reducible exact isi_int (by assumption) | with_reducible exact isi_list (by assumption) | with_reducible exact rc_len (by assumption) | with_reducible exact rc_sum (by assumption) | with_reducible exact rc_abs | with_reducible exact isi_listL (by assumption) | with_reducible exact isi_intI | with_reducible exact isi_boolI | with_reducible exact rc_lenT (by assumption) | with_reducible exact isi_tup (by assumption) | with_reducible exact rv_eqL (by assumption) (by assumption) | with_reducible exact rv_neL (by assumption) (by assumption) | with_reducible exact rv_neT (by assumption) (by assumption) | with_reducible exact rv_ixL (by assumption) (by assumption) | with_reducible exact rv_ixT (by assumption) (by assumption) | with_reducible refine' ev_din ?_ ?_ (by assumption) | with_reducible refine' ev_dnotin ?_ ?_ (by assumption) | with_reducible refine' ev_dget ?_ ?_ (by assumption) (by assumption) | ((with_reducible show SpV _ _ _ _); assumption) | ((with_reducible show RV _ _ _ _ _); assumption) | ((with_reducible show RC _ _ _ _); assumption) | ((with_reducible show CDiv _ _); exact ⟨by omega, by omega⟩) | ((with_reducible show CMul _ _); first | exact .inl ⟨by omega, by omega⟩ | exact .inr ⟨by omega, by omega⟩) | ((with_reducible show CPow _ _); exact ⟨by omega, by omega, by first | decide | assumption | omega⟩) | ((with_reducible show (0 : Int) < _); omega) | ((with_reducible show (0 : Int) ≤ _); omega) | ((with_reducible show scal _ _ = true); rfl)))
    · cases v <;> rfl

theorem sc_within : FnScope ["number", "low", "high"] ["number", "low", "high"] (defScope s_within) := ⟨rfl, rfl, rfl, by decide +kernel, rfl, by decide +kernel, by decide +kernel⟩
theorem ok_within {P : Program} {w : World} {K : PySem.W.Frag} {mg : Str → Option Value} {base : Heap} (T : TXT K mg) : OK P w K mg base "within" ["number", "low", "high"] 2 (sp_within) := by
  have O_is_whole := ok_is_whole (P := P) (w := w) (base := base) T
  obtain ⟨fd, F⟩ := T.def_ 2
  refine ⟨_, fd, T.glo 1, F.kp, F.bindsN (fun _ _ _ _ _ _ us hl => match us, hl with | [_, _, _], _ => rfl), F.ok sc_within (fun vs H Q E h => ?_) (fun cdv A outer s H vs Q E hr h => ?_), F.bindsA (fun _ _ _ _ _ _ us hl => match us, hl with | [_, _, _], _ => rfl)⟩
  · first | (obtain ⟨rfl, _⟩ := h; rfl) | (obtain ⟨_, rfl, _⟩ := h; rfl) | (obtain ⟨_, _, rfl, _⟩ := h; rfl) | (obtain ⟨_, _, _, rfl, _⟩ := h; rfl) | (obtain ⟨_, _, _, _, rfl, _⟩ := h; rfl) | (obtain ⟨_, _, _, _, _, rfl, _⟩ := h; rfl) | (obtain ⟨_, _, _, _, _, _, rfl, _⟩ := h; rfl) | (obtain ⟨_, _, _, _, _, _, _, rfl, _⟩ := h; rfl) | (obtain ⟨_, _, _, _, _, _, _, _, rfl, _⟩ := h; rfl)
  · replace F : FunD K "within" "within" (defArgs s_within) (defBody s_within) (defScope s_within) [] [] (He.ga K "within") fd := F
    refine ⟨_, (pss_one (ps_ret (pe_and (pe_own O_is_whole (hr.mono (by decide)) (by rfl) (passes_call (takes_of rfl rfl rfl rfl) (fun _ _ _ _ h => h)) (pa_cons (pv 0) pa_nil)) (pe_one (pe_chain op_le op_le (pv 1) (pv 0) (pv 2)))))), ?_⟩
    obtain ⟨v, lo, hi, rfl, hk, q⟩ := h
    dsimp only [cxOf, L2.start, List.map_cons, List.map_nil, List.length_cons, List.length_nil, Nat.reduceAdd, Nat.reduceSub, List.replicate_succ, List.replicate_zero, List.cons_append, List.nil_append, Nat.zero_add, List.reduceReplicate, List.map]
    have hw := sv_is_whole hk
    refine s_ret ?_ q
    cases v with
    | int i =>
      refine ev_andV (a := true) (b := decide (lo ≤ i) && decide (i ≤ hi)) ?_ (fun _ => ?_)
      · (repeat' (first | with_reducible exact ev_c | ((with_reducible show Ev (tVar _) _ _ _); exact ev_var rfl) | with_reducible exact ea_nil | with_reducible exact eo_none | with_reducible refine' ea_cons ?_ ?_ | with_reducible refine' eo_some ?_ | with_reducible refine' ev_and2 ?_ ?_ | with_reducible refine' ev_or2 ?_ ?_ | with_reducible refine' ev_notV ?_ | with_reducible exact ru_I | with_reducible refine' ev_un ?_ ?_ | with_reducible exact rv_I0 | with_reducible exact rv_isN | with_reducible exact rv_notN | with_reducible refine' rv_I ?_ | with_reducible refine' rv_eq ?_ | with_reducible refine' rv_ne ?_ | with_reducible refine' ev_op ?_ ?_ ?_ | with_reducible refine' ev_chain2 ?_ ?_ ?_ ?_ ?_ | with_reducible refine' et_B ?_ | with_reducible refine' et_test ?_ | with_reducible refine' et_and2 ?_ ?_ | with_reducible refine' et_or2 ?_ ?_ | with_reducible refine' et_not ?_ | with_reducible refine' ev_call ?_ ?_ | with_reducible refine' ev_callS ?_ ?_ | with_reducible refine' ev_cb ?_ ?_ | with_reducible exact isi_bool (by assumption) | with_reducible exact isi_int (by assumption) | with_reducible exact isi_list (by assumption) | with_reducible exact rc_len (by assumption) | with_reducible exact rc_sum (by assumption) | with_reducible exact rc_abs | with_reducible exact isi_listL (by assumption) | with_reducible exact isi_intI | with_reducible exact isi_boolI | with_reducible exact rc_lenT (by assumption) | with_reducible exact isi_tup (by assumption) | with_reducible exact rv_eqL (by assumption) (by assumption) | with_reducible exact rv_neL (by assumption) (by assumption) | with_reducible exact rv_neT (by assumption) (by assumption) | with_reducible exact rv_ixL (by assumption) (by assumption) | with_reducible exact rv_ixT (by assumption) (by assumption) | with_reducible refine' ev_din ?_ ?_ (by assumption) | with_reducible refine' ev_dnotin ?_ ?_ (by assumption) | with_reducible refine' ev_dget ?_ ?_ (by assumption) (by assumption) | ((with_reducible show SpV _ _ _ _); assumption) | ((with_reducible show RV _ _ _ _ _); assumption) | ((with_reducible show RC _ _ _ _); assumption) | ((with_reducible show CDiv _ _); exact ⟨by omega, by omega⟩) | ((with_reducible show CMul _ _); first | exact .inl ⟨by omega, by omega⟩ | exact .inr ⟨by omega, by omega⟩) | ((with_reducible show CPow _ _); exact ⟨by omega, by omega, by first | decide | assumption | omega⟩) | ((with_reducible show (0 : Int) < _); omega) | ((with_reducible show (0 : Int) ≤ _); omega) | ((with_reducible show scal _ _ = true); rfl)))
      · (repeat' (first | with_reducible exact ev_c | ((with_reducible show Ev (tVar _) _ _ _); exact ev_var rfl) | with_reducible exact ea_nil | with_reducible exact eo_none | with_reducible refine' ea_cons ?_ ?_ | with_reducible refine' eo_some ?_ | with_reducible refine' ev_and2 ?_ ?_ | with_reducible refine' ev_or2 ?_ ?_ | with_reducible refine' ev_notV ?_ | with_reducible exact ru_I | with_reducible refine' ev_un ?_ ?_ | with_reducible exact rv_I0 | with_reducible exact rv_isN | with_reducible exact rv_notN | with_reducible refine' rv_I ?_ | with_reducible refine' rv_eq ?_ | with_reducible refine' rv_ne ?_ | with_reducible refine' ev_op ?_ ?_ ?_ | with_reducible refine' ev_chain2 ?_ ?_ ?_ ?_ ?_ | with_reducible refine' et_B ?_ | with_reducible refine' et_test ?_ | with_reducible refine' et_and2 ?_ ?_ | with_reducible refine' et_or2 ?_ ?_ | with_reducible refine' et_not ?_ | with_reducible refine' ev_call ?_ ?_ | with_reducible refine' ev_callS ?_ ?_ | with_reducible refine' ev_cb ?_ ?_ | with_reducible exact isi_bool (by assumption) | with_reducible exact isi_int (by assumption) | with_reducible exact isi_list (by assumption) | with_reducible exact rc_len (by assumption) | with_reducible exact rc_sum (by assumption) | with_reducible exact rc_abs | with_reducible exact isi_listL (by assumption) | with_reducible exact isi_intI | with_reducible exact isi_boolI | with_reducible exact rc_lenT (by assumption) | with_reducible exact isi_tup (by assumption) | with_reducible exact rv_eqL (by assumption) (by assumption) | with_reducible exact rv_neL (by assumption) (by assumption) | with_reducible exact rv_neT (by assumption) (by assumption) | with_reducible exact rv_ixL (by assumption) (by assumption) | with_reducible exact rv_ixT (by assumption) (by assumption) | with_reducible refine' ev_din ?_ ?_ (by assumption) | with_reducible refine' ev_dnotin ?_ ?_ (by assumption) | with_reducible refine' ev_dget ?_ ?_ (by assumption) (by assumption) | ((with_reducible show SpV _ _ _ _); assumption) | ((with_reducible show RV _ _ _ _ _); assumption) | ((with_reducible show RC _ _ _ _); assumption) | ((with_reducible show CDiv _ _); exact ⟨by omega, by omega⟩) | ((with_reducible show CMul _ _); first | exact .inl ⟨by omega, by omega⟩ | exact .inr ⟨by omega, by omega⟩) | ((with_reducible show CPow _ _); exact ⟨by omega, by omega, by first | decide | assumption | omega⟩) | ((with_reducible show (0 : Int) < _); omega) | ((with_reducible show (0 : Int) ≤ _); omega) | ((with_reducible show scal _ _ = true); rfl)))
    | _ =>
      refine ev_andV (a := false) (b := false) ?_ (fun h => nomatch h)
      (repeat' (first | with_reducible exact ev_c | ((with_reducible show Ev (tVar _) _ _ _); exact ev_var rfl) | with_reducible exact ea_nil | with_reducible exact eo_none | with_reducible refine' ea_cons ?_ ?_ | with_reducible refine' eo_some ?_ | with_reducible refine' ev_and2 ?_ ?_ | with_reducible refine' ev_or2 ?_ ?_ | with_reducible refine' ev_notV ?_ | with_reducible exact ru_I | with_reducible refine' ev_un ?_ ?_ | with_reducible exact rv_I0 | with_reducible exact rv_isN | with_reducible exact rv_notN | with_reducible refine' rv_I ?_ | with_reducible refine' rv_eq ?_ | with_reducible refine' rv_ne ?_ | with_reducible refine' ev_op ?_ ?_ ?_ | with_reducible refine' ev_chain2 ?_ ?_ ?_ ?_ ?_ | with_reducible refine' et_B ?_ | with_reducible refine' et_test ?_ | with_reducible refine' et_and2 ?_ ?_ | with_reducible refine' et_or2 ?_ ?_ | with_reducible refine' et_not ?_ | with_reducible refine' ev_call ?_ ?_ | with_reducible refine' ev_callS ?_ ?_ | with_reducible refine' ev_cb ?_ ?_ | with_reducible exact isi_bool (by assumption) | with_reducible exact isi_int (by assumption) | with_reducible exact isi_list (by assumption) | with_reducible exact rc_len (by assumption) | with_reducible exact rc_sum (by assumption) | with_reducible exact rc_abs | with_reducible exact isi_listL (by assumption) | with_reducible exact isi_intI | with_reducible exact isi_boolI | with_reducible exact rc_lenT (by assumption) | with_reducible exact isi_tup (by assumption) | with_reducible exact rv_eqL (by assumption) (by assumption) | with_reducible exact rv_neL (by assumption) (by assumption) | with_reducible exact rv_neT (by assumption) (by assumption) | with_reducible exact rv_ixL (by assumption) (by assumption) | with_reducible exact rv_ixT (by assumption) (by assumption) | with_reducible refine' ev_din ?_ ?_ (by assumption) | with_reducible refine' ev_dnotin ?_ ?_ (by assumption) | with_reducible refine' ev_dget ?_ ?_ (by assumption) (by assumption) | ((with_reducible show SpV _ _ _ _); assumption) | ((with_reducible show RV _ _ _ _ _); assumption) | ((with_reducible show RC _ _ _ _); assumption) | ((with_reducible show CDiv _ _); exact ⟨by omega, by omega⟩) | ((with_reducible show CMul _ _); first | exact .inl ⟨by omega, by omega⟩ | exact .inr ⟨by omega, by omega⟩) | ((with_reducible show CPow _ _); exact ⟨by omega, by omega, by first | decide | assumption | omega⟩) | ((with_reducible show (0 : Int) < _); omega) | ((with_reducible show (0 : Int) ≤ _); omega) | ((with_reducible show scal _ _ = true); rfl)))

/-- a row as it is handed in: what kind of thing, what it holds -/
structure Row (H : Hp) (v : V) (o : Option (List V)) : Prop where
  ls : Ls H v o
  kd : ∀ xs, o = some xs → ∀ x ∈ xs, Kd H x
theorem Row.mono {H H' : Hp} {v : V} {o : Option (List V)} (e : Ex H H') (h : Row H v o) : Row H' v o := ⟨h.ls.mono e, fun xs q x hx => (h.kd xs q x hx).mono e⟩
def rowOk (o : Option (List V)) : Bool := match o with
  | some xs => decide (1 ≤ xs.length) && decide (xs.length ≤ 60) && xs.all fun x => inB x (-1000000) 1000000
  | none => false
def RowI (ns : List Int) : Prop := 1 ≤ ns.length ∧ ns.length ≤ 60 ∧ ∀ n ∈ ns, -1000000 ≤ n ∧ n ≤ 1000000
theorem ints_of : ∀ {xs : List V} {lo hi : Int}, (xs.all fun x => inB x lo hi) = true → ∃ ns : List Int, xs = ns.map V.int ∧ ∀ n ∈ ns, lo ≤ n ∧ n ≤ hi
  | [], _, _, _ => ⟨[], rfl, fun _ h => nomatch h⟩
  | x :: r, lo, hi, h => by
    simp only [List.all_cons, Bool.and_eq_true] at h
    obtain ⟨h1, h2⟩ := h
    obtain ⟨ns, rfl, hn⟩ := ints_of h2
    cases x with
    | int i =>
      simp only [inB, Bool.and_eq_true, decide_eq_true_eq] at h1
      refine ⟨i :: ns, rfl, fun n hm => ?_⟩
      rcases List.mem_cons.mp hm with rfl | hm
      · exact h1
      · exact hn n hm
    | _ => cases h1
theorem row_ints {o : Option (List V)} (h : rowOk o = true) : ∃ ns : List Int, o = some (ns.map V.int) ∧ RowI ns := by
  cases o with
  | none => cases h
  | some xs =>
    simp only [rowOk, Bool.and_eq_true, decide_eq_true_eq] at h
    obtain ⟨⟨h1, h2⟩, h3⟩ := h
    obtain ⟨ns, rfl, hn⟩ := ints_of h3
    rw [List.length_map] at h1 h2
    exact ⟨ns, rfl, h1, h2, hn⟩
theorem rowOk_of {ns : List Int} (h : RowI ns) : rowOk (some (ns.map V.int)) = true := by
  obtain ⟨h1, h2, h3⟩ := h
  simp only [rowOk, Bool.and_eq_true, decide_eq_true_eq, List.length_map]
  refine ⟨⟨h1, h2⟩, ?_⟩
  rw [List.all_eq_true]
  intro x hx
  obtain ⟨n, hn, rfl⟩ := List.mem_map.mp hx
  simp only [inB, Bool.and_eq_true, decide_eq_true_eq]
  exact h3 n hn
theorem Row.of {H : Hp} {a : Addr} {ns : List Int} (h : H a = some (.lst (ns.map V.int))) : Row H (.ref a) (some (ns.map V.int)) := ⟨.lst h, fun xs q x hx => by
  cases q
  obtain ⟨n, _, rfl⟩ := List.mem_map.mp hx
  exact .int n⟩
def sp_check_number (K : PySem.W.Frag) : Sp := fun vs H Q E => ∃ v, vs = [v] ∧ Kd H v ∧ Give K (if inB v (-1000000) 1000000 then .val .non else .err "OutOfBounds") H Q E
def sp_check_row (K : PySem.W.Frag) : Sp := fun vs H Q E => ∃ v o, vs = [v] ∧ Row H v o ∧ Give K (if rowOk o then .val .non else .err "NotARow") H Q E
theorem sc_check_number : FnScope ["number"] ["number"] (defScope s_check_number) := ⟨rfl, rfl, rfl, by decide +kernel, rfl, by decide +kernel, by decide +kernel⟩
theorem ok_check_number {P : Program} {w : World} {K : PySem.W.Frag} {mg : Str → Option Value} {base : Heap} (T : TXT K mg) : OK P w K mg base "check_number" ["number"] 3 (sp_check_number K) := by
  have O_within := ok_within (P := P) (w := w) (base := base) T
  obtain ⟨fd, F⟩ := T.def_ 3
  refine ⟨_, fd, T.glo 2, F.kp, F.bindsN (fun _ _ _ _ _ _ us hl => match us, hl with | [_], _ => rfl), F.ok sc_check_number (fun vs H Q E h => ?_) (fun cdv A outer s H vs Q E hr h => ?_), F.bindsA (fun _ _ _ _ _ _ us hl => match us, hl with | [_], _ => rfl)⟩
  · first | (obtain ⟨rfl, _⟩ := h; rfl) | (obtain ⟨_, rfl, _⟩ := h; rfl) | (obtain ⟨_, _, rfl, _⟩ := h; rfl) | (obtain ⟨_, _, _, rfl, _⟩ := h; rfl) | (obtain ⟨_, _, _, _, rfl, _⟩ := h; rfl) | (obtain ⟨_, _, _, _, _, rfl, _⟩ := h; rfl) | (obtain ⟨_, _, _, _, _, _, rfl, _⟩ := h; rfl) | (obtain ⟨_, _, _, _, _, _, _, rfl, _⟩ := h; rfl) | (obtain ⟨_, _, _, _, _, _, _, _, rfl, _⟩ := h; rfl)
  · replace F : FunD K "check_number" "check_number" (defArgs s_check_number) (defBody s_check_number) (defScope s_check_number) [] [] (He.ga K "check_number") fd := F
    refine ⟨_, (pss_one (ps_if (pt_not (pt_val (pe_own O_within (hr.mono (by decide)) (by rfl) (passes_call (takes_of rfl rfl rfl rfl) (fun _ _ _ _ h => h)) (pa_cons (pv 0) (pa_cons (pe_un un_neg (pe_gi (T.int 47))) (pa_cons (pe_gi (T.int 47)) pa_nil))))))
        (pss_one (ps_raise rfl (takes_of rfl rfl rfl rfl) (pmk_ex (T.fact 51) (T.glo 29))))
        pss_nil)), ?_⟩
    obtain ⟨v, rfl, hk, q⟩ := h
    dsimp only [cxOf, L2.start, List.map_cons, List.map_nil, List.length_cons, List.length_nil, Nat.reduceAdd, Nat.reduceSub, List.replicate_succ, List.replicate_zero, List.cons_append, List.nil_append, Nat.zero_add, List.reduceReplicate, List.map]
    have hw := sv_within (lo := -1000000) (hi := 1000000) hk
    refine s_when (b := !inB v (-1000000) 1000000) ?_ (fun hb H1 e => ?_) (fun hb H1 e => ?_)
    · (repeat' (first | with_reducible exact ev_c | ((with_reducible show Ev (tVar _) _ _ _); exact ev_var rfl) | with_reducible exact ea_nil | with_reducible exact eo_none | with_reducible refine' ea_cons ?_ ?_ | with_reducible refine' eo_some ?_ | with_reducible refine' ev_and2 ?_ ?_ | with_reducible refine' ev_or2 ?_ ?_ | with_reducible refine' ev_notV ?_ | with_reducible exact ru_I | with_reducible refine' ev_un ?_ ?_ | with_reducible exact rv_I0 | with_reducible exact rv_isN | with_reducible exact rv_notN | with_reducible refine' rv_I ?_ | with_reducible refine' rv_eq ?_ | with_reducible refine' rv_ne ?_ | with_reducible refine' ev_op ?_ ?_ ?_ | with_reducible refine' ev_chain2 ?_ ?_ ?_ ?_ ?_ | with_reducible refine' et_B ?_ | with_reducible refine' et_test ?_ | with_reducible refine' et_and2 ?_ ?_ | with_reducible refine' et_or2 ?_ ?_ | with_reducible refine' et_not ?_ | with_reducible refine' ev_call ?_ ?_ | with_reducible refine' ev_callS ?_ ?_ | with_reducible refine' ev_cb ?_ ?_ | with_reducible exact isi_bool (by assumption) | with_reducible exact isi_int (by assumption) | with_reducible exact isi_list (by assumption) | with_reducible exact rc_len (by assumption) | with_reducible exact rc_sum (by assumption) | with_reducible exact rc_abs | with_reducible exact isi_listL (by assumption) | with_reducible exact isi_intI | with_reducible exact isi_boolI | with_reducible exact rc_lenT (by assumption) | with_reducible exact isi_tup (by assumption) | with_reducible exact rv_eqL (by assumption) (by assumption) | with_reducible exact rv_neL (by assumption) (by assumption) | with_reducible exact rv_neT (by assumption) (by assumption) | with_reducible exact rv_ixL (by assumption) (by assumption) | with_reducible exact rv_ixT (by assumption) (by assumption) | with_reducible refine' ev_din ?_ ?_ (by assumption) | with_reducible refine' ev_dnotin ?_ ?_ (by assumption) | with_reducible refine' ev_dget ?_ ?_ (by assumption) (by assumption) | ((with_reducible show SpV _ _ _ _); assumption) | ((with_reducible show RV _ _ _ _ _); assumption) | ((with_reducible show RC _ _ _ _); assumption) | ((with_reducible show CDiv _ _); exact ⟨by omega, by omega⟩) | ((with_reducible show CMul _ _); first | exact .inl ⟨by omega, by omega⟩ | exact .inr ⟨by omega, by omega⟩) | ((with_reducible show CPow _ _); exact ⟨by omega, by omega, by first | decide | assumption | omega⟩) | ((with_reducible show (0 : Int) < _); omega) | ((with_reducible show (0 : Int) ≤ _); omega) | ((with_reducible show scal _ _ = true); rfl)))
    · rw [Bool.not_eq_true'] at hb
      rw [hb] at q
      exact q H1 e
    · rw [Bool.not_eq_false'] at hb
      rw [hb] at q
      exact q H1 e

theorem sc_check_row : FnScope ["row", "one"] ["row"] (defScope s_check_row) := ⟨rfl, rfl, rfl, by decide +kernel, rfl, by decide +kernel, by decide +kernel⟩
theorem ok_check_row {P : Program} {w : World} {K : PySem.W.Frag} {mg : Str → Option Value} {base : Heap} (T : TXT K mg) : OK P w K mg base "check_row" ["row"] 3 (sp_check_row K) := by
  have O_within := ok_within (P := P) (w := w) (base := base) T
  obtain ⟨fd, F⟩ := T.def_ 4
  refine ⟨_, fd, T.glo 3, F.kp, F.bindsN (fun _ _ _ _ _ _ us hl => match us, hl with | [_], _ => rfl), F.ok sc_check_row (fun vs H Q E h => ?_) (fun cdv A outer s H vs Q E hr h => ?_), F.bindsA (fun _ _ _ _ _ _ us hl => match us, hl with | [_], _ => rfl)⟩
  · first | (obtain ⟨rfl, _⟩ := h; rfl) | (obtain ⟨_, rfl, _⟩ := h; rfl) | (obtain ⟨_, _, rfl, _⟩ := h; rfl) | (obtain ⟨_, _, _, rfl, _⟩ := h; rfl) | (obtain ⟨_, _, _, _, rfl, _⟩ := h; rfl) | (obtain ⟨_, _, _, _, _, rfl, _⟩ := h; rfl) | (obtain ⟨_, _, _, _, _, _, rfl, _⟩ := h; rfl) | (obtain ⟨_, _, _, _, _, _, _, rfl, _⟩ := h; rfl) | (obtain ⟨_, _, _, _, _, _, _, _, rfl, _⟩ := h; rfl)
  · replace F : FunD K "check_row" "check_row" (defArgs s_check_row) (defBody s_check_row) (defScope s_check_row) [] [] (He.ga K "check_row") fd := F
    refine ⟨_, (pss_cons (ps_if (PW.pt (pw_or (pt_not (pt_val (pe_callB (id := "isinstance") (k_isi K) (by rfl) (T.free 42) (by decide +kernel) (pa_cons (pv 0) (pa_cons (pe_ty (T := "list") (T.free 44) (by decide +kernel)) pa_nil))))) (pw_or1 (pt_not (pt_chain op_le op_le pe_int (pe_callB (id := "len") (k_len K) (by rfl) (T.free 43) (by decide +kernel) (pa_cons (pv 0) pa_nil)) (pe_gi (T.int 48)))))))
        (pss_one (ps_raise rfl (takes_of rfl rfl rfl rfl) (pmk_ex (T.fact 50) (T.glo 28))))
        pss_nil)
      (pss_one (ps_if (pt_not (pt_val (pe_callB (id := "all") (k_all K rfl) (by rfl) (T.free 39) (by decide +kernel) (pa_cons (pe_lc (own := [("one", 1)]) (g := gName 1) (tt := tYes) rfl sc_check_row.nd (k_piL K (pv 0)) (blkOk_by (N := ["row", "one"]) (sc := defScope s_check_row) (by decide +kernel)) (fun _ _ _ _ _ => pg_name (i := 1) sc_check_row.nd rfl (Or.inl rfl)) (fun _ _ _ _ _ => pts_nil) (fun _ _ _ _ _ => (pe_own O_within (hr.mono (by decide)) (by rfl) passL (pa_cons (pv 1) (pa_cons (pe_un un_neg (pe_gi (T.int 47))) (pa_cons (pe_gi (T.int 47)) pa_nil)))))) pa_nil))))
        (pss_one (ps_raise rfl (takes_of rfl rfl rfl rfl) (pmk_ex (T.fact 50) (T.glo 28))))
        pss_nil))), ?_⟩
    obtain ⟨v, o, rfl, hk, q⟩ := h
    dsimp only [cxOf, L2.start, List.map_cons, List.map_nil, List.length_cons, List.length_nil, Nat.reduceAdd, Nat.reduceSub, List.replicate_succ, List.replicate_zero, List.cons_append, List.nil_append, Nat.zero_add, List.reduceReplicate, List.map]
    cases o with
    | none =>
      have hl := hk.ls
      refine q_when (b := true) ?_ (fun hb H1 e => q H1 e) (fun hb => nomatch hb)
      refine et_or (a := true) (b := false) ?_ fun h => nomatch h
      apply et_is
      · (repeat' (first | with_reducible exact ev_c | ((with_reducible show Ev (tVar _) _ _ _); exact ev_var rfl) | with_reducible exact ea_nil | with_reducible exact eo_none | with_reducible refine' ea_cons ?_ ?_ | with_reducible refine' eo_some ?_ | with_reducible refine' ev_and2 ?_ ?_ | with_reducible refine' ev_or2 ?_ ?_ | with_reducible refine' ev_notV ?_ | with_reducible exact ru_I | with_reducible refine' ev_un ?_ ?_ | with_reducible exact rv_I0 | with_reducible exact rv_isN | with_reducible exact rv_notN | with_reducible refine' rv_I ?_ | with_reducible refine' rv_eq ?_ | with_reducible refine' rv_ne ?_ | with_reducible refine' ev_op ?_ ?_ ?_ | with_reducible refine' ev_chain2 ?_ ?_ ?_ ?_ ?_ | with_reducible refine' et_B ?_ | with_reducible refine' et_test ?_ | with_reducible refine' et_and2 ?_ ?_ | with_reducible refine' et_or2 ?_ ?_ | with_reducible refine' et_not ?_ | with_reducible refine' ev_call ?_ ?_ | with_reducible refine' ev_callS ?_ ?_ | with_reducible refine' ev_cb ?_ ?_ | with_reducible exact isi_bool (by assumption) | with_reducible exact isi_int (by assumption) | with_reducible exact isi_list (by assumption) | with_reducible exact rc_len (by assumption) | with_reducible exact rc_sum (by assumption) | with_reducible exact rc_abs | with_reducible exact isi_listL (by assumption) | with_reducible exact isi_intI | with_reducible exact isi_boolI | with_reducible exact rc_lenT (by assumption) | with_reducible exact isi_tup (by assumption) | with_reducible exact rv_eqL (by assumption) (by assumption) | with_reducible exact rv_neL (by assumption) (by assumption) | with_reducible exact rv_neT (by assumption) (by assumption) | with_reducible exact rv_ixL (by assumption) (by assumption) | with_reducible exact rv_ixT (by assumption) (by assumption) | with_reducible refine' ev_din ?_ ?_ (by assumption) | with_reducible refine' ev_dnotin ?_ ?_ (by assumption) | with_reducible refine' ev_dget ?_ ?_ (by assumption) (by assumption) | ((with_reducible show SpV _ _ _ _); assumption) | ((with_reducible show RV _ _ _ _ _); assumption) | ((with_reducible show RC _ _ _ _); assumption) | ((with_reducible show CDiv _ _); exact ⟨by omega, by omega⟩) | ((with_reducible show CMul _ _); first | exact .inl ⟨by omega, by omega⟩ | exact .inr ⟨by omega, by omega⟩) | ((with_reducible show CPow _ _); exact ⟨by omega, by omega, by first | decide | assumption | omega⟩) | ((with_reducible show (0 : Int) < _); omega) | ((with_reducible show (0 : Int) ≤ _); omega) | ((with_reducible show scal _ _ = true); rfl)))
      · rfl
    | some xs =>
      have hl := hk.ls
      obtain ⟨a, rfl, ha⟩ : ∃ a, v = .ref a ∧ H a = some (.lst xs) := by
        cases hl with
        | lst h => exact ⟨_, rfl, h⟩
      have hs : SqL K H a xs := sq_of ha
      refine q_when (b := !(decide (1 ≤ xs.length) && decide (xs.length ≤ 60))) ?_ (fun hb H1 e => ?_) (fun hb H1 e => ?_)
      · apply et_is
        · (repeat' (first | with_reducible exact ev_c | ((with_reducible show Ev (tVar _) _ _ _); exact ev_var rfl) | with_reducible exact ea_nil | with_reducible exact eo_none | with_reducible refine' ea_cons ?_ ?_ | with_reducible refine' eo_some ?_ | with_reducible refine' ev_and2 ?_ ?_ | with_reducible refine' ev_or2 ?_ ?_ | with_reducible refine' ev_notV ?_ | with_reducible exact ru_I | with_reducible refine' ev_un ?_ ?_ | with_reducible exact rv_I0 | with_reducible exact rv_isN | with_reducible exact rv_notN | with_reducible refine' rv_I ?_ | with_reducible refine' rv_eq ?_ | with_reducible refine' rv_ne ?_ | with_reducible refine' ev_op ?_ ?_ ?_ | with_reducible refine' ev_chain2 ?_ ?_ ?_ ?_ ?_ | with_reducible refine' et_B ?_ | with_reducible refine' et_test ?_ | with_reducible refine' et_and2 ?_ ?_ | with_reducible refine' et_or2 ?_ ?_ | with_reducible refine' et_not ?_ | with_reducible refine' ev_call ?_ ?_ | with_reducible refine' ev_callS ?_ ?_ | with_reducible refine' ev_cb ?_ ?_ | with_reducible exact isi_bool (by assumption) | with_reducible exact isi_int (by assumption) | with_reducible exact isi_list (by assumption) | with_reducible exact rc_len (by assumption) | with_reducible exact rc_sum (by assumption) | with_reducible exact rc_abs | with_reducible exact isi_listL (by assumption) | with_reducible exact isi_intI | with_reducible exact isi_boolI | with_reducible exact rc_lenT (by assumption) | with_reducible exact isi_tup (by assumption) | with_reducible exact rv_eqL (by assumption) (by assumption) | with_reducible exact rv_neL (by assumption) (by assumption) | with_reducible exact rv_neT (by assumption) (by assumption) | with_reducible exact rv_ixL (by assumption) (by assumption) | with_reducible exact rv_ixT (by assumption) (by assumption) | with_reducible refine' ev_din ?_ ?_ (by assumption) | with_reducible refine' ev_dnotin ?_ ?_ (by assumption) | with_reducible refine' ev_dget ?_ ?_ (by assumption) (by assumption) | ((with_reducible show SpV _ _ _ _); assumption) | ((with_reducible show RV _ _ _ _ _); assumption) | ((with_reducible show RC _ _ _ _); assumption) | ((with_reducible show CDiv _ _); exact ⟨by omega, by omega⟩) | ((with_reducible show CMul _ _); first | exact .inl ⟨by omega, by omega⟩ | exact .inr ⟨by omega, by omega⟩) | ((with_reducible show CPow _ _); exact ⟨by omega, by omega, by first | decide | assumption | omega⟩) | ((with_reducible show (0 : Int) < _); omega) | ((with_reducible show (0 : Int) ≤ _); omega) | ((with_reducible show scal _ _ = true); rfl)))
        · show (!true || !(decide ((1 : Int) ≤ (xs.length : Int)) && decide ((xs.length : Int) ≤ 60))) = _
          rw [decide_eq_decide.mpr (show (1 : Int) ≤ (xs.length : Int) ↔ 1 ≤ xs.length by omega), decide_eq_decide.mpr (show (xs.length : Int) ≤ 60 ↔ xs.length ≤ 60 by omega)]
          rfl
      · have h0 : rowOk (some xs) = false := by
          simp only [rowOk]
          rw [Bool.not_eq_true'] at hb
          rw [hb]
          rfl
        rw [h0] at q
        exact q H1 e
      · rw [Bool.not_eq_false'] at hb
        have hlen : xs.length ≤ 60 := by
          simp at hb
          omega
        have h0 : rowOk (some xs) = xs.all fun x => inB x (-1000000) 1000000 := by
          simp only [rowOk, hb, Bool.true_and]
        rw [h0] at q
        have em : EvL (tLc (iList K (tVar 0)) (gName 1) tYes (tCall sp_within [] E0 (tCons (tVar 1) (tCons (tUn (rU fun i => .int (-i)) (tC (.int 1000000))) (tCons (tC (.int 1000000)) tNil)))) [1]) [some (V.ref a), none] H1 ((xs.map fun x => inB x (-1000000) 1000000).map V.bl) := by
          rw [List.map_map]
          refine el_map _ (by (repeat' (first | with_reducible exact ev_c | ((with_reducible show Ev (tVar _) _ _ _); exact ev_var rfl) | with_reducible exact ea_nil | with_reducible exact eo_none | with_reducible refine' ea_cons ?_ ?_ | with_reducible refine' eo_some ?_ | with_reducible refine' ev_and2 ?_ ?_ | with_reducible refine' ev_or2 ?_ ?_ | with_reducible refine' ev_notV ?_ | with_reducible exact ru_I | with_reducible refine' ev_un ?_ ?_ | with_reducible exact rv_I0 | with_reducible exact rv_isN | with_reducible exact rv_notN | with_reducible refine' rv_I ?_ | with_reducible refine' rv_eq ?_ | with_reducible refine' rv_ne ?_ | with_reducible refine' ev_op ?_ ?_ ?_ | with_reducible refine' ev_chain2 ?_ ?_ ?_ ?_ ?_ | with_reducible refine' et_B ?_ | with_reducible refine' et_test ?_ | with_reducible refine' et_and2 ?_ ?_ | with_reducible refine' et_or2 ?_ ?_ | with_reducible refine' et_not ?_ | with_reducible refine' ev_call ?_ ?_ | with_reducible refine' ev_callS ?_ ?_ | with_reducible refine' ev_cb ?_ ?_ | with_reducible exact isi_bool (by assumption) | with_reducible exact isi_int (by assumption) | with_reducible exact isi_list (by assumption) | with_reducible exact rc_len (by assumption) | with_reducible exact rc_sum (by assumption) | with_reducible exact rc_abs | with_reducible exact isi_listL (by assumption) | with_reducible exact isi_intI | with_reducible exact isi_boolI | with_reducible exact rc_lenT (by assumption) | with_reducible exact isi_tup (by assumption) | with_reducible exact rv_eqL (by assumption) (by assumption) | with_reducible exact rv_neL (by assumption) (by assumption) | with_reducible exact rv_neT (by assumption) (by assumption) | with_reducible exact rv_ixL (by assumption) (by assumption) | with_reducible exact rv_ixT (by assumption) (by assumption) | with_reducible refine' ev_din ?_ ?_ (by assumption) | with_reducible refine' ev_dnotin ?_ ?_ (by assumption) | with_reducible refine' ev_dget ?_ ?_ (by assumption) (by assumption) | ((with_reducible show SpV _ _ _ _); assumption) | ((with_reducible show RV _ _ _ _ _); assumption) | ((with_reducible show RC _ _ _ _); assumption) | ((with_reducible show CDiv _ _); exact ⟨by omega, by omega⟩) | ((with_reducible show CMul _ _); first | exact .inl ⟨by omega, by omega⟩ | exact .inr ⟨by omega, by omega⟩) | ((with_reducible show CPow _ _); exact ⟨by omega, by omega, by first | decide | assumption | omega⟩) | ((with_reducible show (0 : Int) < _); omega) | ((with_reducible show (0 : Int) ≤ _); omega) | ((with_reducible show scal _ _ = true); rfl)))) (ex_l e hs) (by omega) (fun _ => rfl) (fun x H2 e2 hx => ?_)
          have hw := sv_within (lo := -1000000) (hi := 1000000) ((hk.kd xs rfl x hx).mono (e.trans e2))
          (repeat' (first | with_reducible exact ev_c | ((with_reducible show Ev (tVar _) _ _ _); exact ev_var rfl) | with_reducible exact ea_nil | with_reducible exact eo_none | with_reducible refine' ea_cons ?_ ?_ | with_reducible refine' eo_some ?_ | with_reducible refine' ev_and2 ?_ ?_ | with_reducible refine' ev_or2 ?_ ?_ | with_reducible refine' ev_notV ?_ | with_reducible exact ru_I | with_reducible refine' ev_un ?_ ?_ | with_reducible exact rv_I0 | with_reducible exact rv_isN | with_reducible exact rv_notN | with_reducible refine' rv_I ?_ | with_reducible refine' rv_eq ?_ | with_reducible refine' rv_ne ?_ | with_reducible refine' ev_op ?_ ?_ ?_ | with_reducible refine' ev_chain2 ?_ ?_ ?_ ?_ ?_ | with_reducible refine' et_B ?_ | with_reducible refine' et_test ?_ | with_reducible refine' et_and2 ?_ ?_ | with_reducible refine' et_or2 ?_ ?_ | with_reducible refine' et_not ?_ | with_reducible refine' ev_call ?_ ?_ | with_reducible refine' ev_callS ?_ ?_ | with_reducible refine' ev_cb ?_ ?_ | with_reducible exact isi_bool (by assumption) | with_reducible exact isi_int (by assumption) | with_reducible exact isi_list (by assumption) | with_reducible exact rc_len (by assumption) | with_reducible exact rc_sum (by assumption) | with_reducible exact rc_abs | with_reducible exact isi_listL (by assumption) | with_reducible exact isi_intI | with_reducible exact isi_boolI | with_reducible exact rc_lenT (by assumption) | with_reducible exact isi_tup (by assumption) | with_reducible exact rv_eqL (by assumption) (by assumption) | with_reducible exact rv_neL (by assumption) (by assumption) | with_reducible exact rv_neT (by assumption) (by assumption) | with_reducible exact rv_ixL (by assumption) (by assumption) | with_reducible exact rv_ixT (by assumption) (by assumption) | with_reducible refine' ev_din ?_ ?_ (by assumption) | with_reducible refine' ev_dnotin ?_ ?_ (by assumption) | with_reducible refine' ev_dget ?_ ?_ (by assumption) (by assumption) | ((with_reducible show SpV _ _ _ _); assumption) | ((with_reducible show RV _ _ _ _ _); assumption) | ((with_reducible show RC _ _ _ _); assumption) | ((with_reducible show CDiv _ _); exact ⟨by omega, by omega⟩) | ((with_reducible show CMul _ _); first | exact .inl ⟨by omega, by omega⟩ | exact .inr ⟨by omega, by omega⟩) | ((with_reducible show CPow _ _); exact ⟨by omega, by omega, by first | decide | assumption | omega⟩) | ((with_reducible show (0 : Int) < _); omega) | ((with_reducible show (0 : Int) ≤ _); omega) | ((with_reducible show scal _ _ = true); rfl)))
        refine s_when (b := !(xs.all fun x => inB x (-1000000) 1000000)) ?_ (fun hb H2 e2 => ?_) (fun hb H2 e2 => ?_)
        · refine et_not (et_B ?_)
          have z := ev_all (K := K) em
          have z2 : ((xs.map fun x => inB x (-1000000) 1000000).all id) = xs.all fun x => inB x (-1000000) 1000000 := by
            rw [List.all_map]
            rfl
          rw [z2] at z
          exact z
        · rw [Bool.not_eq_true'] at hb
          rw [hb] at q
          exact q H2 (e.trans e2)
        · rw [Bool.not_eq_false'] at hb
          rw [hb] at q
          exact q H2 (e.trans e2)


/-! the first two beats that land together -/
def land (ns : List Int) (j : Nat) : Int := ((j : Int) + ns.getD j 0) % (ns.length : Int)
def seenAt (ns : List Int) (j : Nat) : Option Nat := (List.range j).find? fun i => decide (land ns i = land ns j)
def clashOf (ns : List Int) : Option (Nat × Nat) := (List.range ns.length).findSome? fun j => (seenAt ns j).map fun i => (i, j)
def kvAt (ns : List Int) (j : Nat) : List (Key × V) := (List.range j).map fun i => (Sum.inl (land ns i), V.int (i : Int))
theorem kvAt_val (ns : List Int) (j k : Nat) : valV (kvAt ns j) (Sum.inl (land ns k) : Key) = ((List.range j).find? fun i => decide (land ns i = land ns k)).map fun i => V.int (i : Int) := by
  unfold valV kvAt
  rw [List.find?_map]
  have e : ((fun kv : Key × V => decide (kv.1 = Sum.inl (land ns k))) ∘ fun i => ((Sum.inl (land ns i) : Key), V.int (i : Int))) = fun i => decide (land ns i = land ns k) := by
    funext i
    show decide ((Sum.inl (land ns i) : Key) = Sum.inl (land ns k)) = _
    rw [decide_eq_decide]
    exact ⟨fun z => Sum.inl.inj z, fun z => by rw [z]⟩
  rw [e]
  cases (List.range j).find? fun i => decide (land ns i = land ns k) <;> rfl
theorem kvAt_len (ns : List Int) (j : Nat) : (kvAt ns j).length = j := by simp [kvAt]
theorem kvAt_put {ns : List Int} {j : Nat} (h : seenAt ns j = none) : putK (kvAt ns j) (Sum.inl (land ns j) : Key) (V.int (j : Int)) = kvAt ns (j + 1) := by
  rw [putK_new]
  · unfold kvAt
    rw [List.range_succ, List.map_append]
    rfl
  · rw [kvAt_val]
    unfold seenAt at h
    rw [h]
    rfl
theorem findSome_at {α : Type} {f : Nat → Option α} {n j : Nat} {x : α} (hj : j < n) (h : ∀ i, i < j → f i = none) (hx : f j = some x) : (List.range n).findSome? f = some x := by
  induction n with
  | zero => omega
  | succ n ih =>
    rw [List.range_succ, List.findSome?_append]
    by_cases e : j < n
    · rw [ih e]
      rfl
    · have e2 : j = n := by omega
      subst e2
      have h0 : (List.range j).findSome? f = none := by
        rw [List.findSome?_eq_none_iff]
        intro i hi
        exact h i (List.mem_range.mp hi)
      rw [h0]
      simp [hx]
theorem findSome_none {α : Type} {f : Nat → Option α} {n : Nat} (h : ∀ i, i < n → f i = none) : (List.range n).findSome? f = none := by
  rw [List.findSome?_eq_none_iff]
  intro i hi
  exact h i (List.mem_range.mp hi)
def clashRe (ns : List Int) : Re := match clashOf ns with
  | some (i, j) => .tup [.int (i : Int), .int (j : Int)]
  | none => .val .non
def rowsOf (o : Option (List V)) : List Int := (o.getD []).map fun v => match v with
  | .int i => i
  | _ => 0
theorem rowsOf_some (ns : List Int) : rowsOf (some (ns.map V.int)) = ns := by
  simp only [rowsOf, Option.getD, List.map_map]
  have e : ((fun v : V => match v with | .int i => i | _ => 0) ∘ V.int) = id := by
    funext i
    rfl
  rw [e, List.map_id]
def sp_clash_of (K : PySem.W.Frag) : Sp := fun vs H Q E => ∃ v o, vs = [v] ∧ Row H v o ∧ Give K (if rowOk o then clashRe (rowsOf o) else .err "NotARow") H Q E
theorem sv_check_row {K : PySem.W.Frag} {H : Hp} {v : V} {o : Option (List V)} (hk : Row H v o) (h : rowOk o = true) : SpV (sp_check_row K) [v] H .non := spv_of fun H1 e Q E k => ⟨v, o, rfl, hk.mono e, by
  rw [h]
  exact k⟩
theorem sx_check_row {K : PySem.W.Frag} {H : Hp} {v : V} {o : Option (List V)} {E : XK} (hk : Row H v o) (h : rowOk o = false) (he : ∀ H2, Ex H H2 → E (.ref (He.ga K "NotARow")) none H2) : ∀ H1, Ex H H1 → ∀ Q : VK, sp_check_row K [v] H1 Q E := fun H1 e Q => ⟨v, o, rfl, hk.mono e, by
  rw [h]
  exact fun H2 e2 => he H2 (e.trans e2)⟩
theorem sc_clash_of : FnScope ["row", "size", "came", "j", "spot"] ["row"] (defScope s_clash_of) := ⟨rfl, rfl, rfl, by decide +kernel, rfl, by decide +kernel, by decide +kernel⟩
theorem ok_clash_of {P : Program} {w : World} {K : PySem.W.Frag} {mg : Str → Option Value} {base : Heap} (T : TXT K mg) : OK P w K mg base "clash_of" ["row"] 4 (sp_clash_of K) := by
  have O_check_row := ok_check_row (P := P) (w := w) (base := base) T
  obtain ⟨fd, F⟩ := T.def_ 5
  refine ⟨_, fd, T.glo 4, F.kp, F.bindsN (fun _ _ _ _ _ _ us hl => match us, hl with | [_], _ => rfl), F.ok sc_clash_of (fun vs H Q E h => ?_) (fun cdv A outer s H vs Q E hr h => ?_), F.bindsA (fun _ _ _ _ _ _ us hl => match us, hl with | [_], _ => rfl)⟩
  · first | (obtain ⟨rfl, _⟩ := h; rfl) | (obtain ⟨_, rfl, _⟩ := h; rfl) | (obtain ⟨_, _, rfl, _⟩ := h; rfl) | (obtain ⟨_, _, _, rfl, _⟩ := h; rfl) | (obtain ⟨_, _, _, _, rfl, _⟩ := h; rfl) | (obtain ⟨_, _, _, _, _, rfl, _⟩ := h; rfl) | (obtain ⟨_, _, _, _, _, _, rfl, _⟩ := h; rfl) | (obtain ⟨_, _, _, _, _, _, _, rfl, _⟩ := h; rfl) | (obtain ⟨_, _, _, _, _, _, _, _, rfl, _⟩ := h; rfl)
  · replace F : FunD K "clash_of" "clash_of" (defArgs s_clash_of) (defBody s_clash_of) (defScope s_clash_of) [] [] (He.ga K "clash_of") fd := F
    refine ⟨_, (pss_cons (ps_expr (pe_own O_check_row (hr.mono (by decide)) (by rfl) (passes_call (takes_of rfl rfl rfl rfl) (fun _ _ _ _ h => h)) (pa_cons (pv 0) pa_nil)))
      (pss_cons (ps_set (i := 1) sc_clash_of.nd rfl (Or.inl rfl) (pe_callB (id := "len") (k_len K) (by rfl) (T.free 43) (by decide +kernel) (pa_cons (pv 0) pa_nil)))
      (pss_cons (ps_set (i := 2) sc_clash_of.nd rfl (Or.inl rfl) pe_dnewK)
      (pss_cons (ps_for (passes_of rfl) rfl (pi_range1 (by rfl) (T.free 45) (pa_cons (pv 1) pa_nil)) (pg_name (i := 3) sc_clash_of.nd rfl (Or.inl rfl))
        (pss_cons (ps_set (i := 4) sc_clash_of.nd rfl (Or.inl rfl) (pe_op op_mod (pe_op op_add (pv 3) (pe_ix (k_ixL K) (pv 0) (pv 3) (fun _ _ => rfl))) (pv 1)))
      (pss_cons (ps_if (pt_cmp (pc_din (hu_of hr) (pv 4) (pv 2)))
        (pss_one (ps_ret (pe_tup (pa_cons (pe_dget (hu_of hr) (pv 2) (pv 4) (fun _ _ => rfl)) (pa_cons (pv 3) pa_nil)))))
        pss_nil)
      (pss_one (ps_dput (hu_of hr) (pv 2) (pv 4) (pv 3) rfl)))))
      (pss_one (ps_ret pe_non)))))), ?_⟩
    obtain ⟨v, o, rfl, hk, q⟩ := h
    dsimp only [cxOf, L2.start, List.map_cons, List.map_nil, List.length_cons, List.length_nil, Nat.reduceAdd, Nat.reduceSub, List.replicate_succ, List.replicate_zero, List.cons_append, List.nil_append, Nat.zero_add, List.reduceReplicate, List.map]
    by_cases ho : rowOk o = true
    case neg =>
      have ho : rowOk o = false := by simpa using ho
      rw [ho] at q
      exact xq_drop (rz_call (by (repeat' (first | with_reducible exact ev_c | ((with_reducible show Ev (tVar _) _ _ _); exact ev_var rfl) | with_reducible exact ea_nil | with_reducible exact eo_none | with_reducible refine' ea_cons ?_ ?_ | with_reducible refine' eo_some ?_ | with_reducible refine' ev_and2 ?_ ?_ | with_reducible refine' ev_or2 ?_ ?_ | with_reducible refine' ev_notV ?_ | with_reducible exact ru_I | with_reducible refine' ev_un ?_ ?_ | with_reducible exact rv_I0 | with_reducible exact rv_isN | with_reducible exact rv_notN | with_reducible refine' rv_I ?_ | with_reducible refine' rv_eq ?_ | with_reducible refine' rv_ne ?_ | with_reducible refine' ev_op ?_ ?_ ?_ | with_reducible refine' ev_chain2 ?_ ?_ ?_ ?_ ?_ | with_reducible refine' et_B ?_ | with_reducible refine' et_test ?_ | with_reducible refine' et_and2 ?_ ?_ | with_reducible refine' et_or2 ?_ ?_ | with_reducible refine' et_not ?_ | with_reducible refine' ev_call ?_ ?_ | with_reducible refine' ev_callS ?_ ?_ | with_reducible refine' ev_cb ?_ ?_ | with_reducible exact isi_bool (by assumption) | with_reducible exact isi_int (by assumption) | with_reducible exact isi_list (by assumption) | with_reducible exact rc_len (by assumption) | with_reducible exact rc_sum (by assumption) | with_reducible exact rc_abs | with_reducible exact isi_listL (by assumption) | with_reducible exact isi_intI | with_reducible exact isi_boolI | with_reducible exact rc_lenT (by assumption) | with_reducible exact isi_tup (by assumption) | with_reducible exact rv_eqL (by assumption) (by assumption) | with_reducible exact rv_neL (by assumption) (by assumption) | with_reducible exact rv_neT (by assumption) (by assumption) | with_reducible exact rv_ixL (by assumption) (by assumption) | with_reducible exact rv_ixT (by assumption) (by assumption) | with_reducible refine' ev_din ?_ ?_ (by assumption) | with_reducible refine' ev_dnotin ?_ ?_ (by assumption) | with_reducible refine' ev_dget ?_ ?_ (by assumption) (by assumption) | ((with_reducible show SpV _ _ _ _); assumption) | ((with_reducible show RV _ _ _ _ _); assumption) | ((with_reducible show RC _ _ _ _); assumption) | ((with_reducible show CDiv _ _); exact ⟨by omega, by omega⟩) | ((with_reducible show CMul _ _); first | exact .inl ⟨by omega, by omega⟩ | exact .inr ⟨by omega, by omega⟩) | ((with_reducible show CPow _ _); exact ⟨by omega, by omega, by first | decide | assumption | omega⟩) | ((with_reducible show (0 : Int) < _); omega) | ((with_reducible show (0 : Int) ≤ _); omega) | ((with_reducible show scal _ _ = true); rfl)))) (sx_check_row hk ho q))
    rw [ho] at q
    have hcr := sv_check_row (K := K) hk ho
    obtain ⟨ns, rfl, hn⟩ := row_ints ho
    obtain ⟨h1, h2, h3⟩ := hn
    rw [rowsOf_some] at q
    obtain ⟨a, rfl, ha⟩ : ∃ a, v = .ref a ∧ H a = some (.lst (ns.map V.int)) := by
      have hl := hk.ls
      cases hl with
      | lst h => exact ⟨_, rfl, h⟩
    have hs : SqL K H a (ns.map V.int) := sq_of ha
    refine q_drop (v := .non) (by (repeat' (first | with_reducible exact ev_c | ((with_reducible show Ev (tVar _) _ _ _); exact ev_var rfl) | with_reducible exact ea_nil | with_reducible exact eo_none | with_reducible refine' ea_cons ?_ ?_ | with_reducible refine' eo_some ?_ | with_reducible refine' ev_and2 ?_ ?_ | with_reducible refine' ev_or2 ?_ ?_ | with_reducible refine' ev_notV ?_ | with_reducible exact ru_I | with_reducible refine' ev_un ?_ ?_ | with_reducible exact rv_I0 | with_reducible exact rv_isN | with_reducible exact rv_notN | with_reducible refine' rv_I ?_ | with_reducible refine' rv_eq ?_ | with_reducible refine' rv_ne ?_ | with_reducible refine' ev_op ?_ ?_ ?_ | with_reducible refine' ev_chain2 ?_ ?_ ?_ ?_ ?_ | with_reducible refine' et_B ?_ | with_reducible refine' et_test ?_ | with_reducible refine' et_and2 ?_ ?_ | with_reducible refine' et_or2 ?_ ?_ | with_reducible refine' et_not ?_ | with_reducible refine' ev_call ?_ ?_ | with_reducible refine' ev_callS ?_ ?_ | with_reducible refine' ev_cb ?_ ?_ | with_reducible exact isi_bool (by assumption) | with_reducible exact isi_int (by assumption) | with_reducible exact isi_list (by assumption) | with_reducible exact rc_len (by assumption) | with_reducible exact rc_sum (by assumption) | with_reducible exact rc_abs | with_reducible exact isi_listL (by assumption) | with_reducible exact isi_intI | with_reducible exact isi_boolI | with_reducible exact rc_lenT (by assumption) | with_reducible exact isi_tup (by assumption) | with_reducible exact rv_eqL (by assumption) (by assumption) | with_reducible exact rv_neL (by assumption) (by assumption) | with_reducible exact rv_neT (by assumption) (by assumption) | with_reducible exact rv_ixL (by assumption) (by assumption) | with_reducible exact rv_ixT (by assumption) (by assumption) | with_reducible refine' ev_din ?_ ?_ (by assumption) | with_reducible refine' ev_dnotin ?_ ?_ (by assumption) | with_reducible refine' ev_dget ?_ ?_ (by assumption) (by assumption) | ((with_reducible show SpV _ _ _ _); assumption) | ((with_reducible show RV _ _ _ _ _); assumption) | ((with_reducible show RC _ _ _ _); assumption) | ((with_reducible show CDiv _ _); exact ⟨by omega, by omega⟩) | ((with_reducible show CMul _ _); first | exact .inl ⟨by omega, by omega⟩ | exact .inr ⟨by omega, by omega⟩) | ((with_reducible show CPow _ _); exact ⟨by omega, by omega, by first | decide | assumption | omega⟩) | ((with_reducible show (0 : Int) < _); omega) | ((with_reducible show (0 : Int) ≤ _); omega) | ((with_reducible show scal _ _ = true); rfl)))) fun H1 e1 => ?_
    have hs1 : SqL K H1 a (ns.map V.int) := ex_l e1 hs
    refine q_asg (v := .int (ns.length : Int)) ?_ fun H2 e2 => ?_
    · apply ev_is
      · (repeat' (first | with_reducible exact ev_c | ((with_reducible show Ev (tVar _) _ _ _); exact ev_var rfl) | with_reducible exact ea_nil | with_reducible exact eo_none | with_reducible refine' ea_cons ?_ ?_ | with_reducible refine' eo_some ?_ | with_reducible refine' ev_and2 ?_ ?_ | with_reducible refine' ev_or2 ?_ ?_ | with_reducible refine' ev_notV ?_ | with_reducible exact ru_I | with_reducible refine' ev_un ?_ ?_ | with_reducible exact rv_I0 | with_reducible exact rv_isN | with_reducible exact rv_notN | with_reducible refine' rv_I ?_ | with_reducible refine' rv_eq ?_ | with_reducible refine' rv_ne ?_ | with_reducible refine' ev_op ?_ ?_ ?_ | with_reducible refine' ev_chain2 ?_ ?_ ?_ ?_ ?_ | with_reducible refine' et_B ?_ | with_reducible refine' et_test ?_ | with_reducible refine' et_and2 ?_ ?_ | with_reducible refine' et_or2 ?_ ?_ | with_reducible refine' et_not ?_ | with_reducible refine' ev_call ?_ ?_ | with_reducible refine' ev_callS ?_ ?_ | with_reducible refine' ev_cb ?_ ?_ | with_reducible exact isi_bool (by assumption) | with_reducible exact isi_int (by assumption) | with_reducible exact isi_list (by assumption) | with_reducible exact rc_len (by assumption) | with_reducible exact rc_sum (by assumption) | with_reducible exact rc_abs | with_reducible exact isi_listL (by assumption) | with_reducible exact isi_intI | with_reducible exact isi_boolI | with_reducible exact rc_lenT (by assumption) | with_reducible exact isi_tup (by assumption) | with_reducible exact rv_eqL (by assumption) (by assumption) | with_reducible exact rv_neL (by assumption) (by assumption) | with_reducible exact rv_neT (by assumption) (by assumption) | with_reducible exact rv_ixL (by assumption) (by assumption) | with_reducible exact rv_ixT (by assumption) (by assumption) | with_reducible refine' ev_din ?_ ?_ (by assumption) | with_reducible refine' ev_dnotin ?_ ?_ (by assumption) | with_reducible refine' ev_dget ?_ ?_ (by assumption) (by assumption) | ((with_reducible show SpV _ _ _ _); assumption) | ((with_reducible show RV _ _ _ _ _); assumption) | ((with_reducible show RC _ _ _ _); assumption) | ((with_reducible show CDiv _ _); exact ⟨by omega, by omega⟩) | ((with_reducible show CMul _ _); first | exact .inl ⟨by omega, by omega⟩ | exact .inr ⟨by omega, by omega⟩) | ((with_reducible show CPow _ _); exact ⟨by omega, by omega, by first | decide | assumption | omega⟩) | ((with_reducible show (0 : Int) < _); omega) | ((with_reducible show (0 : Int) ≤ _); omega) | ((with_reducible show scal _ _ = true); rfl)))
      · rw [List.length_map]
    refine q_dnew fun d hd => ?_
    have e20 : Ex H H2 := e1.trans e2
    refine q_forR1 (n := (ns.length : Int)) (by (repeat' (first | with_reducible exact ev_c | ((with_reducible show Ev (tVar _) _ _ _); exact ev_var rfl) | with_reducible exact ea_nil | with_reducible exact eo_none | with_reducible refine' ea_cons ?_ ?_ | with_reducible refine' eo_some ?_ | with_reducible refine' ev_and2 ?_ ?_ | with_reducible refine' ev_or2 ?_ ?_ | with_reducible refine' ev_notV ?_ | with_reducible exact ru_I | with_reducible refine' ev_un ?_ ?_ | with_reducible exact rv_I0 | with_reducible exact rv_isN | with_reducible exact rv_notN | with_reducible refine' rv_I ?_ | with_reducible refine' rv_eq ?_ | with_reducible refine' rv_ne ?_ | with_reducible refine' ev_op ?_ ?_ ?_ | with_reducible refine' ev_chain2 ?_ ?_ ?_ ?_ ?_ | with_reducible refine' et_B ?_ | with_reducible refine' et_test ?_ | with_reducible refine' et_and2 ?_ ?_ | with_reducible refine' et_or2 ?_ ?_ | with_reducible refine' et_not ?_ | with_reducible refine' ev_call ?_ ?_ | with_reducible refine' ev_callS ?_ ?_ | with_reducible refine' ev_cb ?_ ?_ | with_reducible exact isi_bool (by assumption) | with_reducible exact isi_int (by assumption) | with_reducible exact isi_list (by assumption) | with_reducible exact rc_len (by assumption) | with_reducible exact rc_sum (by assumption) | with_reducible exact rc_abs | with_reducible exact isi_listL (by assumption) | with_reducible exact isi_intI | with_reducible exact isi_boolI | with_reducible exact rc_lenT (by assumption) | with_reducible exact isi_tup (by assumption) | with_reducible exact rv_eqL (by assumption) (by assumption) | with_reducible exact rv_neL (by assumption) (by assumption) | with_reducible exact rv_neT (by assumption) (by assumption) | with_reducible exact rv_ixL (by assumption) (by assumption) | with_reducible exact rv_ixT (by assumption) (by assumption) | with_reducible refine' ev_din ?_ ?_ (by assumption) | with_reducible refine' ev_dnotin ?_ ?_ (by assumption) | with_reducible refine' ev_dget ?_ ?_ (by assumption) (by assumption) | ((with_reducible show SpV _ _ _ _); assumption) | ((with_reducible show RV _ _ _ _ _); assumption) | ((with_reducible show RC _ _ _ _); assumption) | ((with_reducible show CDiv _ _); exact ⟨by omega, by omega⟩) | ((with_reducible show CMul _ _); first | exact .inl ⟨by omega, by omega⟩ | exact .inr ⟨by omega, by omega⟩) | ((with_reducible show CPow _ _); exact ⟨by omega, by omega, by first | decide | assumption | omega⟩) | ((with_reducible show (0 : Int) < _); omega) | ((with_reducible show (0 : Int) ≤ _); omega) | ((with_reducible show scal _ _ = true); rfl)))) (by omega) (fun i σ' H' => ∃ y4 y5, σ' = [some (V.ref a), some (V.int (ns.length : Int)), some (V.ref d), y4, y5] ∧ Ex H2 H' ∧ H' d = some (.dK (kvAt ns i)) ∧ ∀ j, j < i → seenAt ns j = none) (fun H3 e3 => ⟨none, none, rfl, (Ex.new hd).trans e3, e3 _ _ upd_same, fun j hj => by omega⟩) ?_ ?_
    · rintro i σ' H' hi ⟨y4, y5, rfl, e3, hd3, hno⟩
      have hi' : i < ns.length := by omega
      have hs3 : SqL K H' a (ns.map V.int) := ex_l (e20.trans e3) hs
      have gi := atI_int hi'
      refine q_asg (v := .int (land ns i)) (show Ev _ _ _ (.int (((i : Int) + ns.getD i 0) % (ns.length : Int))) by (repeat' (first | with_reducible exact ev_c | ((with_reducible show Ev (tVar _) _ _ _); exact ev_var rfl) | with_reducible exact ea_nil | with_reducible exact eo_none | with_reducible refine' ea_cons ?_ ?_ | with_reducible refine' eo_some ?_ | with_reducible refine' ev_and2 ?_ ?_ | with_reducible refine' ev_or2 ?_ ?_ | with_reducible refine' ev_notV ?_ | with_reducible exact ru_I | with_reducible refine' ev_un ?_ ?_ | with_reducible exact rv_I0 | with_reducible exact rv_isN | with_reducible exact rv_notN | with_reducible refine' rv_I ?_ | with_reducible refine' rv_eq ?_ | with_reducible refine' rv_ne ?_ | with_reducible refine' ev_op ?_ ?_ ?_ | with_reducible refine' ev_chain2 ?_ ?_ ?_ ?_ ?_ | with_reducible refine' et_B ?_ | with_reducible refine' et_test ?_ | with_reducible refine' et_and2 ?_ ?_ | with_reducible refine' et_or2 ?_ ?_ | with_reducible refine' et_not ?_ | with_reducible refine' ev_call ?_ ?_ | with_reducible refine' ev_callS ?_ ?_ | with_reducible refine' ev_cb ?_ ?_ | with_reducible exact isi_bool (by assumption) | with_reducible exact isi_int (by assumption) | with_reducible exact isi_list (by assumption) | with_reducible exact rc_len (by assumption) | with_reducible exact rc_sum (by assumption) | with_reducible exact rc_abs | with_reducible exact isi_listL (by assumption) | with_reducible exact isi_intI | with_reducible exact isi_boolI | with_reducible exact rc_lenT (by assumption) | with_reducible exact isi_tup (by assumption) | with_reducible exact rv_eqL (by assumption) (by assumption) | with_reducible exact rv_neL (by assumption) (by assumption) | with_reducible exact rv_neT (by assumption) (by assumption) | with_reducible exact rv_ixL (by assumption) (by assumption) | with_reducible exact rv_ixT (by assumption) (by assumption) | with_reducible refine' ev_din ?_ ?_ (by assumption) | with_reducible refine' ev_dnotin ?_ ?_ (by assumption) | with_reducible refine' ev_dget ?_ ?_ (by assumption) (by assumption) | ((with_reducible show SpV _ _ _ _); assumption) | ((with_reducible show RV _ _ _ _ _); assumption) | ((with_reducible show RC _ _ _ _); assumption) | ((with_reducible show CDiv _ _); exact ⟨by omega, by omega⟩) | ((with_reducible show CMul _ _); first | exact .inl ⟨by omega, by omega⟩ | exact .inr ⟨by omega, by omega⟩) | ((with_reducible show CPow _ _); exact ⟨by omega, by omega, by first | decide | assumption | omega⟩) | ((with_reducible show (0 : Int) < _); omega) | ((with_reducible show (0 : Int) ≤ _); omega) | ((with_reducible show scal _ _ = true); rfl)))) fun H4 e4 => ?_
      have hd4 : H4 d = some (.dK (kvAt ns i)) := e4 _ _ hd3
      refine q_when (b := (seenAt ns i).isSome) ?_ (fun hb H5 e5 => ?_) (fun hb H5 e5 => ?_)
      · apply et_is
        · (repeat' (first | with_reducible exact ev_c | ((with_reducible show Ev (tVar _) _ _ _); exact ev_var rfl) | with_reducible exact ea_nil | with_reducible exact eo_none | with_reducible refine' ea_cons ?_ ?_ | with_reducible refine' eo_some ?_ | with_reducible refine' ev_and2 ?_ ?_ | with_reducible refine' ev_or2 ?_ ?_ | with_reducible refine' ev_notV ?_ | with_reducible exact ru_I | with_reducible refine' ev_un ?_ ?_ | with_reducible exact rv_I0 | with_reducible exact rv_isN | with_reducible exact rv_notN | with_reducible refine' rv_I ?_ | with_reducible refine' rv_eq ?_ | with_reducible refine' rv_ne ?_ | with_reducible refine' ev_op ?_ ?_ ?_ | with_reducible refine' ev_chain2 ?_ ?_ ?_ ?_ ?_ | with_reducible refine' et_B ?_ | with_reducible refine' et_test ?_ | with_reducible refine' et_and2 ?_ ?_ | with_reducible refine' et_or2 ?_ ?_ | with_reducible refine' et_not ?_ | with_reducible refine' ev_call ?_ ?_ | with_reducible refine' ev_callS ?_ ?_ | with_reducible refine' ev_cb ?_ ?_ | with_reducible exact isi_bool (by assumption) | with_reducible exact isi_int (by assumption) | with_reducible exact isi_list (by assumption) | with_reducible exact rc_len (by assumption) | with_reducible exact rc_sum (by assumption) | with_reducible exact rc_abs | with_reducible exact isi_listL (by assumption) | with_reducible exact isi_intI | with_reducible exact isi_boolI | with_reducible exact rc_lenT (by assumption) | with_reducible exact isi_tup (by assumption) | with_reducible exact rv_eqL (by assumption) (by assumption) | with_reducible exact rv_neL (by assumption) (by assumption) | with_reducible exact rv_neT (by assumption) (by assumption) | with_reducible exact rv_ixL (by assumption) (by assumption) | with_reducible exact rv_ixT (by assumption) (by assumption) | with_reducible refine' ev_din ?_ ?_ (by assumption) | with_reducible refine' ev_dnotin ?_ ?_ (by assumption) | with_reducible refine' ev_dget ?_ ?_ (by assumption) (by assumption) | ((with_reducible show SpV _ _ _ _); assumption) | ((with_reducible show RV _ _ _ _ _); assumption) | ((with_reducible show RC _ _ _ _); assumption) | ((with_reducible show CDiv _ _); exact ⟨by omega, by omega⟩) | ((with_reducible show CMul _ _); first | exact .inl ⟨by omega, by omega⟩ | exact .inr ⟨by omega, by omega⟩) | ((with_reducible show CPow _ _); exact ⟨by omega, by omega, by first | decide | assumption | omega⟩) | ((with_reducible show (0 : Int) < _); omega) | ((with_reducible show (0 : Int) ≤ _); omega) | ((with_reducible show scal _ _ = true); rfl)))
        · rw [kvAt_val]
          unfold seenAt
          cases (List.range i).find? fun k => decide (land ns k = land ns i) <;> rfl
      · obtain ⟨k, hk2⟩ := Option.isSome_iff_exists.mp hb
        have ec : clashRe ns = .tup [.int (k : Int), .int (i : Int)] := by
          have z : clashOf ns = some (k, i) := findSome_at hi' (fun j hj => by rw [hno j hj]; rfl) (by rw [hk2]; rfl)
          unfold clashRe
          rw [z]
        rw [if_pos rfl, ec] at q
        have hd5 : H5 d = some (.dK (kvAt ns i)) := e5 _ _ hd4
        have hv : valV (kvAt ns i) (Sum.inl (land ns i) : Key) = some (V.int (k : Int)) := by
          rw [kvAt_val]
          unfold seenAt at hk2
          rw [hk2]
          rfl
        refine s_retU2 (xs := [.int (k : Int), .int (i : Int)]) (by (repeat' (first | with_reducible exact ev_c | ((with_reducible show Ev (tVar _) _ _ _); exact ev_var rfl) | with_reducible exact ea_nil | with_reducible exact eo_none | with_reducible refine' ea_cons ?_ ?_ | with_reducible refine' eo_some ?_ | with_reducible refine' ev_and2 ?_ ?_ | with_reducible refine' ev_or2 ?_ ?_ | with_reducible refine' ev_notV ?_ | with_reducible exact ru_I | with_reducible refine' ev_un ?_ ?_ | with_reducible exact rv_I0 | with_reducible exact rv_isN | with_reducible exact rv_notN | with_reducible refine' rv_I ?_ | with_reducible refine' rv_eq ?_ | with_reducible refine' rv_ne ?_ | with_reducible refine' ev_op ?_ ?_ ?_ | with_reducible refine' ev_chain2 ?_ ?_ ?_ ?_ ?_ | with_reducible refine' et_B ?_ | with_reducible refine' et_test ?_ | with_reducible refine' et_and2 ?_ ?_ | with_reducible refine' et_or2 ?_ ?_ | with_reducible refine' et_not ?_ | with_reducible refine' ev_call ?_ ?_ | with_reducible refine' ev_callS ?_ ?_ | with_reducible refine' ev_cb ?_ ?_ | with_reducible exact isi_bool (by assumption) | with_reducible exact isi_int (by assumption) | with_reducible exact isi_list (by assumption) | with_reducible exact rc_len (by assumption) | with_reducible exact rc_sum (by assumption) | with_reducible exact rc_abs | with_reducible exact isi_listL (by assumption) | with_reducible exact isi_intI | with_reducible exact isi_boolI | with_reducible exact rc_lenT (by assumption) | with_reducible exact isi_tup (by assumption) | with_reducible exact rv_eqL (by assumption) (by assumption) | with_reducible exact rv_neL (by assumption) (by assumption) | with_reducible exact rv_neT (by assumption) (by assumption) | with_reducible exact rv_ixL (by assumption) (by assumption) | with_reducible exact rv_ixT (by assumption) (by assumption) | with_reducible refine' ev_din ?_ ?_ (by assumption) | with_reducible refine' ev_dnotin ?_ ?_ (by assumption) | with_reducible refine' ev_dget ?_ ?_ (by assumption) (by assumption) | ((with_reducible show SpV _ _ _ _); assumption) | ((with_reducible show RV _ _ _ _ _); assumption) | ((with_reducible show RC _ _ _ _); assumption) | ((with_reducible show CDiv _ _); exact ⟨by omega, by omega⟩) | ((with_reducible show CMul _ _); first | exact .inl ⟨by omega, by omega⟩ | exact .inr ⟨by omega, by omega⟩) | ((with_reducible show CPow _ _); exact ⟨by omega, by omega, by first | decide | assumption | omega⟩) | ((with_reducible show (0 : Int) < _); omega) | ((with_reducible show (0 : Int) ≤ _); omega) | ((with_reducible show scal _ _ = true); rfl)))) (by show 2 ≤ 100000; decide) ?_
        exact RetU.mono (((e20.trans e3).trans e4).trans e5) q
      · have hb' : seenAt ns i = none := by
          cases z : seenAt ns i with
          | none => rfl
          | some k =>
            rw [z] at hb
            cases hb
        have hd5 : H5 d = some (.dK (kvAt ns i)) := e5 _ _ hd4
        refine s_dput hd5 (v := .int (i : Int)) (i := land ns i) (by (repeat' (first | with_reducible exact ev_c | ((with_reducible show Ev (tVar _) _ _ _); exact ev_var rfl) | with_reducible exact ea_nil | with_reducible exact eo_none | with_reducible refine' ea_cons ?_ ?_ | with_reducible refine' eo_some ?_ | with_reducible refine' ev_and2 ?_ ?_ | with_reducible refine' ev_or2 ?_ ?_ | with_reducible refine' ev_notV ?_ | with_reducible exact ru_I | with_reducible refine' ev_un ?_ ?_ | with_reducible exact rv_I0 | with_reducible exact rv_isN | with_reducible exact rv_notN | with_reducible refine' rv_I ?_ | with_reducible refine' rv_eq ?_ | with_reducible refine' rv_ne ?_ | with_reducible refine' ev_op ?_ ?_ ?_ | with_reducible refine' ev_chain2 ?_ ?_ ?_ ?_ ?_ | with_reducible refine' et_B ?_ | with_reducible refine' et_test ?_ | with_reducible refine' et_and2 ?_ ?_ | with_reducible refine' et_or2 ?_ ?_ | with_reducible refine' et_not ?_ | with_reducible refine' ev_call ?_ ?_ | with_reducible refine' ev_callS ?_ ?_ | with_reducible refine' ev_cb ?_ ?_ | with_reducible exact isi_bool (by assumption) | with_reducible exact isi_int (by assumption) | with_reducible exact isi_list (by assumption) | with_reducible exact rc_len (by assumption) | with_reducible exact rc_sum (by assumption) | with_reducible exact rc_abs | with_reducible exact isi_listL (by assumption) | with_reducible exact isi_intI | with_reducible exact isi_boolI | with_reducible exact rc_lenT (by assumption) | with_reducible exact isi_tup (by assumption) | with_reducible exact rv_eqL (by assumption) (by assumption) | with_reducible exact rv_neL (by assumption) (by assumption) | with_reducible exact rv_neT (by assumption) (by assumption) | with_reducible exact rv_ixL (by assumption) (by assumption) | with_reducible exact rv_ixT (by assumption) (by assumption) | with_reducible refine' ev_din ?_ ?_ (by assumption) | with_reducible refine' ev_dnotin ?_ ?_ (by assumption) | with_reducible refine' ev_dget ?_ ?_ (by assumption) (by assumption) | ((with_reducible show SpV _ _ _ _); assumption) | ((with_reducible show RV _ _ _ _ _); assumption) | ((with_reducible show RC _ _ _ _); assumption) | ((with_reducible show CDiv _ _); exact ⟨by omega, by omega⟩) | ((with_reducible show CMul _ _); first | exact .inl ⟨by omega, by omega⟩ | exact .inr ⟨by omega, by omega⟩) | ((with_reducible show CPow _ _); exact ⟨by omega, by omega, by first | decide | assumption | omega⟩) | ((with_reducible show (0 : Int) < _); omega) | ((with_reducible show (0 : Int) ≤ _); omega) | ((with_reducible show scal _ _ = true); rfl)))) (by (repeat' (first | with_reducible exact ev_c | ((with_reducible show Ev (tVar _) _ _ _); exact ev_var rfl) | with_reducible exact ea_nil | with_reducible exact eo_none | with_reducible refine' ea_cons ?_ ?_ | with_reducible refine' eo_some ?_ | with_reducible refine' ev_and2 ?_ ?_ | with_reducible refine' ev_or2 ?_ ?_ | with_reducible refine' ev_notV ?_ | with_reducible exact ru_I | with_reducible refine' ev_un ?_ ?_ | with_reducible exact rv_I0 | with_reducible exact rv_isN | with_reducible exact rv_notN | with_reducible refine' rv_I ?_ | with_reducible refine' rv_eq ?_ | with_reducible refine' rv_ne ?_ | with_reducible refine' ev_op ?_ ?_ ?_ | with_reducible refine' ev_chain2 ?_ ?_ ?_ ?_ ?_ | with_reducible refine' et_B ?_ | with_reducible refine' et_test ?_ | with_reducible refine' et_and2 ?_ ?_ | with_reducible refine' et_or2 ?_ ?_ | with_reducible refine' et_not ?_ | with_reducible refine' ev_call ?_ ?_ | with_reducible refine' ev_callS ?_ ?_ | with_reducible refine' ev_cb ?_ ?_ | with_reducible exact isi_bool (by assumption) | with_reducible exact isi_int (by assumption) | with_reducible exact isi_list (by assumption) | with_reducible exact rc_len (by assumption) | with_reducible exact rc_sum (by assumption) | with_reducible exact rc_abs | with_reducible exact isi_listL (by assumption) | with_reducible exact isi_intI | with_reducible exact isi_boolI | with_reducible exact rc_lenT (by assumption) | with_reducible exact isi_tup (by assumption) | with_reducible exact rv_eqL (by assumption) (by assumption) | with_reducible exact rv_neL (by assumption) (by assumption) | with_reducible exact rv_neT (by assumption) (by assumption) | with_reducible exact rv_ixL (by assumption) (by assumption) | with_reducible exact rv_ixT (by assumption) (by assumption) | with_reducible refine' ev_din ?_ ?_ (by assumption) | with_reducible refine' ev_dnotin ?_ ?_ (by assumption) | with_reducible refine' ev_dget ?_ ?_ (by assumption) (by assumption) | ((with_reducible show SpV _ _ _ _); assumption) | ((with_reducible show RV _ _ _ _ _); assumption) | ((with_reducible show RC _ _ _ _); assumption) | ((with_reducible show CDiv _ _); exact ⟨by omega, by omega⟩) | ((with_reducible show CMul _ _); first | exact .inl ⟨by omega, by omega⟩ | exact .inr ⟨by omega, by omega⟩) | ((with_reducible show CPow _ _); exact ⟨by omega, by omega, by first | decide | assumption | omega⟩) | ((with_reducible show (0 : Int) < _); omega) | ((with_reducible show (0 : Int) ≤ _); omega) | ((with_reducible show scal _ _ = true); rfl)))) (by (repeat' (first | with_reducible exact ev_c | ((with_reducible show Ev (tVar _) _ _ _); exact ev_var rfl) | with_reducible exact ea_nil | with_reducible exact eo_none | with_reducible refine' ea_cons ?_ ?_ | with_reducible refine' eo_some ?_ | with_reducible refine' ev_and2 ?_ ?_ | with_reducible refine' ev_or2 ?_ ?_ | with_reducible refine' ev_notV ?_ | with_reducible exact ru_I | with_reducible refine' ev_un ?_ ?_ | with_reducible exact rv_I0 | with_reducible exact rv_isN | with_reducible exact rv_notN | with_reducible refine' rv_I ?_ | with_reducible refine' rv_eq ?_ | with_reducible refine' rv_ne ?_ | with_reducible refine' ev_op ?_ ?_ ?_ | with_reducible refine' ev_chain2 ?_ ?_ ?_ ?_ ?_ | with_reducible refine' et_B ?_ | with_reducible refine' et_test ?_ | with_reducible refine' et_and2 ?_ ?_ | with_reducible refine' et_or2 ?_ ?_ | with_reducible refine' et_not ?_ | with_reducible refine' ev_call ?_ ?_ | with_reducible refine' ev_callS ?_ ?_ | with_reducible refine' ev_cb ?_ ?_ | with_reducible exact isi_bool (by assumption) | with_reducible exact isi_int (by assumption) | with_reducible exact isi_list (by assumption) | with_reducible exact rc_len (by assumption) | with_reducible exact rc_sum (by assumption) | with_reducible exact rc_abs | with_reducible exact isi_listL (by assumption) | with_reducible exact isi_intI | with_reducible exact isi_boolI | with_reducible exact rc_lenT (by assumption) | with_reducible exact isi_tup (by assumption) | with_reducible exact rv_eqL (by assumption) (by assumption) | with_reducible exact rv_neL (by assumption) (by assumption) | with_reducible exact rv_neT (by assumption) (by assumption) | with_reducible exact rv_ixL (by assumption) (by assumption) | with_reducible exact rv_ixT (by assumption) (by assumption) | with_reducible refine' ev_din ?_ ?_ (by assumption) | with_reducible refine' ev_dnotin ?_ ?_ (by assumption) | with_reducible refine' ev_dget ?_ ?_ (by assumption) (by assumption) | ((with_reducible show SpV _ _ _ _); assumption) | ((with_reducible show RV _ _ _ _ _); assumption) | ((with_reducible show RC _ _ _ _); assumption) | ((with_reducible show CDiv _ _); exact ⟨by omega, by omega⟩) | ((with_reducible show CMul _ _); first | exact .inl ⟨by omega, by omega⟩ | exact .inr ⟨by omega, by omega⟩) | ((with_reducible show CPow _ _); exact ⟨by omega, by omega, by first | decide | assumption | omega⟩) | ((with_reducible show (0 : Int) < _); omega) | ((with_reducible show (0 : Int) ≤ _); omega) | ((with_reducible show scal _ _ = true); rfl)))) (by rw [kvAt_len]; omega) fun H6 e6 => ?_
        refine ⟨_, _, rfl, Ex.mut (((e3.trans e4).trans e5).trans e6) hd, ?_, fun j hj => ?_⟩
        · rw [kvAt_put hb']
          exact upd_same
        · by_cases z : j < i
          · exact hno j z
          · have : j = i := by omega
            rw [this]
            exact hb'
    · rintro σ' H' ⟨y4, y5, rfl, e3, hd3, hno⟩
      have ec : clashRe ns = .val .non := by
        have z : clashOf ns = none := findSome_none (fun j hj => by rw [hno j (by omega)]; rfl)
        unfold clashRe
        rw [z]
      rw [if_pos rfl, ec] at q
      exact s_ret (by (repeat' (first | with_reducible exact ev_c | ((with_reducible show Ev (tVar _) _ _ _); exact ev_var rfl) | with_reducible exact ea_nil | with_reducible exact eo_none | with_reducible refine' ea_cons ?_ ?_ | with_reducible refine' eo_some ?_ | with_reducible refine' ev_and2 ?_ ?_ | with_reducible refine' ev_or2 ?_ ?_ | with_reducible refine' ev_notV ?_ | with_reducible exact ru_I | with_reducible refine' ev_un ?_ ?_ | with_reducible exact rv_I0 | with_reducible exact rv_isN | with_reducible exact rv_notN | with_reducible refine' rv_I ?_ | with_reducible refine' rv_eq ?_ | with_reducible refine' rv_ne ?_ | with_reducible refine' ev_op ?_ ?_ ?_ | with_reducible refine' ev_chain2 ?_ ?_ ?_ ?_ ?_ | with_reducible refine' et_B ?_ | with_reducible refine' et_test ?_ | with_reducible refine' et_and2 ?_ ?_ | with_reducible refine' et_or2 ?_ ?_ | with_reducible refine' et_not ?_ | with_reducible refine' ev_call ?_ ?_ | with_reducible refine' ev_callS ?_ ?_ | with_reducible refine' ev_cb ?_ ?_ | with_reducible exact isi_bool (by assumption) | with_reducible exact isi_int (by assumption) | with_reducible exact isi_list (by assumption) | with_reducible exact rc_len (by assumption) | with_reducible exact rc_sum (by assumption) | with_reducible exact rc_abs | with_reducible exact isi_listL (by assumption) | with_reducible exact isi_intI | with_reducible exact isi_boolI | with_reducible exact rc_lenT (by assumption) | with_reducible exact isi_tup (by assumption) | with_reducible exact rv_eqL (by assumption) (by assumption) | with_reducible exact rv_neL (by assumption) (by assumption) | with_reducible exact rv_neT (by assumption) (by assumption) | with_reducible exact rv_ixL (by assumption) (by assumption) | with_reducible exact rv_ixT (by assumption) (by assumption) | with_reducible refine' ev_din ?_ ?_ (by assumption) | with_reducible refine' ev_dnotin ?_ ?_ (by assumption) | with_reducible refine' ev_dget ?_ ?_ (by assumption) (by assumption) | ((with_reducible show SpV _ _ _ _); assumption) | ((with_reducible show RV _ _ _ _ _); assumption) | ((with_reducible show RC _ _ _ _); assumption) | ((with_reducible show CDiv _ _); exact ⟨by omega, by omega⟩) | ((with_reducible show CMul _ _); first | exact .inl ⟨by omega, by omega⟩ | exact .inr ⟨by omega, by omega⟩) | ((with_reducible show CPow _ _); exact ⟨by omega, by omega, by first | decide | assumption | omega⟩) | ((with_reducible show (0 : Int) < _); omega) | ((with_reducible show (0 : Int) ≤ _); omega) | ((with_reducible show scal _ _ = true); rfl)))) fun H4 e4 => q H4 ((e20.trans e3).trans e4)

end TB

/-! ### rows: Clash, check_pattern, balls_of, even, kept -/
namespace TB
open PySem PySem.Spec PyProof.Rows L2 Evl
theorem sc_Clash : FnScope ["self", "beats"] ["self", "beats"] (defScope s_Clash___init__) := ⟨rfl, rfl, rfl, by decide +kernel, rfl, by decide +kernel, by decide +kernel⟩
def sp_init (C : Addr) : Sp := fun vs H Q E => ∃ a b, vs = [.ref a, b] ∧ H a = some (exo a C none) ∧ ∀ d, H d = none → d ≠ a → Q .non (upd (upd H d (exd d [(("beats" : Str), b)])) a (exo a C (some d)))
theorem clashC {K : PySem.W.Frag} {mg : Str → Option Value} (T : TXT K mg) : ClashC K (He.ga K "Clash") := clashB_ok (tx_clash T)
theorem ok_Clash {P : Program} {w : World} {K : PySem.W.Frag} {mg : Str → Option Value} {base : Heap} (T : TXT K mg) : OKE P w K mg base "Clash" ["self", "beats"] 1 (sp_init (He.ga K "Clash")) := by
  obtain ⟨fd, F⟩ := T.def_ 0
  have cc := clashC T
  refine ⟨fd, cc, T.glo 30, F.bindsN (fun _ _ _ _ _ _ us hl => match us, hl with | [_, _], _ => rfl), F.ok sc_Clash (fun vs H Q E h => ?_) (fun cdv A outer s H vs Q E hr h => ?_)⟩
  · obtain ⟨a, b, rfl, _⟩ := h
    rfl
  · refine ⟨_, (pss_one (ps_ost (pv 0) (pv 1))), ?_⟩
    obtain ⟨a, b, rfl, ha, q⟩ := h
    dsimp only [cxOf, L2.start, List.map_cons, List.map_nil, List.length_cons, List.length_nil, Nat.reduceAdd, Nat.reduceSub, List.replicate_succ, List.replicate_zero, List.cons_append, List.nil_append, Nat.zero_add, List.reduceReplicate, List.map]
    exact ⟨_, rfl, _, rfl, a, _, rfl, cc.o, cc.n, .inl ⟨ha, fun d hd hne => q d hd hne⟩⟩
/-- what a clash that is raised leaves -/
theorem raise_clash {σ : L2.St} {H : Hp} {te : TE} {b : Addr} {i j : Int} {E : XK} {C : Addr} (hb : Ev te σ H (.ref b)) (ht : H b = some (.tup [.int i, .int j]))
    (k : ∀ H2 d p, H d = none → Ex H H2 → H2 d = some (.xd [(("beats" : Str), .ref p)]) → H2 p = some (.tup [.int i, .int j]) → E (.ref C) (some d) H2) :
    tMkO C (sp_init C) [] (tCons te tNil) σ H fun cls d H' => E cls d H' := by
  refine hb H (Ex.refl H) _ fun H1 e1 => ⟨by show 1 ≤ 1000; decide, fun a ha => ?_⟩
  refine ⟨a, .ref b, rfl, upd_same, fun d hd hne => ⟨rfl, d, [(("beats" : Str), .ref b)], upd_same, ?_, ?_, ?_⟩⟩
  · rw [upd_ne hne, upd_same]
  · rw [upd_ne hne] at hd
    exact hd
  · have hd1 : H1 d = none := by
      rw [upd_ne hne] at hd
      exact hd
    have hx : Ex H1 (upd (del (upd (upd (upd H1 a (exo a C none)) d (exd d [(("beats" : Str), .ref b)])) a (exo a C (some d))) a) d (.xd [(("beats" : Str), .ref b)])) := fun c o h => by
      have nca : c ≠ a := ne_of_none h ha
      have ncd : c ≠ d := ne_of_none h hd1
      rw [upd_ne ncd, del_ne nca, upd_ne nca, upd_ne ncd, upd_ne nca]
      exact h
    exact k _ d b (fresh_back e1 hd1) (e1.trans hx) upd_same (hx _ _ (e1 _ _ ht))
def patRe (ns : List Int) (r : Re) : Re := match clashOf ns with
  | some (i, j) => .clash (i : Int) (j : Int)
  | none => r
/-- a door that takes a pattern -/
def doorRe (o : Option (List V)) (f : List Int → Re) : Re := if rowOk o then patRe (rowsOf o) (f (rowsOf o)) else .err "NotARow"
def sp_check_pattern (K : PySem.W.Frag) : Sp := fun vs H Q E => ∃ v o, vs = [v] ∧ Row H v o ∧ Give K (doorRe o fun _ => .val .non) H Q E
def sp_balls_of (K : PySem.W.Frag) : Sp := fun vs H Q E => ∃ v o, vs = [v] ∧ Row H v o ∧ Give K (doorRe o fun ns => .val (.int (ns.sum / (ns.length : Int)))) H Q E
theorem sx_clash_of {K : PySem.W.Frag} {H : Hp} {v : V} {o : Option (List V)} {E : XK} (hk : Row H v o) (h : rowOk o = false) (he : ∀ H2, Ex H H2 → E (.ref (He.ga K "NotARow")) none H2) : ∀ H1, Ex H H1 → ∀ Q : VK, sp_clash_of K [v] H1 Q E := fun H1 e Q => ⟨v, o, rfl, hk.mono e, by
  rw [h]
  exact fun H2 e2 => he H2 (e.trans e2)⟩
theorem sv_clash_of {K : PySem.W.Frag} {H : Hp} {v : V} {o : Option (List V)} (hk : Row H v o) (h : rowOk o = true) (hc : clashOf (rowsOf o) = none) : SpV (sp_clash_of K) [v] H .non := spv_of fun H1 e Q E k => ⟨v, o, rfl, hk.mono e, by
  rw [h, if_pos rfl]
  unfold clashRe
  rw [hc]
  exact k⟩
theorem su_clash_of {K : PySem.W.Frag} {H : Hp} {v : V} {o : Option (List V)} {i j : Nat} (hk : Row H v o) (h : rowOk o = true) (hc : clashOf (rowsOf o) = some (i, j)) : SpU (sp_clash_of K) [v] H [.int (i : Int), .int (j : Int)] := fun H1 e Q k E => ⟨v, o, rfl, hk.mono e, by
  rw [h, if_pos rfl]
  unfold clashRe
  rw [hc]
  exact k⟩
theorem sc_check_pattern : FnScope ["row", "beats"] ["row"] (defScope s_check_pattern) := ⟨rfl, rfl, rfl, by decide +kernel, rfl, by decide +kernel, by decide +kernel⟩
theorem ok_check_pattern {P : Program} {w : World} {K : PySem.W.Frag} {mg : Str → Option Value} {base : Heap} (T : TXT K mg) : OK P w K mg base "check_pattern" ["row"] 5 (sp_check_pattern K) := by
  have O_clash_of := ok_clash_of (P := P) (w := w) (base := base) T
  have O_Clash := ok_Clash (P := P) (w := w) (base := base) T
  obtain ⟨fd, F⟩ := T.def_ 6
  refine ⟨_, fd, T.glo 5, F.kp, F.bindsN (fun _ _ _ _ _ _ us hl => match us, hl with | [_], _ => rfl), F.ok sc_check_pattern (fun vs H Q E h => ?_) (fun cdv A outer s H vs Q E hr h => ?_), F.bindsA (fun _ _ _ _ _ _ us hl => match us, hl with | [_], _ => rfl)⟩
  · first | (obtain ⟨rfl, _⟩ := h; rfl) | (obtain ⟨_, rfl, _⟩ := h; rfl) | (obtain ⟨_, _, rfl, _⟩ := h; rfl) | (obtain ⟨_, _, _, rfl, _⟩ := h; rfl) | (obtain ⟨_, _, _, _, rfl, _⟩ := h; rfl) | (obtain ⟨_, _, _, _, _, rfl, _⟩ := h; rfl) | (obtain ⟨_, _, _, _, _, _, rfl, _⟩ := h; rfl) | (obtain ⟨_, _, _, _, _, _, _, rfl, _⟩ := h; rfl) | (obtain ⟨_, _, _, _, _, _, _, _, rfl, _⟩ := h; rfl)
  · replace F : FunD K "check_pattern" "check_pattern" (defArgs s_check_pattern) (defBody s_check_pattern) (defScope s_check_pattern) [] [] (He.ga K "check_pattern") fd := F
    refine ⟨_, (pss_cons (ps_set (i := 1) sc_check_pattern.nd rfl (Or.inl rfl) (pe_own O_clash_of (hr.mono (by decide)) (by rfl) (passes_call (takes_of rfl rfl rfl rfl) (fun _ _ _ _ h => h)) (pa_cons (pv 0) pa_nil)))
      (pss_one (ps_if (pt_cmpR op_notN (pv 1) pe_non (nomark _))
        (pss_one (ps_raise rfl (takes_of rfl rfl rfl rfl) (pmk_oexT O_Clash (hr.mono (by decide)) (pa_cons (pv 1) pa_nil))))
        pss_nil))), ?_⟩
    obtain ⟨v, o, rfl, hk, q⟩ := h
    dsimp only [cxOf, L2.start, List.map_cons, List.map_nil, List.length_cons, List.length_nil, Nat.reduceAdd, Nat.reduceSub, List.replicate_succ, List.replicate_zero, List.cons_append, List.nil_append, Nat.zero_add, List.reduceReplicate, List.map]
    by_cases ho : rowOk o = true
    case neg =>
      have ho : rowOk o = false := by simpa using ho
      unfold doorRe at q
      rw [ho] at q
      exact xq_asg (rz_call (by (repeat' (first | with_reducible exact ev_c | ((with_reducible show Ev (tVar _) _ _ _); exact ev_var rfl) | with_reducible exact ea_nil | with_reducible exact eo_none | with_reducible refine' ea_cons ?_ ?_ | with_reducible refine' eo_some ?_ | with_reducible refine' ev_and2 ?_ ?_ | with_reducible refine' ev_or2 ?_ ?_ | with_reducible refine' ev_notV ?_ | with_reducible exact ru_I | with_reducible refine' ev_un ?_ ?_ | with_reducible exact rv_I0 | with_reducible exact rv_isN | with_reducible exact rv_notN | with_reducible refine' rv_I ?_ | with_reducible refine' rv_eq ?_ | with_reducible refine' rv_ne ?_ | with_reducible refine' ev_op ?_ ?_ ?_ | with_reducible refine' ev_chain2 ?_ ?_ ?_ ?_ ?_ | with_reducible refine' et_B ?_ | with_reducible refine' et_test ?_ | with_reducible refine' et_and2 ?_ ?_ | with_reducible refine' et_or2 ?_ ?_ | with_reducible refine' et_not ?_ | with_reducible refine' ev_call ?_ ?_ | with_reducible refine' ev_callS ?_ ?_ | with_reducible refine' ev_cb ?_ ?_ | with_reducible exact isi_bool (by assumption) | with_reducible exact isi_int (by assumption) | with_reducible exact isi_list (by assumption) | with_reducible exact rc_len (by assumption) | with_reducible exact rc_sum (by assumption) | with_reducible exact rc_abs | with_reducible exact isi_listL (by assumption) | with_reducible exact isi_intI | with_reducible exact isi_boolI | with_reducible exact rc_lenT (by assumption) | with_reducible exact isi_tup (by assumption) | with_reducible exact rv_eqL (by assumption) (by assumption) | with_reducible exact rv_neL (by assumption) (by assumption) | with_reducible exact rv_neT (by assumption) (by assumption) | with_reducible exact rv_ixL (by assumption) (by assumption) | with_reducible exact rv_ixT (by assumption) (by assumption) | with_reducible refine' ev_din ?_ ?_ (by assumption) | with_reducible refine' ev_dnotin ?_ ?_ (by assumption) | with_reducible refine' ev_dget ?_ ?_ (by assumption) (by assumption) | ((with_reducible show SpV _ _ _ _); assumption) | ((with_reducible show RV _ _ _ _ _); assumption) | ((with_reducible show RC _ _ _ _); assumption) | ((with_reducible show CDiv _ _); exact ⟨by omega, by omega⟩) | ((with_reducible show CMul _ _); first | exact .inl ⟨by omega, by omega⟩ | exact .inr ⟨by omega, by omega⟩) | ((with_reducible show CPow _ _); exact ⟨by omega, by omega, by first | decide | assumption | omega⟩) | ((with_reducible show (0 : Int) < _); omega) | ((with_reducible show (0 : Int) ≤ _); omega) | ((with_reducible show scal _ _ = true); rfl)))) (sx_clash_of hk ho q))
    unfold doorRe at q
    rw [ho, if_pos rfl] at q
    cases hc : clashOf (rowsOf o) with
    | none =>
      unfold patRe at q
      rw [hc] at q
      have h1 := sv_clash_of (K := K) hk ho hc
      refine q_asg (v := .non) (by (repeat' (first | with_reducible exact ev_c | ((with_reducible show Ev (tVar _) _ _ _); exact ev_var rfl) | with_reducible exact ea_nil | with_reducible exact eo_none | with_reducible refine' ea_cons ?_ ?_ | with_reducible refine' eo_some ?_ | with_reducible refine' ev_and2 ?_ ?_ | with_reducible refine' ev_or2 ?_ ?_ | with_reducible refine' ev_notV ?_ | with_reducible exact ru_I | with_reducible refine' ev_un ?_ ?_ | with_reducible exact rv_I0 | with_reducible exact rv_isN | with_reducible exact rv_notN | with_reducible refine' rv_I ?_ | with_reducible refine' rv_eq ?_ | with_reducible refine' rv_ne ?_ | with_reducible refine' ev_op ?_ ?_ ?_ | with_reducible refine' ev_chain2 ?_ ?_ ?_ ?_ ?_ | with_reducible refine' et_B ?_ | with_reducible refine' et_test ?_ | with_reducible refine' et_and2 ?_ ?_ | with_reducible refine' et_or2 ?_ ?_ | with_reducible refine' et_not ?_ | with_reducible refine' ev_call ?_ ?_ | with_reducible refine' ev_callS ?_ ?_ | with_reducible refine' ev_cb ?_ ?_ | with_reducible exact isi_bool (by assumption) | with_reducible exact isi_int (by assumption) | with_reducible exact isi_list (by assumption) | with_reducible exact rc_len (by assumption) | with_reducible exact rc_sum (by assumption) | with_reducible exact rc_abs | with_reducible exact isi_listL (by assumption) | with_reducible exact isi_intI | with_reducible exact isi_boolI | with_reducible exact rc_lenT (by assumption) | with_reducible exact isi_tup (by assumption) | with_reducible exact rv_eqL (by assumption) (by assumption) | with_reducible exact rv_neL (by assumption) (by assumption) | with_reducible exact rv_neT (by assumption) (by assumption) | with_reducible exact rv_ixL (by assumption) (by assumption) | with_reducible exact rv_ixT (by assumption) (by assumption) | with_reducible refine' ev_din ?_ ?_ (by assumption) | with_reducible refine' ev_dnotin ?_ ?_ (by assumption) | with_reducible refine' ev_dget ?_ ?_ (by assumption) (by assumption) | ((with_reducible show SpV _ _ _ _); assumption) | ((with_reducible show RV _ _ _ _ _); assumption) | ((with_reducible show RC _ _ _ _); assumption) | ((with_reducible show CDiv _ _); exact ⟨by omega, by omega⟩) | ((with_reducible show CMul _ _); first | exact .inl ⟨by omega, by omega⟩ | exact .inr ⟨by omega, by omega⟩) | ((with_reducible show CPow _ _); exact ⟨by omega, by omega, by first | decide | assumption | omega⟩) | ((with_reducible show (0 : Int) < _); omega) | ((with_reducible show (0 : Int) ≤ _); omega) | ((with_reducible show scal _ _ = true); rfl)))) fun H1 e1 => ?_
      exact s_when (b := false) (by apply et_is; (focus ((repeat' (first | with_reducible exact ev_c | ((with_reducible show Ev (tVar _) _ _ _); exact ev_var rfl) | with_reducible exact ea_nil | with_reducible exact eo_none | with_reducible refine' ea_cons ?_ ?_ | with_reducible refine' eo_some ?_ | with_reducible refine' ev_and2 ?_ ?_ | with_reducible refine' ev_or2 ?_ ?_ | with_reducible refine' ev_notV ?_ | with_reducible exact ru_I | with_reducible refine' ev_un ?_ ?_ | with_reducible exact rv_I0 | with_reducible exact rv_isN | with_reducible exact rv_notN | with_reducible refine' rv_I ?_ | with_reducible refine' rv_eq ?_ | with_reducible refine' rv_ne ?_ | with_reducible refine' ev_op ?_ ?_ ?_ | with_reducible refine' ev_chain2 ?_ ?_ ?_ ?_ ?_ | with_reducible refine' et_B ?_ | with_reducible refine' et_test ?_ | with_reducible refine' et_and2 ?_ ?_ | with_reducible refine' et_or2 ?_ ?_ | with_reducible refine' et_not ?_ | with_reducible refine' ev_call ?_ ?_ | with_reducible refine' ev_callS ?_ ?_ | with_reducible refine' ev_cb ?_ ?_ | with_reducible exact isi_bool (by assumption) | with_reducible exact isi_int (by assumption) | with_reducible exact isi_list (by assumption) | with_reducible exact rc_len (by assumption) | with_reducible exact rc_sum (by assumption) | with_reducible exact rc_abs | with_reducible exact isi_listL (by assumption) | with_reducible exact isi_intI | with_reducible exact isi_boolI | with_reducible exact rc_lenT (by assumption) | with_reducible exact isi_tup (by assumption) | with_reducible exact rv_eqL (by assumption) (by assumption) | with_reducible exact rv_neL (by assumption) (by assumption) | with_reducible exact rv_neT (by assumption) (by assumption) | with_reducible exact rv_ixL (by assumption) (by assumption) | with_reducible exact rv_ixT (by assumption) (by assumption) | with_reducible refine' ev_din ?_ ?_ (by assumption) | with_reducible refine' ev_dnotin ?_ ?_ (by assumption) | with_reducible refine' ev_dget ?_ ?_ (by assumption) (by assumption) | ((with_reducible show SpV _ _ _ _); assumption) | ((with_reducible show RV _ _ _ _ _); assumption) | ((with_reducible show RC _ _ _ _); assumption) | ((with_reducible show CDiv _ _); exact ⟨by omega, by omega⟩) | ((with_reducible show CMul _ _); first | exact .inl ⟨by omega, by omega⟩ | exact .inr ⟨by omega, by omega⟩) | ((with_reducible show CPow _ _); exact ⟨by omega, by omega, by first | decide | assumption | omega⟩) | ((with_reducible show (0 : Int) < _); omega) | ((with_reducible show (0 : Int) ≤ _); omega) | ((with_reducible show scal _ _ = true); rfl))))); rfl) (fun hb => nomatch hb) fun _ H2 e2 => q H2 (e1.trans e2)
    | some ij =>
      obtain ⟨i, j⟩ := ij
      unfold patRe at q
      rw [hc] at q
      refine q_asgU (xs := [.int (i : Int), .int (j : Int)]) (eu_call (by (repeat' (first | with_reducible exact ev_c | ((with_reducible show Ev (tVar _) _ _ _); exact ev_var rfl) | with_reducible exact ea_nil | with_reducible exact eo_none | with_reducible refine' ea_cons ?_ ?_ | with_reducible refine' eo_some ?_ | with_reducible refine' ev_and2 ?_ ?_ | with_reducible refine' ev_or2 ?_ ?_ | with_reducible refine' ev_notV ?_ | with_reducible exact ru_I | with_reducible refine' ev_un ?_ ?_ | with_reducible exact rv_I0 | with_reducible exact rv_isN | with_reducible exact rv_notN | with_reducible refine' rv_I ?_ | with_reducible refine' rv_eq ?_ | with_reducible refine' rv_ne ?_ | with_reducible refine' ev_op ?_ ?_ ?_ | with_reducible refine' ev_chain2 ?_ ?_ ?_ ?_ ?_ | with_reducible refine' et_B ?_ | with_reducible refine' et_test ?_ | with_reducible refine' et_and2 ?_ ?_ | with_reducible refine' et_or2 ?_ ?_ | with_reducible refine' et_not ?_ | with_reducible refine' ev_call ?_ ?_ | with_reducible refine' ev_callS ?_ ?_ | with_reducible refine' ev_cb ?_ ?_ | with_reducible exact isi_bool (by assumption) | with_reducible exact isi_int (by assumption) | with_reducible exact isi_list (by assumption) | with_reducible exact rc_len (by assumption) | with_reducible exact rc_sum (by assumption) | with_reducible exact rc_abs | with_reducible exact isi_listL (by assumption) | with_reducible exact isi_intI | with_reducible exact isi_boolI | with_reducible exact rc_lenT (by assumption) | with_reducible exact isi_tup (by assumption) | with_reducible exact rv_eqL (by assumption) (by assumption) | with_reducible exact rv_neL (by assumption) (by assumption) | with_reducible exact rv_neT (by assumption) (by assumption) | with_reducible exact rv_ixL (by assumption) (by assumption) | with_reducible exact rv_ixT (by assumption) (by assumption) | with_reducible refine' ev_din ?_ ?_ (by assumption) | with_reducible refine' ev_dnotin ?_ ?_ (by assumption) | with_reducible refine' ev_dget ?_ ?_ (by assumption) (by assumption) | ((with_reducible show SpV _ _ _ _); assumption) | ((with_reducible show RV _ _ _ _ _); assumption) | ((with_reducible show RC _ _ _ _); assumption) | ((with_reducible show CDiv _ _); exact ⟨by omega, by omega⟩) | ((with_reducible show CMul _ _); first | exact .inl ⟨by omega, by omega⟩ | exact .inr ⟨by omega, by omega⟩) | ((with_reducible show CPow _ _); exact ⟨by omega, by omega, by first | decide | assumption | omega⟩) | ((with_reducible show (0 : Int) < _); omega) | ((with_reducible show (0 : Int) ≤ _); omega) | ((with_reducible show scal _ _ = true); rfl)))) (su_clash_of (K := K) hk ho hc)) fun p H1 hp e1 h1 => ?_
      refine s_when (b := true) (by apply et_is; (focus ((repeat' (first | with_reducible exact ev_c | ((with_reducible show Ev (tVar _) _ _ _); exact ev_var rfl) | with_reducible exact ea_nil | with_reducible exact eo_none | with_reducible refine' ea_cons ?_ ?_ | with_reducible refine' eo_some ?_ | with_reducible refine' ev_and2 ?_ ?_ | with_reducible refine' ev_or2 ?_ ?_ | with_reducible refine' ev_notV ?_ | with_reducible exact ru_I | with_reducible refine' ev_un ?_ ?_ | with_reducible exact rv_I0 | with_reducible exact rv_isN | with_reducible exact rv_notN | with_reducible refine' rv_I ?_ | with_reducible refine' rv_eq ?_ | with_reducible refine' rv_ne ?_ | with_reducible refine' ev_op ?_ ?_ ?_ | with_reducible refine' ev_chain2 ?_ ?_ ?_ ?_ ?_ | with_reducible refine' et_B ?_ | with_reducible refine' et_test ?_ | with_reducible refine' et_and2 ?_ ?_ | with_reducible refine' et_or2 ?_ ?_ | with_reducible refine' et_not ?_ | with_reducible refine' ev_call ?_ ?_ | with_reducible refine' ev_callS ?_ ?_ | with_reducible refine' ev_cb ?_ ?_ | with_reducible exact isi_bool (by assumption) | with_reducible exact isi_int (by assumption) | with_reducible exact isi_list (by assumption) | with_reducible exact rc_len (by assumption) | with_reducible exact rc_sum (by assumption) | with_reducible exact rc_abs | with_reducible exact isi_listL (by assumption) | with_reducible exact isi_intI | with_reducible exact isi_boolI | with_reducible exact rc_lenT (by assumption) | with_reducible exact isi_tup (by assumption) | with_reducible exact rv_eqL (by assumption) (by assumption) | with_reducible exact rv_neL (by assumption) (by assumption) | with_reducible exact rv_neT (by assumption) (by assumption) | with_reducible exact rv_ixL (by assumption) (by assumption) | with_reducible exact rv_ixT (by assumption) (by assumption) | with_reducible refine' ev_din ?_ ?_ (by assumption) | with_reducible refine' ev_dnotin ?_ ?_ (by assumption) | with_reducible refine' ev_dget ?_ ?_ (by assumption) (by assumption) | ((with_reducible show SpV _ _ _ _); assumption) | ((with_reducible show RV _ _ _ _ _); assumption) | ((with_reducible show RC _ _ _ _); assumption) | ((with_reducible show CDiv _ _); exact ⟨by omega, by omega⟩) | ((with_reducible show CMul _ _); first | exact .inl ⟨by omega, by omega⟩ | exact .inr ⟨by omega, by omega⟩) | ((with_reducible show CPow _ _); exact ⟨by omega, by omega, by first | decide | assumption | omega⟩) | ((with_reducible show (0 : Int) < _); omega) | ((with_reducible show (0 : Int) ≤ _); omega) | ((with_reducible show scal _ _ = true); rfl))))); rfl) (fun _ H2 e2 => ?_) (fun hb => nomatch hb)
      exact raise_clash (b := p) (i := (i : Int)) (j := (j : Int)) (by (repeat' (first | with_reducible exact ev_c | ((with_reducible show Ev (tVar _) _ _ _); exact ev_var rfl) | with_reducible exact ea_nil | with_reducible exact eo_none | with_reducible refine' ea_cons ?_ ?_ | with_reducible refine' eo_some ?_ | with_reducible refine' ev_and2 ?_ ?_ | with_reducible refine' ev_or2 ?_ ?_ | with_reducible refine' ev_notV ?_ | with_reducible exact ru_I | with_reducible refine' ev_un ?_ ?_ | with_reducible exact rv_I0 | with_reducible exact rv_isN | with_reducible exact rv_notN | with_reducible refine' rv_I ?_ | with_reducible refine' rv_eq ?_ | with_reducible refine' rv_ne ?_ | with_reducible refine' ev_op ?_ ?_ ?_ | with_reducible refine' ev_chain2 ?_ ?_ ?_ ?_ ?_ | with_reducible refine' et_B ?_ | with_reducible refine' et_test ?_ | with_reducible refine' et_and2 ?_ ?_ | with_reducible refine' et_or2 ?_ ?_ | with_reducible refine' et_not ?_ | with_reducible refine' ev_call ?_ ?_ | with_reducible refine' ev_callS ?_ ?_ | with_reducible refine' ev_cb ?_ ?_ | with_reducible exact isi_bool (by assumption) | with_reducible exact isi_int (by assumption) | with_reducible exact isi_list (by assumption) | with_reducible exact rc_len (by assumption) | with_reducible exact rc_sum (by assumption) | with_reducible exact rc_abs | with_reducible exact isi_listL (by assumption) | with_reducible exact isi_intI | with_reducible exact isi_boolI | with_reducible exact rc_lenT (by assumption) | with_reducible exact isi_tup (by assumption) | with_reducible exact rv_eqL (by assumption) (by assumption) | with_reducible exact rv_neL (by assumption) (by assumption) | with_reducible exact rv_neT (by assumption) (by assumption) | with_reducible exact rv_ixL (by assumption) (by assumption) | with_reducible exact rv_ixT (by assumption) (by assumption) | with_reducible refine' ev_din ?_ ?_ (by assumption) | with_reducible refine' ev_dnotin ?_ ?_ (by assumption) | with_reducible refine' ev_dget ?_ ?_ (by assumption) (by assumption) | ((with_reducible show SpV _ _ _ _); assumption) | ((with_reducible show RV _ _ _ _ _); assumption) | ((with_reducible show RC _ _ _ _); assumption) | ((with_reducible show CDiv _ _); exact ⟨by omega, by omega⟩) | ((with_reducible show CMul _ _); first | exact .inl ⟨by omega, by omega⟩ | exact .inr ⟨by omega, by omega⟩) | ((with_reducible show CPow _ _); exact ⟨by omega, by omega, by first | decide | assumption | omega⟩) | ((with_reducible show (0 : Int) < _); omega) | ((with_reducible show (0 : Int) ≤ _); omega) | ((with_reducible show scal _ _ = true); rfl)))) (e2 _ _ h1) fun H3 d p' hd e3 h3 h4 => q H3 d p' (fresh_back (e1.trans e2) hd) ((e1.trans e2).trans e3) h3 h4

/-- what a def that is handed a row does with what is no pattern: check_pattern's refusals, for a body that begins by it -/
theorem sv_check_pattern {K : PySem.W.Frag} {H : Hp} {v : V} {o : Option (List V)} (hk : Row H v o) (h : rowOk o = true) (hc : clashOf (rowsOf o) = none) : SpV (sp_check_pattern K) [v] H .non := spv_of fun H1 e Q E k => ⟨v, o, rfl, hk.mono e, by
  unfold doorRe patRe
  rw [h, if_pos rfl, hc]
  exact k⟩
theorem sx_check_pattern {K : PySem.W.Frag} {H : Hp} {v : V} {o : Option (List V)} {E : XK} {Q0 : VK} {f : List Int → Re} (hk : Row H v o) (q : Give K (doorRe o f) H Q0 E) (h : ¬ (rowOk o = true ∧ clashOf (rowsOf o) = none)) : ∀ H1, Ex H H1 → ∀ Q : VK, sp_check_pattern K [v] H1 Q E := fun H1 e Q => ⟨v, o, rfl, hk.mono e, by
  have q1 := Give.mono e q
  unfold doorRe patRe at q1 ⊢
  by_cases ho : rowOk o = true
  · rw [ho, if_pos rfl] at q1 ⊢
    cases hc : clashOf (rowsOf o) with
    | none => exact absurd ⟨ho, hc⟩ h
    | some ij =>
      rw [hc] at q1
      exact q1
  · rw [if_neg ho] at q1 ⊢
    exact q1⟩
/-- the row that a pattern's door goes on with -/
theorem door_go {K : PySem.W.Frag} {H : Hp} {v : V} {o : Option (List V)} {E : XK} {Q : VK} {f : List Int → Re} (hk : Row H v o) (q : Give K (doorRe o f) H Q E) (h : rowOk o = true ∧ clashOf (rowsOf o) = none) :
    ∃ a ns, v = .ref a ∧ o = some (ns.map V.int) ∧ H a = some (.lst (ns.map V.int)) ∧ RowI ns ∧ clashOf ns = none ∧ Give K (f ns) H Q E := by
  obtain ⟨ho, hc⟩ := h
  obtain ⟨ns, rfl, hn⟩ := row_ints ho
  have hl := hk.ls
  cases hl with
  | lst h =>
    unfold doorRe patRe at q
    rw [ho, if_pos rfl, hc] at q
    rw [rowsOf_some] at q hc
    exact ⟨_, ns, rfl, rfl, h, hn, hc, q⟩
theorem sc_balls_of : FnScope ["pattern"] ["pattern"] (defScope s_balls_of) := ⟨rfl, rfl, rfl, by decide +kernel, rfl, by decide +kernel, by decide +kernel⟩
theorem ok_balls_of {P : Program} {w : World} {K : PySem.W.Frag} {mg : Str → Option Value} {base : Heap} (T : TXT K mg) : OK P w K mg base "balls_of" ["pattern"] 6 (sp_balls_of K) := by
  have O_check_pattern := ok_check_pattern (P := P) (w := w) (base := base) T
  obtain ⟨fd, F⟩ := T.def_ 7
  refine ⟨_, fd, T.glo 6, F.kp, F.bindsN (fun _ _ _ _ _ _ us hl => match us, hl with | [_], _ => rfl), F.ok sc_balls_of (fun vs H Q E h => ?_) (fun cdv A outer s H vs Q E hr h => ?_), F.bindsA (fun _ _ _ _ _ _ us hl => match us, hl with | [_], _ => rfl)⟩
  · first | (obtain ⟨rfl, _⟩ := h; rfl) | (obtain ⟨_, rfl, _⟩ := h; rfl) | (obtain ⟨_, _, rfl, _⟩ := h; rfl) | (obtain ⟨_, _, _, rfl, _⟩ := h; rfl) | (obtain ⟨_, _, _, _, rfl, _⟩ := h; rfl) | (obtain ⟨_, _, _, _, _, rfl, _⟩ := h; rfl) | (obtain ⟨_, _, _, _, _, _, rfl, _⟩ := h; rfl) | (obtain ⟨_, _, _, _, _, _, _, rfl, _⟩ := h; rfl) | (obtain ⟨_, _, _, _, _, _, _, _, rfl, _⟩ := h; rfl)
  · replace F : FunD K "balls_of" "balls_of" (defArgs s_balls_of) (defBody s_balls_of) (defScope s_balls_of) [] [] (He.ga K "balls_of") fd := F
    refine ⟨_, (pss_cons (ps_expr (pe_own O_check_pattern (hr.mono (by decide)) (by rfl) (passes_call (takes_of rfl rfl rfl rfl) (fun _ _ _ _ h => h)) (pa_cons (pv 0) pa_nil)))
      (pss_one (ps_ret (pe_op op_fdiv (pe_callB (id := "sum") (k_sum K rfl) (by rfl) (T.free 46) (by decide +kernel) (pa_cons (pv 0) pa_nil)) (pe_callB (id := "len") (k_len K) (by rfl) (T.free 43) (by decide +kernel) (pa_cons (pv 0) pa_nil)))))), ?_⟩
    obtain ⟨v, o, rfl, hk, q⟩ := h
    dsimp only [cxOf, L2.start, List.map_cons, List.map_nil, List.length_cons, List.length_nil, Nat.reduceAdd, Nat.reduceSub, List.replicate_succ, List.replicate_zero, List.cons_append, List.nil_append, Nat.zero_add, List.reduceReplicate, List.map]
    by_cases hg : rowOk o = true ∧ clashOf (rowsOf o) = none
    case neg => exact xq_drop (rz_call (by (repeat' (first | with_reducible exact ev_c | ((with_reducible show Ev (tVar _) _ _ _); exact ev_var rfl) | with_reducible exact ea_nil | with_reducible exact eo_none | with_reducible refine' ea_cons ?_ ?_ | with_reducible refine' eo_some ?_ | with_reducible refine' ev_and2 ?_ ?_ | with_reducible refine' ev_or2 ?_ ?_ | with_reducible refine' ev_notV ?_ | with_reducible exact ru_I | with_reducible refine' ev_un ?_ ?_ | with_reducible exact rv_I0 | with_reducible exact rv_isN | with_reducible exact rv_notN | with_reducible refine' rv_I ?_ | with_reducible refine' rv_eq ?_ | with_reducible refine' rv_ne ?_ | with_reducible refine' ev_op ?_ ?_ ?_ | with_reducible refine' ev_chain2 ?_ ?_ ?_ ?_ ?_ | with_reducible refine' et_B ?_ | with_reducible refine' et_test ?_ | with_reducible refine' et_and2 ?_ ?_ | with_reducible refine' et_or2 ?_ ?_ | with_reducible refine' et_not ?_ | with_reducible refine' ev_call ?_ ?_ | with_reducible refine' ev_callS ?_ ?_ | with_reducible refine' ev_cb ?_ ?_ | with_reducible exact isi_bool (by assumption) | with_reducible exact isi_int (by assumption) | with_reducible exact isi_list (by assumption) | with_reducible exact rc_len (by assumption) | with_reducible exact rc_sum (by assumption) | with_reducible exact rc_abs | with_reducible exact isi_listL (by assumption) | with_reducible exact isi_intI | with_reducible exact isi_boolI | with_reducible exact rc_lenT (by assumption) | with_reducible exact isi_tup (by assumption) | with_reducible exact rv_eqL (by assumption) (by assumption) | with_reducible exact rv_neL (by assumption) (by assumption) | with_reducible exact rv_neT (by assumption) (by assumption) | with_reducible exact rv_ixL (by assumption) (by assumption) | with_reducible exact rv_ixT (by assumption) (by assumption) | with_reducible refine' ev_din ?_ ?_ (by assumption) | with_reducible refine' ev_dnotin ?_ ?_ (by assumption) | with_reducible refine' ev_dget ?_ ?_ (by assumption) (by assumption) | ((with_reducible show SpV _ _ _ _); assumption) | ((with_reducible show RV _ _ _ _ _); assumption) | ((with_reducible show RC _ _ _ _); assumption) | ((with_reducible show CDiv _ _); exact ⟨by omega, by omega⟩) | ((with_reducible show CMul _ _); first | exact .inl ⟨by omega, by omega⟩ | exact .inr ⟨by omega, by omega⟩) | ((with_reducible show CPow _ _); exact ⟨by omega, by omega, by first | decide | assumption | omega⟩) | ((with_reducible show (0 : Int) < _); omega) | ((with_reducible show (0 : Int) ≤ _); omega) | ((with_reducible show scal _ _ = true); rfl)))) (sx_check_pattern hk q hg))
    have hcp := sv_check_pattern (K := K) hk hg.1 hg.2
    obtain ⟨a, ns, rfl, rfl, ha, ⟨h1, h2, h3⟩, hc, q⟩ := door_go hk q hg
    refine q_drop (v := .non) (by (repeat' (first | with_reducible exact ev_c | ((with_reducible show Ev (tVar _) _ _ _); exact ev_var rfl) | with_reducible exact ea_nil | with_reducible exact eo_none | with_reducible refine' ea_cons ?_ ?_ | with_reducible refine' eo_some ?_ | with_reducible refine' ev_and2 ?_ ?_ | with_reducible refine' ev_or2 ?_ ?_ | with_reducible refine' ev_notV ?_ | with_reducible exact ru_I | with_reducible refine' ev_un ?_ ?_ | with_reducible exact rv_I0 | with_reducible exact rv_isN | with_reducible exact rv_notN | with_reducible refine' rv_I ?_ | with_reducible refine' rv_eq ?_ | with_reducible refine' rv_ne ?_ | with_reducible refine' ev_op ?_ ?_ ?_ | with_reducible refine' ev_chain2 ?_ ?_ ?_ ?_ ?_ | with_reducible refine' et_B ?_ | with_reducible refine' et_test ?_ | with_reducible refine' et_and2 ?_ ?_ | with_reducible refine' et_or2 ?_ ?_ | with_reducible refine' et_not ?_ | with_reducible refine' ev_call ?_ ?_ | with_reducible refine' ev_callS ?_ ?_ | with_reducible refine' ev_cb ?_ ?_ | with_reducible exact isi_bool (by assumption) | with_reducible exact isi_int (by assumption) | with_reducible exact isi_list (by assumption) | with_reducible exact rc_len (by assumption) | with_reducible exact rc_sum (by assumption) | with_reducible exact rc_abs | with_reducible exact isi_listL (by assumption) | with_reducible exact isi_intI | with_reducible exact isi_boolI | with_reducible exact rc_lenT (by assumption) | with_reducible exact isi_tup (by assumption) | with_reducible exact rv_eqL (by assumption) (by assumption) | with_reducible exact rv_neL (by assumption) (by assumption) | with_reducible exact rv_neT (by assumption) (by assumption) | with_reducible exact rv_ixL (by assumption) (by assumption) | with_reducible exact rv_ixT (by assumption) (by assumption) | with_reducible refine' ev_din ?_ ?_ (by assumption) | with_reducible refine' ev_dnotin ?_ ?_ (by assumption) | with_reducible refine' ev_dget ?_ ?_ (by assumption) (by assumption) | ((with_reducible show SpV _ _ _ _); assumption) | ((with_reducible show RV _ _ _ _ _); assumption) | ((with_reducible show RC _ _ _ _); assumption) | ((with_reducible show CDiv _ _); exact ⟨by omega, by omega⟩) | ((with_reducible show CMul _ _); first | exact .inl ⟨by omega, by omega⟩ | exact .inr ⟨by omega, by omega⟩) | ((with_reducible show CPow _ _); exact ⟨by omega, by omega, by first | decide | assumption | omega⟩) | ((with_reducible show (0 : Int) < _); omega) | ((with_reducible show (0 : Int) ≤ _); omega) | ((with_reducible show scal _ _ = true); rfl)))) fun H1 e1 => ?_
    have hs1 : SqL K H1 a (ns.map V.int) := ex_l e1 (sq_of ha)
    refine s_ret (v := .int (ns.sum / (ns.length : Int))) ?_ fun H2 e2 => q H2 (e1.trans e2)
    apply ev_is
    · (repeat' (first | with_reducible exact ev_c | ((with_reducible show Ev (tVar _) _ _ _); exact ev_var rfl) | with_reducible exact ea_nil | with_reducible exact eo_none | with_reducible refine' ea_cons ?_ ?_ | with_reducible refine' eo_some ?_ | with_reducible refine' ev_and2 ?_ ?_ | with_reducible refine' ev_or2 ?_ ?_ | with_reducible refine' ev_notV ?_ | with_reducible exact ru_I | with_reducible refine' ev_un ?_ ?_ | with_reducible exact rv_I0 | with_reducible exact rv_isN | with_reducible exact rv_notN | with_reducible refine' rv_I ?_ | with_reducible refine' rv_eq ?_ | with_reducible refine' rv_ne ?_ | with_reducible refine' ev_op ?_ ?_ ?_ | with_reducible refine' ev_chain2 ?_ ?_ ?_ ?_ ?_ | with_reducible refine' et_B ?_ | with_reducible refine' et_test ?_ | with_reducible refine' et_and2 ?_ ?_ | with_reducible refine' et_or2 ?_ ?_ | with_reducible refine' et_not ?_ | with_reducible refine' ev_call ?_ ?_ | with_reducible refine' ev_callS ?_ ?_ | with_reducible refine' ev_cb ?_ ?_ | with_reducible exact isi_bool (by assumption) | with_reducible exact isi_int (by assumption) | with_reducible exact isi_list (by assumption) | with_reducible exact rc_len (by assumption) | with_reducible exact rc_sum (by assumption) | with_reducible exact rc_abs | with_reducible exact isi_listL (by assumption) | with_reducible exact isi_intI | with_reducible exact isi_boolI | with_reducible exact rc_lenT (by assumption) | with_reducible exact isi_tup (by assumption) | with_reducible exact rv_eqL (by assumption) (by assumption) | with_reducible exact rv_neL (by assumption) (by assumption) | with_reducible exact rv_neT (by assumption) (by assumption) | with_reducible exact rv_ixL (by assumption) (by assumption) | with_reducible exact rv_ixT (by assumption) (by assumption) | with_reducible refine' ev_din ?_ ?_ (by assumption) | with_reducible refine' ev_dnotin ?_ ?_ (by assumption) | with_reducible refine' ev_dget ?_ ?_ (by assumption) (by assumption) | ((with_reducible show SpV _ _ _ _); assumption) | ((with_reducible show RV _ _ _ _ _); assumption) | ((with_reducible show RC _ _ _ _); assumption) | ((with_reducible show CDiv _ _); exact ⟨by omega, by omega⟩) | ((with_reducible show CMul _ _); first | exact .inl ⟨by omega, by omega⟩ | exact .inr ⟨by omega, by omega⟩) | ((with_reducible show CPow _ _); exact ⟨by omega, by omega, by first | decide | assumption | omega⟩) | ((with_reducible show (0 : Int) < _); omega) | ((with_reducible show (0 : Int) ≤ _); omega) | ((with_reducible show scal _ _ = true); rfl)))
      rw [List.length_map]
      exact ⟨by omega, by omega⟩
    · rw [List.length_map]

end TB

/-! ### even, kept, turned, lifted -/
namespace TB
open PySem PySem.Spec PyProof.Rows L2 Evl
abbrev inM (v : V) : Bool := inB v (-1000000) 1000000
theorem sv_check_number {K : PySem.W.Frag} {H : Hp} {v : V} (hk : Kd H v) (h : inM v = true) : SpV (sp_check_number K) [v] H .non := spv_of fun H1 e Q E k => ⟨v, rfl, hk.mono e, by
  rw [show inB v (-1000000) 1000000 = true from h]
  exact k⟩
theorem sx_check_number {K : PySem.W.Frag} {H : Hp} {v : V} {E : XK} (hk : Kd H v) (h : inM v = false) (he : ∀ H2, Ex H H2 → E (.ref (He.ga K "OutOfBounds")) none H2) : ∀ H1, Ex H H1 → ∀ Q : VK, sp_check_number K [v] H1 Q E := fun H1 e Q => ⟨v, rfl, hk.mono e, by
  rw [show inB v (-1000000) 1000000 = false from h]
  exact fun H2 e2 => he H2 (e.trans e2)⟩
def evenRe (x y : V) : Re := if inB x 1 60 then (if inM y then .lst (match x with
  | .int n => List.replicate n.toNat y
  | _ => []) else .err "OutOfBounds") else .err "OutOfBounds"
def sp_even (K : PySem.W.Frag) : Sp := fun vs H Q E => ∃ x y, vs = [x, y] ∧ Kd H x ∧ Kd H y ∧ Give K (evenRe x y) H Q E
def allM (ns : List Int) : Bool := ns.all fun n => decide (-1000000 ≤ n) && decide (n ≤ 1000000)
def sp_kept (K : PySem.W.Frag) : Sp := fun vs H Q E => ∃ p ns, vs = [.ref p] ∧ H p = some (.lst (ns.map V.int)) ∧ Give K (if allM ns then .val (.ref p) else .err "OutOfBounds") H Q E
theorem sc_kept : FnScope ["row", "one"] ["row"] (defScope s_kept) := ⟨rfl, rfl, rfl, by decide +kernel, rfl, by decide +kernel, by decide +kernel⟩
theorem ok_kept {P : Program} {w : World} {K : PySem.W.Frag} {mg : Str → Option Value} {base : Heap} (T : TXT K mg) : OK P w K mg base "kept" ["row"] 4 (sp_kept K) := by
  have O_check_number := ok_check_number (P := P) (w := w) (base := base) T
  obtain ⟨fd, F⟩ := T.def_ 8
  refine ⟨_, fd, T.glo 7, F.kp, F.bindsN (fun _ _ _ _ _ _ us hl => match us, hl with | [_], _ => rfl), F.ok sc_kept (fun vs H Q E h => ?_) (fun cdv A outer s H vs Q E hr h => ?_), F.bindsA (fun _ _ _ _ _ _ us hl => match us, hl with | [_], _ => rfl)⟩
  · first | (obtain ⟨rfl, _⟩ := h; rfl) | (obtain ⟨_, rfl, _⟩ := h; rfl) | (obtain ⟨_, _, rfl, _⟩ := h; rfl) | (obtain ⟨_, _, _, rfl, _⟩ := h; rfl) | (obtain ⟨_, _, _, _, rfl, _⟩ := h; rfl) | (obtain ⟨_, _, _, _, _, rfl, _⟩ := h; rfl) | (obtain ⟨_, _, _, _, _, _, rfl, _⟩ := h; rfl) | (obtain ⟨_, _, _, _, _, _, _, rfl, _⟩ := h; rfl) | (obtain ⟨_, _, _, _, _, _, _, _, rfl, _⟩ := h; rfl)
  · replace F : FunD K "kept" "kept" (defArgs s_kept) (defBody s_kept) (defScope s_kept) [] [] (He.ga K "kept") fd := F
    refine ⟨_, (pss_cons (ps_for (passes_of rfl) rfl (k_piL K (pv 0)) (pg_name (i := 1) sc_kept.nd rfl (Or.inl rfl))
        (pss_one (ps_expr (pe_own O_check_number (hr.mono (by decide)) (by rfl) (passes_call (takes_of rfl rfl rfl rfl) (fun _ _ _ _ h => h)) (pa_cons (pv 1) pa_nil)))))
      (pss_one (ps_ret (pv 0)))), ?_⟩
    obtain ⟨p, ns, rfl, hp, q⟩ := h
    dsimp only [cxOf, L2.start, List.map_cons, List.map_nil, List.length_cons, List.length_nil, Nat.reduceAdd, Nat.reduceSub, List.replicate_succ, List.replicate_zero, List.cons_append, List.nil_append, Nat.zero_add, List.reduceReplicate, List.map]
    have hs : SqL K H p (ns.map V.int) := sq_of hp
    refine q_forLn (xs := ns.map V.int) (by (repeat' (first | with_reducible exact ev_c | ((with_reducible show Ev (tVar _) _ _ _); exact ev_var rfl) | with_reducible exact ea_nil | with_reducible exact eo_none | with_reducible refine' ea_cons ?_ ?_ | with_reducible refine' eo_some ?_ | with_reducible refine' ev_and2 ?_ ?_ | with_reducible refine' ev_or2 ?_ ?_ | with_reducible refine' ev_notV ?_ | with_reducible exact ru_I | with_reducible refine' ev_un ?_ ?_ | with_reducible exact rv_I0 | with_reducible exact rv_isN | with_reducible exact rv_notN | with_reducible refine' rv_I ?_ | with_reducible refine' rv_eq ?_ | with_reducible refine' rv_ne ?_ | with_reducible refine' ev_op ?_ ?_ ?_ | with_reducible refine' ev_chain2 ?_ ?_ ?_ ?_ ?_ | with_reducible refine' et_B ?_ | with_reducible refine' et_test ?_ | with_reducible refine' et_and2 ?_ ?_ | with_reducible refine' et_or2 ?_ ?_ | with_reducible refine' et_not ?_ | with_reducible refine' ev_call ?_ ?_ | with_reducible refine' ev_callS ?_ ?_ | with_reducible refine' ev_cb ?_ ?_ | with_reducible exact isi_bool (by assumption) | with_reducible exact isi_int (by assumption) | with_reducible exact isi_list (by assumption) | with_reducible exact rc_len (by assumption) | with_reducible exact rc_sum (by assumption) | with_reducible exact rc_abs | with_reducible exact isi_listL (by assumption) | with_reducible exact isi_intI | with_reducible exact isi_boolI | with_reducible exact rc_lenT (by assumption) | with_reducible exact isi_tup (by assumption) | with_reducible exact rv_eqL (by assumption) (by assumption) | with_reducible exact rv_neL (by assumption) (by assumption) | with_reducible exact rv_neT (by assumption) (by assumption) | with_reducible exact rv_ixL (by assumption) (by assumption) | with_reducible exact rv_ixT (by assumption) (by assumption) | with_reducible refine' ev_din ?_ ?_ (by assumption) | with_reducible refine' ev_dnotin ?_ ?_ (by assumption) | with_reducible refine' ev_dget ?_ ?_ (by assumption) (by assumption) | ((with_reducible show SpV _ _ _ _); assumption) | ((with_reducible show RV _ _ _ _ _); assumption) | ((with_reducible show RC _ _ _ _); assumption) | ((with_reducible show CDiv _ _); exact ⟨by omega, by omega⟩) | ((with_reducible show CMul _ _); first | exact .inl ⟨by omega, by omega⟩ | exact .inr ⟨by omega, by omega⟩) | ((with_reducible show CPow _ _); exact ⟨by omega, by omega, by first | decide | assumption | omega⟩) | ((with_reducible show (0 : Int) < _); omega) | ((with_reducible show (0 : Int) ≤ _); omega) | ((with_reducible show scal _ _ = true); rfl)))) hs (fun i σ' H' => ∃ y1, σ' = [some (V.ref p), y1] ∧ Ex H H' ∧ ((ns.take i).all fun n => decide (-1000000 ≤ n) && decide (n ≤ 1000000)) = true) (fun H1 e1 => ⟨_, rfl, e1, rfl⟩) (fun i σ' H' _ ⟨_, _, e, _⟩ => ex_l e hs) ?_ ?_
    · rintro i x σ' H' hi ⟨y1, rfl, e1, hall⟩
      rw [List.getElem?_map] at hi
      obtain ⟨n, hn, rfl⟩ := Option.map_eq_some_iff.mp hi
      have ht : ns.take (i + 1) = ns.take i ++ [n] := by rw [List.take_add_one, hn]; rfl
      by_cases hb : (decide (-1000000 ≤ n) && decide (n ≤ 1000000)) = true
      · have z := sv_check_number (K := K) (H := H') (.int n) hb
        refine s_drop (v := .non) (by (repeat' (first | with_reducible exact ev_c | ((with_reducible show Ev (tVar _) _ _ _); exact ev_var rfl) | with_reducible exact ea_nil | with_reducible exact eo_none | with_reducible refine' ea_cons ?_ ?_ | with_reducible refine' eo_some ?_ | with_reducible refine' ev_and2 ?_ ?_ | with_reducible refine' ev_or2 ?_ ?_ | with_reducible refine' ev_notV ?_ | with_reducible exact ru_I | with_reducible refine' ev_un ?_ ?_ | with_reducible exact rv_I0 | with_reducible exact rv_isN | with_reducible exact rv_notN | with_reducible refine' rv_I ?_ | with_reducible refine' rv_eq ?_ | with_reducible refine' rv_ne ?_ | with_reducible refine' ev_op ?_ ?_ ?_ | with_reducible refine' ev_chain2 ?_ ?_ ?_ ?_ ?_ | with_reducible refine' et_B ?_ | with_reducible refine' et_test ?_ | with_reducible refine' et_and2 ?_ ?_ | with_reducible refine' et_or2 ?_ ?_ | with_reducible refine' et_not ?_ | with_reducible refine' ev_call ?_ ?_ | with_reducible refine' ev_callS ?_ ?_ | with_reducible refine' ev_cb ?_ ?_ | with_reducible exact isi_bool (by assumption) | with_reducible exact isi_int (by assumption) | with_reducible exact isi_list (by assumption) | with_reducible exact rc_len (by assumption) | with_reducible exact rc_sum (by assumption) | with_reducible exact rc_abs | with_reducible exact isi_listL (by assumption) | with_reducible exact isi_intI | with_reducible exact isi_boolI | with_reducible exact rc_lenT (by assumption) | with_reducible exact isi_tup (by assumption) | with_reducible exact rv_eqL (by assumption) (by assumption) | with_reducible exact rv_neL (by assumption) (by assumption) | with_reducible exact rv_neT (by assumption) (by assumption) | with_reducible exact rv_ixL (by assumption) (by assumption) | with_reducible exact rv_ixT (by assumption) (by assumption) | with_reducible refine' ev_din ?_ ?_ (by assumption) | with_reducible refine' ev_dnotin ?_ ?_ (by assumption) | with_reducible refine' ev_dget ?_ ?_ (by assumption) (by assumption) | ((with_reducible show SpV _ _ _ _); assumption) | ((with_reducible show RV _ _ _ _ _); assumption) | ((with_reducible show RC _ _ _ _); assumption) | ((with_reducible show CDiv _ _); exact ⟨by omega, by omega⟩) | ((with_reducible show CMul _ _); first | exact .inl ⟨by omega, by omega⟩ | exact .inr ⟨by omega, by omega⟩) | ((with_reducible show CPow _ _); exact ⟨by omega, by omega, by first | decide | assumption | omega⟩) | ((with_reducible show (0 : Int) < _); omega) | ((with_reducible show (0 : Int) ≤ _); omega) | ((with_reducible show scal _ _ = true); rfl)))) fun H2 e2 => ⟨_, rfl, e1.trans e2, ?_⟩
        rw [ht, List.all_append, hall]
        simpa using hb
      · have hb : (decide (-1000000 ≤ n) && decide (n ≤ 1000000)) = false := by simpa using hb
        have ha : allM ns = false := by
          unfold allM
          rw [List.all_eq_false]
          exact ⟨n, List.mem_of_getElem? hn, by rw [hb]; decide⟩
        rw [ha] at q
        have z := sx_check_number (K := K) (H := H') (E := E) (.int n) hb (fun H2 e2 => q H2 (e1.trans e2))
        exact x_drop (rz_call (by (repeat' (first | with_reducible exact ev_c | ((with_reducible show Ev (tVar _) _ _ _); exact ev_var rfl) | with_reducible exact ea_nil | with_reducible exact eo_none | with_reducible refine' ea_cons ?_ ?_ | with_reducible refine' eo_some ?_ | with_reducible refine' ev_and2 ?_ ?_ | with_reducible refine' ev_or2 ?_ ?_ | with_reducible refine' ev_notV ?_ | with_reducible exact ru_I | with_reducible refine' ev_un ?_ ?_ | with_reducible exact rv_I0 | with_reducible exact rv_isN | with_reducible exact rv_notN | with_reducible refine' rv_I ?_ | with_reducible refine' rv_eq ?_ | with_reducible refine' rv_ne ?_ | with_reducible refine' ev_op ?_ ?_ ?_ | with_reducible refine' ev_chain2 ?_ ?_ ?_ ?_ ?_ | with_reducible refine' et_B ?_ | with_reducible refine' et_test ?_ | with_reducible refine' et_and2 ?_ ?_ | with_reducible refine' et_or2 ?_ ?_ | with_reducible refine' et_not ?_ | with_reducible refine' ev_call ?_ ?_ | with_reducible refine' ev_callS ?_ ?_ | with_reducible refine' ev_cb ?_ ?_ | with_reducible exact isi_bool (by assumption) | with_reducible exact isi_int (by assumption) | with_reducible exact isi_list (by assumption) | with_reducible exact rc_len (by assumption) | with_reducible exact rc_sum (by assumption) | with_reducible exact rc_abs | with_reducible exact isi_listL (by assumption) | with_reducible exact isi_intI | with_reducible exact isi_boolI | with_reducible exact rc_lenT (by assumption) | with_reducible exact isi_tup (by assumption) | with_reducible exact rv_eqL (by assumption) (by assumption) | with_reducible exact rv_neL (by assumption) (by assumption) | with_reducible exact rv_neT (by assumption) (by assumption) | with_reducible exact rv_ixL (by assumption) (by assumption) | with_reducible exact rv_ixT (by assumption) (by assumption) | with_reducible refine' ev_din ?_ ?_ (by assumption) | with_reducible refine' ev_dnotin ?_ ?_ (by assumption) | with_reducible refine' ev_dget ?_ ?_ (by assumption) (by assumption) | ((with_reducible show SpV _ _ _ _); assumption) | ((with_reducible show RV _ _ _ _ _); assumption) | ((with_reducible show RC _ _ _ _); assumption) | ((with_reducible show CDiv _ _); exact ⟨by omega, by omega⟩) | ((with_reducible show CMul _ _); first | exact .inl ⟨by omega, by omega⟩ | exact .inr ⟨by omega, by omega⟩) | ((with_reducible show CPow _ _); exact ⟨by omega, by omega, by first | decide | assumption | omega⟩) | ((with_reducible show (0 : Int) < _); omega) | ((with_reducible show (0 : Int) ≤ _); omega) | ((with_reducible show scal _ _ = true); rfl)))) z)
    · rintro σ' H' ⟨y1, rfl, e1, hall⟩
      rw [List.length_map, List.take_length] at hall
      rw [show allM ns = true from hall] at q
      exact s_ret (v := .ref p) (by (repeat' (first | with_reducible exact ev_c | ((with_reducible show Ev (tVar _) _ _ _); exact ev_var rfl) | with_reducible exact ea_nil | with_reducible exact eo_none | with_reducible refine' ea_cons ?_ ?_ | with_reducible refine' eo_some ?_ | with_reducible refine' ev_and2 ?_ ?_ | with_reducible refine' ev_or2 ?_ ?_ | with_reducible refine' ev_notV ?_ | with_reducible exact ru_I | with_reducible refine' ev_un ?_ ?_ | with_reducible exact rv_I0 | with_reducible exact rv_isN | with_reducible exact rv_notN | with_reducible refine' rv_I ?_ | with_reducible refine' rv_eq ?_ | with_reducible refine' rv_ne ?_ | with_reducible refine' ev_op ?_ ?_ ?_ | with_reducible refine' ev_chain2 ?_ ?_ ?_ ?_ ?_ | with_reducible refine' et_B ?_ | with_reducible refine' et_test ?_ | with_reducible refine' et_and2 ?_ ?_ | with_reducible refine' et_or2 ?_ ?_ | with_reducible refine' et_not ?_ | with_reducible refine' ev_call ?_ ?_ | with_reducible refine' ev_callS ?_ ?_ | with_reducible refine' ev_cb ?_ ?_ | with_reducible exact isi_bool (by assumption) | with_reducible exact isi_int (by assumption) | with_reducible exact isi_list (by assumption) | with_reducible exact rc_len (by assumption) | with_reducible exact rc_sum (by assumption) | with_reducible exact rc_abs | with_reducible exact isi_listL (by assumption) | with_reducible exact isi_intI | with_reducible exact isi_boolI | with_reducible exact rc_lenT (by assumption) | with_reducible exact isi_tup (by assumption) | with_reducible exact rv_eqL (by assumption) (by assumption) | with_reducible exact rv_neL (by assumption) (by assumption) | with_reducible exact rv_neT (by assumption) (by assumption) | with_reducible exact rv_ixL (by assumption) (by assumption) | with_reducible exact rv_ixT (by assumption) (by assumption) | with_reducible refine' ev_din ?_ ?_ (by assumption) | with_reducible refine' ev_dnotin ?_ ?_ (by assumption) | with_reducible refine' ev_dget ?_ ?_ (by assumption) (by assumption) | ((with_reducible show SpV _ _ _ _); assumption) | ((with_reducible show RV _ _ _ _ _); assumption) | ((with_reducible show RC _ _ _ _); assumption) | ((with_reducible show CDiv _ _); exact ⟨by omega, by omega⟩) | ((with_reducible show CMul _ _); first | exact .inl ⟨by omega, by omega⟩ | exact .inr ⟨by omega, by omega⟩) | ((with_reducible show CPow _ _); exact ⟨by omega, by omega, by first | decide | assumption | omega⟩) | ((with_reducible show (0 : Int) < _); omega) | ((with_reducible show (0 : Int) ≤ _); omega) | ((with_reducible show scal _ _ = true); rfl)))) fun H2 e2 => q H2 (e1.trans e2)

/-- kept([..]) -/
theorem el_kept {K : PySem.W.Frag} {σ : L2.St} {H : Hp} {te : TE} {ns : List Int} {E : XK} (h : EvL te σ H (ns.map V.int)) (ha : allM ns = true) : EvL (tCall (sp_kept K) [] E (tCons te tNil)) σ H (ns.map V.int) := fun H1 e Q q =>
  h H1 e _ fun p H2 hp e2 h2 => ⟨p, ns, rfl, h2, by
    rw [ha, if_pos rfl]
    exact fun H3 e3 => q p H3 hp (e2.trans e3) (e3 _ _ h2)⟩
theorem rz_kept {K : PySem.W.Frag} {σ : L2.St} {H : Hp} {te : TE} {ns : List Int} {E : XK} (h : EvL te σ H (ns.map V.int)) (ha : allM ns = false) (he : ∀ H2, Ex H H2 → E (.ref (He.ga K "OutOfBounds")) none H2) : Rz (tCall (sp_kept K) [] E (tCons te tNil)) σ H := fun H1 e Q =>
  h H1 e _ fun p H2 hp e2 h2 => ⟨p, ns, rfl, h2, by
    rw [ha]
    exact fun H3 e3 => he H3 ((e.trans e2).trans e3)⟩
def keptRe (ns : List Int) : Re := if allM ns then .lst (ns.map V.int) else .err "OutOfBounds"
theorem s_retKept {K : PySem.W.Frag} {σ : L2.St} {H H0 : Hp} {te : TE} {ns : List Int} {E : XK} {Q : VK} {D : Ends} (h : EvL te σ H (ns.map V.int)) (e0 : Ex H0 H) (q : Give K (keptRe ns) H0 Q E) (hD : D.rt = Q) : tRet (tCall (sp_kept K) [] E (tCons te tNil)) D σ H := by
  unfold keptRe at q
  by_cases ha : allM ns = true
  · rw [ha, if_pos rfl] at q
    exact s_retL (el_kept h ha) fun p H3 hp e3 h3 => by
      rw [hD]
      exact q p H3 (fresh_back e0 hp) (e0.trans e3) h3
  · have ha : allM ns = false := by simpa using ha
    rw [ha] at q
    exact x_ret (rz_kept h ha fun H2 e2 => q H2 (e0.trans e2))
/-! slices from and to a place -/
theorem cut_from (xs : List V) (s : Nat) : cutV xs (some (s : Int)) none = xs.drop s := by
  unfold cutV
  rw [HT.sIx_nat, HT.sIx_none]
  by_cases h : s ≤ xs.length
  · rw [Nat.min_eq_left h, List.take_of_length_le (by rw [List.length_drop]; exact Nat.le_refl _)]
  · rw [Nat.min_eq_right (by omega), List.drop_of_length_le (Nat.le_refl _), List.drop_of_length_le (by omega), List.take_nil]
theorem cut_to (xs : List V) (s : Nat) : cutV xs none (some (s : Int)) = xs.take s := by
  unfold cutV
  rw [HT.sIx_none, HT.sIx_nat]
  by_cases h : s ≤ xs.length
  · rw [Nat.min_eq_left h]
    rfl
  · rw [Nat.min_eq_right (by omega), List.drop_zero, Nat.sub_zero, List.take_of_length_le (Nat.le_refl _), List.take_of_length_le (by omega)]
/-- a new list made of two new ones -/
theorem el_cat {σ : L2.St} {H : Hp} {ta tb : TE} {xs ys : List V} (h1 : EvL ta σ H xs) (h2 : EvL tb σ H ys) (hl : xs.length + ys.length ≤ 100000) : EvL (tOp rCat ta tb) σ H (xs ++ ys) := fun H1 e Q q =>
  h1 H1 e _ fun p H2 hp e2 g1 => h2 H2 (e.trans e2) _ fun r H3 hr e3 g2 => ⟨p, r, xs, ys, rfl, rfl, e3 _ _ g1, g2, sz_of hl, fun u hu => q u _ (fresh_back (e2.trans e3) hu) ((e2.trans e3).trans (Ex.new hu)) upd_same⟩
def turnI (ns : List Int) (k : Int) : List Int := ns.drop (k % (ns.length : Int)).toNat ++ ns.take (k % (ns.length : Int)).toNat
def numRe (v : V) (f : Int → Re) : Re := match v with
  | .int i => if inM v then f i else .err "OutOfBounds"
  | _ => .err "OutOfBounds"
def sp_turned (K : PySem.W.Frag) : Sp := fun vs H Q E => ∃ v o k, vs = [v, k] ∧ Row H v o ∧ Kd H k ∧ Give K (doorRe o fun ns => numRe k fun i => .lst ((turnI ns i).map V.int)) H Q E
def sp_lifted (K : PySem.W.Frag) : Sp := fun vs H Q E => ∃ v o k, vs = [v, k] ∧ Row H v o ∧ Kd H k ∧ Give K (doorRe o fun ns => numRe k fun i => keptRe (ns.map (· + i))) H Q E
theorem num_bad {v : V} {f : Int → Re} (h : inM v = false) : numRe v f = .err "OutOfBounds" := by
  cases v with
  | int i =>
    show (if inM (.int i) then f i else .err "OutOfBounds") = _
    rw [h]
    rfl
  | _ => rfl
theorem num_good {v : V} {f : Int → Re} (h : inM v = true) : ∃ i, v = .int i ∧ numRe v f = f i := by
  cases v with
  | int i =>
    refine ⟨i, rfl, ?_⟩
    show (if inM (.int i) then f i else .err "OutOfBounds") = _
    rw [h, if_pos rfl]
  | _ => cases h
theorem sc_turned : FnScope ["pattern", "k", "start"] ["pattern", "k"] (defScope s_turned) := ⟨rfl, rfl, rfl, by decide +kernel, rfl, by decide +kernel, by decide +kernel⟩
theorem ok_turned {P : Program} {w : World} {K : PySem.W.Frag} {mg : Str → Option Value} {base : Heap} (T : TXT K mg) : OK P w K mg base "turned" ["pattern", "k"] 6 (sp_turned K) := by
  have O_check_pattern := ok_check_pattern (P := P) (w := w) (base := base) T
  have O_check_number := ok_check_number (P := P) (w := w) (base := base) T
  obtain ⟨fd, F⟩ := T.def_ 9
  refine ⟨_, fd, T.glo 8, F.kp, F.bindsN (fun _ _ _ _ _ _ us hl => match us, hl with | [_, _], _ => rfl), F.ok sc_turned (fun vs H Q E h => ?_) (fun cdv A outer s H vs Q E hr h => ?_), F.bindsA (fun _ _ _ _ _ _ us hl => match us, hl with | [_, _], _ => rfl)⟩
  · first | (obtain ⟨rfl, _⟩ := h; rfl) | (obtain ⟨_, rfl, _⟩ := h; rfl) | (obtain ⟨_, _, rfl, _⟩ := h; rfl) | (obtain ⟨_, _, _, rfl, _⟩ := h; rfl) | (obtain ⟨_, _, _, _, rfl, _⟩ := h; rfl) | (obtain ⟨_, _, _, _, _, rfl, _⟩ := h; rfl) | (obtain ⟨_, _, _, _, _, _, rfl, _⟩ := h; rfl) | (obtain ⟨_, _, _, _, _, _, _, rfl, _⟩ := h; rfl) | (obtain ⟨_, _, _, _, _, _, _, _, rfl, _⟩ := h; rfl)
  · replace F : FunD K "turned" "turned" (defArgs s_turned) (defBody s_turned) (defScope s_turned) [] [] (He.ga K "turned") fd := F
    refine ⟨_, (pss_cons (ps_expr (pe_own O_check_pattern (hr.mono (by decide)) (by rfl) (passes_call (takes_of rfl rfl rfl rfl) (fun _ _ _ _ h => h)) (pa_cons (pv 0) pa_nil)))
      (pss_cons (ps_expr (pe_own O_check_number (hr.mono (by decide)) (by rfl) (passes_call (takes_of rfl rfl rfl rfl) (fun _ _ _ _ h => h)) (pa_cons (pv 1) pa_nil)))
      (pss_cons (ps_set (i := 2) sc_turned.nd rfl (Or.inl rfl) (pe_op op_mod (pv 1) (pe_callB (id := "len") (k_len K) (by rfl) (T.free 43) (by decide +kernel) (pa_cons (pv 0) pa_nil))))
      (pss_one (ps_ret (pe_op op_cat (pe_slice (k_slL K) (pv 0) (po_some (pv 2)) po_none) (pe_slice (k_slL K) (pv 0) po_none (po_some (pv 2))))))))), ?_⟩
    obtain ⟨v, o, k, rfl, hk, hkk, q⟩ := h
    dsimp only [cxOf, L2.start, List.map_cons, List.map_nil, List.length_cons, List.length_nil, Nat.reduceAdd, Nat.reduceSub, List.replicate_succ, List.replicate_zero, List.cons_append, List.nil_append, Nat.zero_add, List.reduceReplicate, List.map]
    by_cases hg : rowOk o = true ∧ clashOf (rowsOf o) = none
    case neg => exact xq_drop (rz_call (by (repeat' (first | with_reducible exact ev_c | ((with_reducible show Ev (tVar _) _ _ _); exact ev_var rfl) | with_reducible exact ea_nil | with_reducible exact eo_none | with_reducible refine' ea_cons ?_ ?_ | with_reducible refine' eo_some ?_ | with_reducible refine' ev_and2 ?_ ?_ | with_reducible refine' ev_or2 ?_ ?_ | with_reducible refine' ev_notV ?_ | with_reducible exact ru_I | with_reducible refine' ev_un ?_ ?_ | with_reducible exact rv_I0 | with_reducible exact rv_isN | with_reducible exact rv_notN | with_reducible refine' rv_I ?_ | with_reducible refine' rv_eq ?_ | with_reducible refine' rv_ne ?_ | with_reducible refine' ev_op ?_ ?_ ?_ | with_reducible refine' ev_chain2 ?_ ?_ ?_ ?_ ?_ | with_reducible refine' et_B ?_ | with_reducible refine' et_test ?_ | with_reducible refine' et_and2 ?_ ?_ | with_reducible refine' et_or2 ?_ ?_ | with_reducible refine' et_not ?_ | with_reducible refine' ev_call ?_ ?_ | with_reducible refine' ev_callS ?_ ?_ | with_reducible refine' ev_cb ?_ ?_ | with_reducible exact isi_bool (by assumption) | with_reducible exact isi_int (by assumption) | with_reducible exact isi_list (by assumption) | with_reducible exact rc_len (by assumption) | with_reducible exact rc_sum (by assumption) | with_reducible exact rc_abs | with_reducible exact isi_listL (by assumption) | with_reducible exact isi_intI | with_reducible exact isi_boolI | with_reducible exact rc_lenT (by assumption) | with_reducible exact isi_tup (by assumption) | with_reducible exact rv_eqL (by assumption) (by assumption) | with_reducible exact rv_neL (by assumption) (by assumption) | with_reducible exact rv_neT (by assumption) (by assumption) | with_reducible exact rv_ixL (by assumption) (by assumption) | with_reducible exact rv_ixT (by assumption) (by assumption) | with_reducible refine' ev_din ?_ ?_ (by assumption) | with_reducible refine' ev_dnotin ?_ ?_ (by assumption) | with_reducible refine' ev_dget ?_ ?_ (by assumption) (by assumption) | ((with_reducible show SpV _ _ _ _); assumption) | ((with_reducible show RV _ _ _ _ _); assumption) | ((with_reducible show RC _ _ _ _); assumption) | ((with_reducible show CDiv _ _); exact ⟨by omega, by omega⟩) | ((with_reducible show CMul _ _); first | exact .inl ⟨by omega, by omega⟩ | exact .inr ⟨by omega, by omega⟩) | ((with_reducible show CPow _ _); exact ⟨by omega, by omega, by first | decide | assumption | omega⟩) | ((with_reducible show (0 : Int) < _); omega) | ((with_reducible show (0 : Int) ≤ _); omega) | ((with_reducible show scal _ _ = true); rfl)))) (sx_check_pattern hk q hg))
    have hcp := sv_check_pattern (K := K) hk hg.1 hg.2
    obtain ⟨a, ns, rfl, rfl, ha, ⟨h1, h2, h3⟩, hc, q⟩ := door_go hk q hg
    refine q_drop (v := .non) (by (repeat' (first | with_reducible exact ev_c | ((with_reducible show Ev (tVar _) _ _ _); exact ev_var rfl) | with_reducible exact ea_nil | with_reducible exact eo_none | with_reducible refine' ea_cons ?_ ?_ | with_reducible refine' eo_some ?_ | with_reducible refine' ev_and2 ?_ ?_ | with_reducible refine' ev_or2 ?_ ?_ | with_reducible refine' ev_notV ?_ | with_reducible exact ru_I | with_reducible refine' ev_un ?_ ?_ | with_reducible exact rv_I0 | with_reducible exact rv_isN | with_reducible exact rv_notN | with_reducible refine' rv_I ?_ | with_reducible refine' rv_eq ?_ | with_reducible refine' rv_ne ?_ | with_reducible refine' ev_op ?_ ?_ ?_ | with_reducible refine' ev_chain2 ?_ ?_ ?_ ?_ ?_ | with_reducible refine' et_B ?_ | with_reducible refine' et_test ?_ | with_reducible refine' et_and2 ?_ ?_ | with_reducible refine' et_or2 ?_ ?_ | with_reducible refine' et_not ?_ | with_reducible refine' ev_call ?_ ?_ | with_reducible refine' ev_callS ?_ ?_ | with_reducible refine' ev_cb ?_ ?_ | with_reducible exact isi_bool (by assumption) | with_reducible exact isi_int (by assumption) | with_reducible exact isi_list (by assumption) | with_reducible exact rc_len (by assumption) | with_reducible exact rc_sum (by assumption) | with_reducible exact rc_abs | with_reducible exact isi_listL (by assumption) | with_reducible exact isi_intI | with_reducible exact isi_boolI | with_reducible exact rc_lenT (by assumption) | with_reducible exact isi_tup (by assumption) | with_reducible exact rv_eqL (by assumption) (by assumption) | with_reducible exact rv_neL (by assumption) (by assumption) | with_reducible exact rv_neT (by assumption) (by assumption) | with_reducible exact rv_ixL (by assumption) (by assumption) | with_reducible exact rv_ixT (by assumption) (by assumption) | with_reducible refine' ev_din ?_ ?_ (by assumption) | with_reducible refine' ev_dnotin ?_ ?_ (by assumption) | with_reducible refine' ev_dget ?_ ?_ (by assumption) (by assumption) | ((with_reducible show SpV _ _ _ _); assumption) | ((with_reducible show RV _ _ _ _ _); assumption) | ((with_reducible show RC _ _ _ _); assumption) | ((with_reducible show CDiv _ _); exact ⟨by omega, by omega⟩) | ((with_reducible show CMul _ _); first | exact .inl ⟨by omega, by omega⟩ | exact .inr ⟨by omega, by omega⟩) | ((with_reducible show CPow _ _); exact ⟨by omega, by omega, by first | decide | assumption | omega⟩) | ((with_reducible show (0 : Int) < _); omega) | ((with_reducible show (0 : Int) ≤ _); omega) | ((with_reducible show scal _ _ = true); rfl)))) fun H1 e1 => ?_
    by_cases hi : inM k = true
    case neg =>
      have hi : inM k = false := by simpa using hi
      rw [num_bad hi] at q
      have z := sx_check_number (K := K) (E := E) (hkk.mono e1) hi (fun H2 e2 => q H2 (e1.trans e2))
      exact xq_drop (rz_call (by (repeat' (first | with_reducible exact ev_c | ((with_reducible show Ev (tVar _) _ _ _); exact ev_var rfl) | with_reducible exact ea_nil | with_reducible exact eo_none | with_reducible refine' ea_cons ?_ ?_ | with_reducible refine' eo_some ?_ | with_reducible refine' ev_and2 ?_ ?_ | with_reducible refine' ev_or2 ?_ ?_ | with_reducible refine' ev_notV ?_ | with_reducible exact ru_I | with_reducible refine' ev_un ?_ ?_ | with_reducible exact rv_I0 | with_reducible exact rv_isN | with_reducible exact rv_notN | with_reducible refine' rv_I ?_ | with_reducible refine' rv_eq ?_ | with_reducible refine' rv_ne ?_ | with_reducible refine' ev_op ?_ ?_ ?_ | with_reducible refine' ev_chain2 ?_ ?_ ?_ ?_ ?_ | with_reducible refine' et_B ?_ | with_reducible refine' et_test ?_ | with_reducible refine' et_and2 ?_ ?_ | with_reducible refine' et_or2 ?_ ?_ | with_reducible refine' et_not ?_ | with_reducible refine' ev_call ?_ ?_ | with_reducible refine' ev_callS ?_ ?_ | with_reducible refine' ev_cb ?_ ?_ | with_reducible exact isi_bool (by assumption) | with_reducible exact isi_int (by assumption) | with_reducible exact isi_list (by assumption) | with_reducible exact rc_len (by assumption) | with_reducible exact rc_sum (by assumption) | with_reducible exact rc_abs | with_reducible exact isi_listL (by assumption) | with_reducible exact isi_intI | with_reducible exact isi_boolI | with_reducible exact rc_lenT (by assumption) | with_reducible exact isi_tup (by assumption) | with_reducible exact rv_eqL (by assumption) (by assumption) | with_reducible exact rv_neL (by assumption) (by assumption) | with_reducible exact rv_neT (by assumption) (by assumption) | with_reducible exact rv_ixL (by assumption) (by assumption) | with_reducible exact rv_ixT (by assumption) (by assumption) | with_reducible refine' ev_din ?_ ?_ (by assumption) | with_reducible refine' ev_dnotin ?_ ?_ (by assumption) | with_reducible refine' ev_dget ?_ ?_ (by assumption) (by assumption) | ((with_reducible show SpV _ _ _ _); assumption) | ((with_reducible show RV _ _ _ _ _); assumption) | ((with_reducible show RC _ _ _ _); assumption) | ((with_reducible show CDiv _ _); exact ⟨by omega, by omega⟩) | ((with_reducible show CMul _ _); first | exact .inl ⟨by omega, by omega⟩ | exact .inr ⟨by omega, by omega⟩) | ((with_reducible show CPow _ _); exact ⟨by omega, by omega, by first | decide | assumption | omega⟩) | ((with_reducible show (0 : Int) < _); omega) | ((with_reducible show (0 : Int) ≤ _); omega) | ((with_reducible show scal _ _ = true); rfl)))) z)
    have z := sv_check_number (K := K) (hkk.mono e1) hi
    obtain ⟨i, rfl, en⟩ := num_good (f := fun i => .lst ((turnI ns i).map V.int)) hi
    rw [en] at q
    refine q_drop (v := .non) (by (repeat' (first | with_reducible exact ev_c | ((with_reducible show Ev (tVar _) _ _ _); exact ev_var rfl) | with_reducible exact ea_nil | with_reducible exact eo_none | with_reducible refine' ea_cons ?_ ?_ | with_reducible refine' eo_some ?_ | with_reducible refine' ev_and2 ?_ ?_ | with_reducible refine' ev_or2 ?_ ?_ | with_reducible refine' ev_notV ?_ | with_reducible exact ru_I | with_reducible refine' ev_un ?_ ?_ | with_reducible exact rv_I0 | with_reducible exact rv_isN | with_reducible exact rv_notN | with_reducible refine' rv_I ?_ | with_reducible refine' rv_eq ?_ | with_reducible refine' rv_ne ?_ | with_reducible refine' ev_op ?_ ?_ ?_ | with_reducible refine' ev_chain2 ?_ ?_ ?_ ?_ ?_ | with_reducible refine' et_B ?_ | with_reducible refine' et_test ?_ | with_reducible refine' et_and2 ?_ ?_ | with_reducible refine' et_or2 ?_ ?_ | with_reducible refine' et_not ?_ | with_reducible refine' ev_call ?_ ?_ | with_reducible refine' ev_callS ?_ ?_ | with_reducible refine' ev_cb ?_ ?_ | with_reducible exact isi_bool (by assumption) | with_reducible exact isi_int (by assumption) | with_reducible exact isi_list (by assumption) | with_reducible exact rc_len (by assumption) | with_reducible exact rc_sum (by assumption) | with_reducible exact rc_abs | with_reducible exact isi_listL (by assumption) | with_reducible exact isi_intI | with_reducible exact isi_boolI | with_reducible exact rc_lenT (by assumption) | with_reducible exact isi_tup (by assumption) | with_reducible exact rv_eqL (by assumption) (by assumption) | with_reducible exact rv_neL (by assumption) (by assumption) | with_reducible exact rv_neT (by assumption) (by assumption) | with_reducible exact rv_ixL (by assumption) (by assumption) | with_reducible exact rv_ixT (by assumption) (by assumption) | with_reducible refine' ev_din ?_ ?_ (by assumption) | with_reducible refine' ev_dnotin ?_ ?_ (by assumption) | with_reducible refine' ev_dget ?_ ?_ (by assumption) (by assumption) | ((with_reducible show SpV _ _ _ _); assumption) | ((with_reducible show RV _ _ _ _ _); assumption) | ((with_reducible show RC _ _ _ _); assumption) | ((with_reducible show CDiv _ _); exact ⟨by omega, by omega⟩) | ((with_reducible show CMul _ _); first | exact .inl ⟨by omega, by omega⟩ | exact .inr ⟨by omega, by omega⟩) | ((with_reducible show CPow _ _); exact ⟨by omega, by omega, by first | decide | assumption | omega⟩) | ((with_reducible show (0 : Int) < _); omega) | ((with_reducible show (0 : Int) ≤ _); omega) | ((with_reducible show scal _ _ = true); rfl)))) fun H2 e2 => ?_
    have hs2 : SqL K H2 a (ns.map V.int) := ex_l (e1.trans e2) (sq_of ha)
    have hp : (0 : Int) < ((ns.map V.int).length : Int) := by rw [List.length_map]; omega
    refine q_asg (v := .int (i % ((ns.map V.int).length : Int))) (by (repeat' (first | with_reducible exact ev_c | ((with_reducible show Ev (tVar _) _ _ _); exact ev_var rfl) | with_reducible exact ea_nil | with_reducible exact eo_none | with_reducible refine' ea_cons ?_ ?_ | with_reducible refine' eo_some ?_ | with_reducible refine' ev_and2 ?_ ?_ | with_reducible refine' ev_or2 ?_ ?_ | with_reducible refine' ev_notV ?_ | with_reducible exact ru_I | with_reducible refine' ev_un ?_ ?_ | with_reducible exact rv_I0 | with_reducible exact rv_isN | with_reducible exact rv_notN | with_reducible refine' rv_I ?_ | with_reducible refine' rv_eq ?_ | with_reducible refine' rv_ne ?_ | with_reducible refine' ev_op ?_ ?_ ?_ | with_reducible refine' ev_chain2 ?_ ?_ ?_ ?_ ?_ | with_reducible refine' et_B ?_ | with_reducible refine' et_test ?_ | with_reducible refine' et_and2 ?_ ?_ | with_reducible refine' et_or2 ?_ ?_ | with_reducible refine' et_not ?_ | with_reducible refine' ev_call ?_ ?_ | with_reducible refine' ev_callS ?_ ?_ | with_reducible refine' ev_cb ?_ ?_ | with_reducible exact isi_bool (by assumption) | with_reducible exact isi_int (by assumption) | with_reducible exact isi_list (by assumption) | with_reducible exact rc_len (by assumption) | with_reducible exact rc_sum (by assumption) | with_reducible exact rc_abs | with_reducible exact isi_listL (by assumption) | with_reducible exact isi_intI | with_reducible exact isi_boolI | with_reducible exact rc_lenT (by assumption) | with_reducible exact isi_tup (by assumption) | with_reducible exact rv_eqL (by assumption) (by assumption) | with_reducible exact rv_neL (by assumption) (by assumption) | with_reducible exact rv_neT (by assumption) (by assumption) | with_reducible exact rv_ixL (by assumption) (by assumption) | with_reducible exact rv_ixT (by assumption) (by assumption) | with_reducible refine' ev_din ?_ ?_ (by assumption) | with_reducible refine' ev_dnotin ?_ ?_ (by assumption) | with_reducible refine' ev_dget ?_ ?_ (by assumption) (by assumption) | ((with_reducible show SpV _ _ _ _); assumption) | ((with_reducible show RV _ _ _ _ _); assumption) | ((with_reducible show RC _ _ _ _); assumption) | ((with_reducible show CDiv _ _); exact ⟨by omega, by omega⟩) | ((with_reducible show CMul _ _); first | exact .inl ⟨by omega, by omega⟩ | exact .inr ⟨by omega, by omega⟩) | ((with_reducible show CPow _ _); exact ⟨by omega, by omega, by first | decide | assumption | omega⟩) | ((with_reducible show (0 : Int) < _); omega) | ((with_reducible show (0 : Int) ≤ _); omega) | ((with_reducible show scal _ _ = true); rfl)))) fun H3 e3 => ?_
    have s0 : 0 ≤ i % ((ns.map V.int).length : Int) := Int.emod_nonneg _ (by omega)
    have hs3 := ex_l e3 hs2
    have es : i % ((ns.map V.int).length : Int) = (((i % ((ns.map V.int).length : Int)).toNat : Nat) : Int) := by omega
    have c1 := el_sl (K := K) (te := tVar 0) (tl := tPart (tVar 2)) (th := tNoPart) (σ := [some (V.ref a), some (V.int i), some (V.int (i % ((ns.map V.int).length : Int)))]) (H := H3) (by (repeat' (first | with_reducible exact ev_c | ((with_reducible show Ev (tVar _) _ _ _); exact ev_var rfl) | with_reducible exact ea_nil | with_reducible exact eo_none | with_reducible refine' ea_cons ?_ ?_ | with_reducible refine' eo_some ?_ | with_reducible refine' ev_and2 ?_ ?_ | with_reducible refine' ev_or2 ?_ ?_ | with_reducible refine' ev_notV ?_ | with_reducible exact ru_I | with_reducible refine' ev_un ?_ ?_ | with_reducible exact rv_I0 | with_reducible exact rv_isN | with_reducible exact rv_notN | with_reducible refine' rv_I ?_ | with_reducible refine' rv_eq ?_ | with_reducible refine' rv_ne ?_ | with_reducible refine' ev_op ?_ ?_ ?_ | with_reducible refine' ev_chain2 ?_ ?_ ?_ ?_ ?_ | with_reducible refine' et_B ?_ | with_reducible refine' et_test ?_ | with_reducible refine' et_and2 ?_ ?_ | with_reducible refine' et_or2 ?_ ?_ | with_reducible refine' et_not ?_ | with_reducible refine' ev_call ?_ ?_ | with_reducible refine' ev_callS ?_ ?_ | with_reducible refine' ev_cb ?_ ?_ | with_reducible exact isi_bool (by assumption) | with_reducible exact isi_int (by assumption) | with_reducible exact isi_list (by assumption) | with_reducible exact rc_len (by assumption) | with_reducible exact rc_sum (by assumption) | with_reducible exact rc_abs | with_reducible exact isi_listL (by assumption) | with_reducible exact isi_intI | with_reducible exact isi_boolI | with_reducible exact rc_lenT (by assumption) | with_reducible exact isi_tup (by assumption) | with_reducible exact rv_eqL (by assumption) (by assumption) | with_reducible exact rv_neL (by assumption) (by assumption) | with_reducible exact rv_neT (by assumption) (by assumption) | with_reducible exact rv_ixL (by assumption) (by assumption) | with_reducible exact rv_ixT (by assumption) (by assumption) | with_reducible refine' ev_din ?_ ?_ (by assumption) | with_reducible refine' ev_dnotin ?_ ?_ (by assumption) | with_reducible refine' ev_dget ?_ ?_ (by assumption) (by assumption) | ((with_reducible show SpV _ _ _ _); assumption) | ((with_reducible show RV _ _ _ _ _); assumption) | ((with_reducible show RC _ _ _ _); assumption) | ((with_reducible show CDiv _ _); exact ⟨by omega, by omega⟩) | ((with_reducible show CMul _ _); first | exact .inl ⟨by omega, by omega⟩ | exact .inr ⟨by omega, by omega⟩) | ((with_reducible show CPow _ _); exact ⟨by omega, by omega, by first | decide | assumption | omega⟩) | ((with_reducible show (0 : Int) < _); omega) | ((with_reducible show (0 : Int) ≤ _); omega) | ((with_reducible show scal _ _ = true); rfl)))) (by (repeat' (first | with_reducible exact ev_c | ((with_reducible show Ev (tVar _) _ _ _); exact ev_var rfl) | with_reducible exact ea_nil | with_reducible exact eo_none | with_reducible refine' ea_cons ?_ ?_ | with_reducible refine' eo_some ?_ | with_reducible refine' ev_and2 ?_ ?_ | with_reducible refine' ev_or2 ?_ ?_ | with_reducible refine' ev_notV ?_ | with_reducible exact ru_I | with_reducible refine' ev_un ?_ ?_ | with_reducible exact rv_I0 | with_reducible exact rv_isN | with_reducible exact rv_notN | with_reducible refine' rv_I ?_ | with_reducible refine' rv_eq ?_ | with_reducible refine' rv_ne ?_ | with_reducible refine' ev_op ?_ ?_ ?_ | with_reducible refine' ev_chain2 ?_ ?_ ?_ ?_ ?_ | with_reducible refine' et_B ?_ | with_reducible refine' et_test ?_ | with_reducible refine' et_and2 ?_ ?_ | with_reducible refine' et_or2 ?_ ?_ | with_reducible refine' et_not ?_ | with_reducible refine' ev_call ?_ ?_ | with_reducible refine' ev_callS ?_ ?_ | with_reducible refine' ev_cb ?_ ?_ | with_reducible exact isi_bool (by assumption) | with_reducible exact isi_int (by assumption) | with_reducible exact isi_list (by assumption) | with_reducible exact rc_len (by assumption) | with_reducible exact rc_sum (by assumption) | with_reducible exact rc_abs | with_reducible exact isi_listL (by assumption) | with_reducible exact isi_intI | with_reducible exact isi_boolI | with_reducible exact rc_lenT (by assumption) | with_reducible exact isi_tup (by assumption) | with_reducible exact rv_eqL (by assumption) (by assumption) | with_reducible exact rv_neL (by assumption) (by assumption) | with_reducible exact rv_neT (by assumption) (by assumption) | with_reducible exact rv_ixL (by assumption) (by assumption) | with_reducible exact rv_ixT (by assumption) (by assumption) | with_reducible refine' ev_din ?_ ?_ (by assumption) | with_reducible refine' ev_dnotin ?_ ?_ (by assumption) | with_reducible refine' ev_dget ?_ ?_ (by assumption) (by assumption) | ((with_reducible show SpV _ _ _ _); assumption) | ((with_reducible show RV _ _ _ _ _); assumption) | ((with_reducible show RC _ _ _ _); assumption) | ((with_reducible show CDiv _ _); exact ⟨by omega, by omega⟩) | ((with_reducible show CMul _ _); first | exact .inl ⟨by omega, by omega⟩ | exact .inr ⟨by omega, by omega⟩) | ((with_reducible show CPow _ _); exact ⟨by omega, by omega, by first | decide | assumption | omega⟩) | ((with_reducible show (0 : Int) < _); omega) | ((with_reducible show (0 : Int) ≤ _); omega) | ((with_reducible show scal _ _ = true); rfl)))) (by (repeat' (first | with_reducible exact ev_c | ((with_reducible show Ev (tVar _) _ _ _); exact ev_var rfl) | with_reducible exact ea_nil | with_reducible exact eo_none | with_reducible refine' ea_cons ?_ ?_ | with_reducible refine' eo_some ?_ | with_reducible refine' ev_and2 ?_ ?_ | with_reducible refine' ev_or2 ?_ ?_ | with_reducible refine' ev_notV ?_ | with_reducible exact ru_I | with_reducible refine' ev_un ?_ ?_ | with_reducible exact rv_I0 | with_reducible exact rv_isN | with_reducible exact rv_notN | with_reducible refine' rv_I ?_ | with_reducible refine' rv_eq ?_ | with_reducible refine' rv_ne ?_ | with_reducible refine' ev_op ?_ ?_ ?_ | with_reducible refine' ev_chain2 ?_ ?_ ?_ ?_ ?_ | with_reducible refine' et_B ?_ | with_reducible refine' et_test ?_ | with_reducible refine' et_and2 ?_ ?_ | with_reducible refine' et_or2 ?_ ?_ | with_reducible refine' et_not ?_ | with_reducible refine' ev_call ?_ ?_ | with_reducible refine' ev_callS ?_ ?_ | with_reducible refine' ev_cb ?_ ?_ | with_reducible exact isi_bool (by assumption) | with_reducible exact isi_int (by assumption) | with_reducible exact isi_list (by assumption) | with_reducible exact rc_len (by assumption) | with_reducible exact rc_sum (by assumption) | with_reducible exact rc_abs | with_reducible exact isi_listL (by assumption) | with_reducible exact isi_intI | with_reducible exact isi_boolI | with_reducible exact rc_lenT (by assumption) | with_reducible exact isi_tup (by assumption) | with_reducible exact rv_eqL (by assumption) (by assumption) | with_reducible exact rv_neL (by assumption) (by assumption) | with_reducible exact rv_neT (by assumption) (by assumption) | with_reducible exact rv_ixL (by assumption) (by assumption) | with_reducible exact rv_ixT (by assumption) (by assumption) | with_reducible refine' ev_din ?_ ?_ (by assumption) | with_reducible refine' ev_dnotin ?_ ?_ (by assumption) | with_reducible refine' ev_dget ?_ ?_ (by assumption) (by assumption) | ((with_reducible show SpV _ _ _ _); assumption) | ((with_reducible show RV _ _ _ _ _); assumption) | ((with_reducible show RC _ _ _ _); assumption) | ((with_reducible show CDiv _ _); exact ⟨by omega, by omega⟩) | ((with_reducible show CMul _ _); first | exact .inl ⟨by omega, by omega⟩ | exact .inr ⟨by omega, by omega⟩) | ((with_reducible show CPow _ _); exact ⟨by omega, by omega, by first | decide | assumption | omega⟩) | ((with_reducible show (0 : Int) < _); omega) | ((with_reducible show (0 : Int) ≤ _); omega) | ((with_reducible show scal _ _ = true); rfl)))) hs3
    have c2 := el_sl (K := K) (te := tVar 0) (tl := tNoPart) (th := tPart (tVar 2)) (σ := [some (V.ref a), some (V.int i), some (V.int (i % ((ns.map V.int).length : Int)))]) (H := H3) (by (repeat' (first | with_reducible exact ev_c | ((with_reducible show Ev (tVar _) _ _ _); exact ev_var rfl) | with_reducible exact ea_nil | with_reducible exact eo_none | with_reducible refine' ea_cons ?_ ?_ | with_reducible refine' eo_some ?_ | with_reducible refine' ev_and2 ?_ ?_ | with_reducible refine' ev_or2 ?_ ?_ | with_reducible refine' ev_notV ?_ | with_reducible exact ru_I | with_reducible refine' ev_un ?_ ?_ | with_reducible exact rv_I0 | with_reducible exact rv_isN | with_reducible exact rv_notN | with_reducible refine' rv_I ?_ | with_reducible refine' rv_eq ?_ | with_reducible refine' rv_ne ?_ | with_reducible refine' ev_op ?_ ?_ ?_ | with_reducible refine' ev_chain2 ?_ ?_ ?_ ?_ ?_ | with_reducible refine' et_B ?_ | with_reducible refine' et_test ?_ | with_reducible refine' et_and2 ?_ ?_ | with_reducible refine' et_or2 ?_ ?_ | with_reducible refine' et_not ?_ | with_reducible refine' ev_call ?_ ?_ | with_reducible refine' ev_callS ?_ ?_ | with_reducible refine' ev_cb ?_ ?_ | with_reducible exact isi_bool (by assumption) | with_reducible exact isi_int (by assumption) | with_reducible exact isi_list (by assumption) | with_reducible exact rc_len (by assumption) | with_reducible exact rc_sum (by assumption) | with_reducible exact rc_abs | with_reducible exact isi_listL (by assumption) | with_reducible exact isi_intI | with_reducible exact isi_boolI | with_reducible exact rc_lenT (by assumption) | with_reducible exact isi_tup (by assumption) | with_reducible exact rv_eqL (by assumption) (by assumption) | with_reducible exact rv_neL (by assumption) (by assumption) | with_reducible exact rv_neT (by assumption) (by assumption) | with_reducible exact rv_ixL (by assumption) (by assumption) | with_reducible exact rv_ixT (by assumption) (by assumption) | with_reducible refine' ev_din ?_ ?_ (by assumption) | with_reducible refine' ev_dnotin ?_ ?_ (by assumption) | with_reducible refine' ev_dget ?_ ?_ (by assumption) (by assumption) | ((with_reducible show SpV _ _ _ _); assumption) | ((with_reducible show RV _ _ _ _ _); assumption) | ((with_reducible show RC _ _ _ _); assumption) | ((with_reducible show CDiv _ _); exact ⟨by omega, by omega⟩) | ((with_reducible show CMul _ _); first | exact .inl ⟨by omega, by omega⟩ | exact .inr ⟨by omega, by omega⟩) | ((with_reducible show CPow _ _); exact ⟨by omega, by omega, by first | decide | assumption | omega⟩) | ((with_reducible show (0 : Int) < _); omega) | ((with_reducible show (0 : Int) ≤ _); omega) | ((with_reducible show scal _ _ = true); rfl)))) (by (repeat' (first | with_reducible exact ev_c | ((with_reducible show Ev (tVar _) _ _ _); exact ev_var rfl) | with_reducible exact ea_nil | with_reducible exact eo_none | with_reducible refine' ea_cons ?_ ?_ | with_reducible refine' eo_some ?_ | with_reducible refine' ev_and2 ?_ ?_ | with_reducible refine' ev_or2 ?_ ?_ | with_reducible refine' ev_notV ?_ | with_reducible exact ru_I | with_reducible refine' ev_un ?_ ?_ | with_reducible exact rv_I0 | with_reducible exact rv_isN | with_reducible exact rv_notN | with_reducible refine' rv_I ?_ | with_reducible refine' rv_eq ?_ | with_reducible refine' rv_ne ?_ | with_reducible refine' ev_op ?_ ?_ ?_ | with_reducible refine' ev_chain2 ?_ ?_ ?_ ?_ ?_ | with_reducible refine' et_B ?_ | with_reducible refine' et_test ?_ | with_reducible refine' et_and2 ?_ ?_ | with_reducible refine' et_or2 ?_ ?_ | with_reducible refine' et_not ?_ | with_reducible refine' ev_call ?_ ?_ | with_reducible refine' ev_callS ?_ ?_ | with_reducible refine' ev_cb ?_ ?_ | with_reducible exact isi_bool (by assumption) | with_reducible exact isi_int (by assumption) | with_reducible exact isi_list (by assumption) | with_reducible exact rc_len (by assumption) | with_reducible exact rc_sum (by assumption) | with_reducible exact rc_abs | with_reducible exact isi_listL (by assumption) | with_reducible exact isi_intI | with_reducible exact isi_boolI | with_reducible exact rc_lenT (by assumption) | with_reducible exact isi_tup (by assumption) | with_reducible exact rv_eqL (by assumption) (by assumption) | with_reducible exact rv_neL (by assumption) (by assumption) | with_reducible exact rv_neT (by assumption) (by assumption) | with_reducible exact rv_ixL (by assumption) (by assumption) | with_reducible exact rv_ixT (by assumption) (by assumption) | with_reducible refine' ev_din ?_ ?_ (by assumption) | with_reducible refine' ev_dnotin ?_ ?_ (by assumption) | with_reducible refine' ev_dget ?_ ?_ (by assumption) (by assumption) | ((with_reducible show SpV _ _ _ _); assumption) | ((with_reducible show RV _ _ _ _ _); assumption) | ((with_reducible show RC _ _ _ _); assumption) | ((with_reducible show CDiv _ _); exact ⟨by omega, by omega⟩) | ((with_reducible show CMul _ _); first | exact .inl ⟨by omega, by omega⟩ | exact .inr ⟨by omega, by omega⟩) | ((with_reducible show CPow _ _); exact ⟨by omega, by omega, by first | decide | assumption | omega⟩) | ((with_reducible show (0 : Int) < _); omega) | ((with_reducible show (0 : Int) ≤ _); omega) | ((with_reducible show scal _ _ = true); rfl)))) (by (repeat' (first | with_reducible exact ev_c | ((with_reducible show Ev (tVar _) _ _ _); exact ev_var rfl) | with_reducible exact ea_nil | with_reducible exact eo_none | with_reducible refine' ea_cons ?_ ?_ | with_reducible refine' eo_some ?_ | with_reducible refine' ev_and2 ?_ ?_ | with_reducible refine' ev_or2 ?_ ?_ | with_reducible refine' ev_notV ?_ | with_reducible exact ru_I | with_reducible refine' ev_un ?_ ?_ | with_reducible exact rv_I0 | with_reducible exact rv_isN | with_reducible exact rv_notN | with_reducible refine' rv_I ?_ | with_reducible refine' rv_eq ?_ | with_reducible refine' rv_ne ?_ | with_reducible refine' ev_op ?_ ?_ ?_ | with_reducible refine' ev_chain2 ?_ ?_ ?_ ?_ ?_ | with_reducible refine' et_B ?_ | with_reducible refine' et_test ?_ | with_reducible refine' et_and2 ?_ ?_ | with_reducible refine' et_or2 ?_ ?_ | with_reducible refine' et_not ?_ | with_reducible refine' ev_call ?_ ?_ | with_reducible refine' ev_callS ?_ ?_ | with_reducible refine' ev_cb ?_ ?_ | with_reducible exact isi_bool (by assumption) | with_reducible exact isi_int (by assumption) | with_reducible exact isi_list (by assumption) | with_reducible exact rc_len (by assumption) | with_reducible exact rc_sum (by assumption) | with_reducible exact rc_abs | with_reducible exact isi_listL (by assumption) | with_reducible exact isi_intI | with_reducible exact isi_boolI | with_reducible exact rc_lenT (by assumption) | with_reducible exact isi_tup (by assumption) | with_reducible exact rv_eqL (by assumption) (by assumption) | with_reducible exact rv_neL (by assumption) (by assumption) | with_reducible exact rv_neT (by assumption) (by assumption) | with_reducible exact rv_ixL (by assumption) (by assumption) | with_reducible exact rv_ixT (by assumption) (by assumption) | with_reducible refine' ev_din ?_ ?_ (by assumption) | with_reducible refine' ev_dnotin ?_ ?_ (by assumption) | with_reducible refine' ev_dget ?_ ?_ (by assumption) (by assumption) | ((with_reducible show SpV _ _ _ _); assumption) | ((with_reducible show RV _ _ _ _ _); assumption) | ((with_reducible show RC _ _ _ _); assumption) | ((with_reducible show CDiv _ _); exact ⟨by omega, by omega⟩) | ((with_reducible show CMul _ _); first | exact .inl ⟨by omega, by omega⟩ | exact .inr ⟨by omega, by omega⟩) | ((with_reducible show CPow _ _); exact ⟨by omega, by omega, by first | decide | assumption | omega⟩) | ((with_reducible show (0 : Int) < _); omega) | ((with_reducible show (0 : Int) ≤ _); omega) | ((with_reducible show scal _ _ = true); rfl)))) hs3
    rw [es, cut_from] at c1
    rw [es, cut_to] at c2
    rw [← es] at c1 c2
    have c3 := el_cat c1 c2 (by rw [List.length_drop, List.length_take, List.length_map]; omega)
    rw [← List.map_drop, ← List.map_take, ← List.map_append] at c3
    refine s_retL c3 fun p H4 hp4 e4 h4 => q p H4 (fresh_back ((e1.trans e2).trans e3) hp4) (((e1.trans e2).trans e3).trans e4) ?_
    rw [h4]
    unfold turnI
    rw [List.length_map]

theorem sc_lifted : FnScope ["pattern", "k", "one"] ["pattern", "k"] (defScope s_lifted) := ⟨rfl, rfl, rfl, by decide +kernel, rfl, by decide +kernel, by decide +kernel⟩
theorem ok_lifted {P : Program} {w : World} {K : PySem.W.Frag} {mg : Str → Option Value} {base : Heap} (T : TXT K mg) : OK P w K mg base "lifted" ["pattern", "k"] 6 (sp_lifted K) := by
  have O_check_pattern := ok_check_pattern (P := P) (w := w) (base := base) T
  have O_check_number := ok_check_number (P := P) (w := w) (base := base) T
  have O_kept := ok_kept (P := P) (w := w) (base := base) T
  obtain ⟨fd, F⟩ := T.def_ 10
  refine ⟨_, fd, T.glo 9, F.kp, F.bindsN (fun _ _ _ _ _ _ us hl => match us, hl with | [_, _], _ => rfl), F.ok sc_lifted (fun vs H Q E h => ?_) (fun cdv A outer s H vs Q E hr h => ?_), F.bindsA (fun _ _ _ _ _ _ us hl => match us, hl with | [_, _], _ => rfl)⟩
  · first | (obtain ⟨rfl, _⟩ := h; rfl) | (obtain ⟨_, rfl, _⟩ := h; rfl) | (obtain ⟨_, _, rfl, _⟩ := h; rfl) | (obtain ⟨_, _, _, rfl, _⟩ := h; rfl) | (obtain ⟨_, _, _, _, rfl, _⟩ := h; rfl) | (obtain ⟨_, _, _, _, _, rfl, _⟩ := h; rfl) | (obtain ⟨_, _, _, _, _, _, rfl, _⟩ := h; rfl) | (obtain ⟨_, _, _, _, _, _, _, rfl, _⟩ := h; rfl) | (obtain ⟨_, _, _, _, _, _, _, _, rfl, _⟩ := h; rfl)
  · replace F : FunD K "lifted" "lifted" (defArgs s_lifted) (defBody s_lifted) (defScope s_lifted) [] [] (He.ga K "lifted") fd := F
    refine ⟨_, (pss_cons (ps_expr (pe_own O_check_pattern (hr.mono (by decide)) (by rfl) (passes_call (takes_of rfl rfl rfl rfl) (fun _ _ _ _ h => h)) (pa_cons (pv 0) pa_nil)))
      (pss_cons (ps_expr (pe_own O_check_number (hr.mono (by decide)) (by rfl) (passes_call (takes_of rfl rfl rfl rfl) (fun _ _ _ _ h => h)) (pa_cons (pv 1) pa_nil)))
      (pss_one (ps_ret (pe_own O_kept (hr.mono (by decide)) (by rfl) (passes_call (takes_of rfl rfl rfl rfl) (fun _ _ _ _ h => h)) (pa_cons (pe_lc (own := [("one", 2)]) (g := gName 2) (tt := tYes) rfl sc_lifted.nd (k_piL K (pv 0)) (blkOk_by (N := ["pattern", "k", "one"]) (sc := defScope s_lifted) (by decide +kernel)) (fun _ _ _ _ _ => pg_name (i := 2) sc_lifted.nd rfl (Or.inl rfl)) (fun _ _ _ _ _ => pts_nil) (fun _ _ _ _ _ => (pe_op op_add (pv 2) (pv 1)))) pa_nil)))))), ?_⟩
    obtain ⟨v, o, k, rfl, hk, hkk, q⟩ := h
    dsimp only [cxOf, L2.start, List.map_cons, List.map_nil, List.length_cons, List.length_nil, Nat.reduceAdd, Nat.reduceSub, List.replicate_succ, List.replicate_zero, List.cons_append, List.nil_append, Nat.zero_add, List.reduceReplicate, List.map]
    by_cases hg : rowOk o = true ∧ clashOf (rowsOf o) = none
    case neg => exact xq_drop (rz_call (by (repeat' (first | with_reducible exact ev_c | ((with_reducible show Ev (tVar _) _ _ _); exact ev_var rfl) | with_reducible exact ea_nil | with_reducible exact eo_none | with_reducible refine' ea_cons ?_ ?_ | with_reducible refine' eo_some ?_ | with_reducible refine' ev_and2 ?_ ?_ | with_reducible refine' ev_or2 ?_ ?_ | with_reducible refine' ev_notV ?_ | with_reducible exact ru_I | with_reducible refine' ev_un ?_ ?_ | with_reducible exact rv_I0 | with_reducible exact rv_isN | with_reducible exact rv_notN | with_reducible refine' rv_I ?_ | with_reducible refine' rv_eq ?_ | with_reducible refine' rv_ne ?_ | with_reducible refine' ev_op ?_ ?_ ?_ | with_reducible refine' ev_chain2 ?_ ?_ ?_ ?_ ?_ | with_reducible refine' et_B ?_ | with_reducible refine' et_test ?_ | with_reducible refine' et_and2 ?_ ?_ | with_reducible refine' et_or2 ?_ ?_ | with_reducible refine' et_not ?_ | with_reducible refine' ev_call ?_ ?_ | with_reducible refine' ev_callS ?_ ?_ | with_reducible refine' ev_cb ?_ ?_ | with_reducible exact isi_bool (by assumption) | with_reducible exact isi_int (by assumption) | with_reducible exact isi_list (by assumption) | with_reducible exact rc_len (by assumption) | with_reducible exact rc_sum (by assumption) | with_reducible exact rc_abs | with_reducible exact isi_listL (by assumption) | with_reducible exact isi_intI | with_reducible exact isi_boolI | with_reducible exact rc_lenT (by assumption) | with_reducible exact isi_tup (by assumption) | with_reducible exact rv_eqL (by assumption) (by assumption) | with_reducible exact rv_neL (by assumption) (by assumption) | with_reducible exact rv_neT (by assumption) (by assumption) | with_reducible exact rv_ixL (by assumption) (by assumption) | with_reducible exact rv_ixT (by assumption) (by assumption) | with_reducible refine' ev_din ?_ ?_ (by assumption) | with_reducible refine' ev_dnotin ?_ ?_ (by assumption) | with_reducible refine' ev_dget ?_ ?_ (by assumption) (by assumption) | ((with_reducible show SpV _ _ _ _); assumption) | ((with_reducible show RV _ _ _ _ _); assumption) | ((with_reducible show RC _ _ _ _); assumption) | ((with_reducible show CDiv _ _); exact ⟨by omega, by omega⟩) | ((with_reducible show CMul _ _); first | exact .inl ⟨by omega, by omega⟩ | exact .inr ⟨by omega, by omega⟩) | ((with_reducible show CPow _ _); exact ⟨by omega, by omega, by first | decide | assumption | omega⟩) | ((with_reducible show (0 : Int) < _); omega) | ((with_reducible show (0 : Int) ≤ _); omega) | ((with_reducible show scal _ _ = true); rfl)))) (sx_check_pattern hk q hg))
    have hcp := sv_check_pattern (K := K) hk hg.1 hg.2
    obtain ⟨a, ns, rfl, rfl, ha, ⟨h1, h2, h3⟩, hc, q⟩ := door_go hk q hg
    refine q_drop (v := .non) (by (repeat' (first | with_reducible exact ev_c | ((with_reducible show Ev (tVar _) _ _ _); exact ev_var rfl) | with_reducible exact ea_nil | with_reducible exact eo_none | with_reducible refine' ea_cons ?_ ?_ | with_reducible refine' eo_some ?_ | with_reducible refine' ev_and2 ?_ ?_ | with_reducible refine' ev_or2 ?_ ?_ | with_reducible refine' ev_notV ?_ | with_reducible exact ru_I | with_reducible refine' ev_un ?_ ?_ | with_reducible exact rv_I0 | with_reducible exact rv_isN | with_reducible exact rv_notN | with_reducible refine' rv_I ?_ | with_reducible refine' rv_eq ?_ | with_reducible refine' rv_ne ?_ | with_reducible refine' ev_op ?_ ?_ ?_ | with_reducible refine' ev_chain2 ?_ ?_ ?_ ?_ ?_ | with_reducible refine' et_B ?_ | with_reducible refine' et_test ?_ | with_reducible refine' et_and2 ?_ ?_ | with_reducible refine' et_or2 ?_ ?_ | with_reducible refine' et_not ?_ | with_reducible refine' ev_call ?_ ?_ | with_reducible refine' ev_callS ?_ ?_ | with_reducible refine' ev_cb ?_ ?_ | with_reducible exact isi_bool (by assumption) | with_reducible exact isi_int (by assumption) | with_reducible exact isi_list (by assumption) | with_reducible exact rc_len (by assumption) | with_reducible exact rc_sum (by assumption) | with_reducible exact rc_abs | with_reducible exact isi_listL (by assumption) | with_reducible exact isi_intI | with_reducible exact isi_boolI | with_reducible exact rc_lenT (by assumption) | with_reducible exact isi_tup (by assumption) | with_reducible exact rv_eqL (by assumption) (by assumption) | with_reducible exact rv_neL (by assumption) (by assumption) | with_reducible exact rv_neT (by assumption) (by assumption) | with_reducible exact rv_ixL (by assumption) (by assumption) | with_reducible exact rv_ixT (by assumption) (by assumption) | with_reducible refine' ev_din ?_ ?_ (by assumption) | with_reducible refine' ev_dnotin ?_ ?_ (by assumption) | with_reducible refine' ev_dget ?_ ?_ (by assumption) (by assumption) | ((with_reducible show SpV _ _ _ _); assumption) | ((with_reducible show RV _ _ _ _ _); assumption) | ((with_reducible show RC _ _ _ _); assumption) | ((with_reducible show CDiv _ _); exact ⟨by omega, by omega⟩) | ((with_reducible show CMul _ _); first | exact .inl ⟨by omega, by omega⟩ | exact .inr ⟨by omega, by omega⟩) | ((with_reducible show CPow _ _); exact ⟨by omega, by omega, by first | decide | assumption | omega⟩) | ((with_reducible show (0 : Int) < _); omega) | ((with_reducible show (0 : Int) ≤ _); omega) | ((with_reducible show scal _ _ = true); rfl)))) fun H1 e1 => ?_
    by_cases hi : inM k = true
    case neg =>
      have hi : inM k = false := by simpa using hi
      rw [num_bad hi] at q
      have z := sx_check_number (K := K) (E := E) (hkk.mono e1) hi (fun H2 e2 => q H2 (e1.trans e2))
      exact xq_drop (rz_call (by (repeat' (first | with_reducible exact ev_c | ((with_reducible show Ev (tVar _) _ _ _); exact ev_var rfl) | with_reducible exact ea_nil | with_reducible exact eo_none | with_reducible refine' ea_cons ?_ ?_ | with_reducible refine' eo_some ?_ | with_reducible refine' ev_and2 ?_ ?_ | with_reducible refine' ev_or2 ?_ ?_ | with_reducible refine' ev_notV ?_ | with_reducible exact ru_I | with_reducible refine' ev_un ?_ ?_ | with_reducible exact rv_I0 | with_reducible exact rv_isN | with_reducible exact rv_notN | with_reducible refine' rv_I ?_ | with_reducible refine' rv_eq ?_ | with_reducible refine' rv_ne ?_ | with_reducible refine' ev_op ?_ ?_ ?_ | with_reducible refine' ev_chain2 ?_ ?_ ?_ ?_ ?_ | with_reducible refine' et_B ?_ | with_reducible refine' et_test ?_ | with_reducible refine' et_and2 ?_ ?_ | with_reducible refine' et_or2 ?_ ?_ | with_reducible refine' et_not ?_ | with_reducible refine' ev_call ?_ ?_ | with_reducible refine' ev_callS ?_ ?_ | with_reducible refine' ev_cb ?_ ?_ | with_reducible exact isi_bool (by assumption) | with_reducible exact isi_int (by assumption) | with_reducible exact isi_list (by assumption) | with_reducible exact rc_len (by assumption) | with_reducible exact rc_sum (by assumption) | with_reducible exact rc_abs | with_reducible exact isi_listL (by assumption) | with_reducible exact isi_intI | with_reducible exact isi_boolI | with_reducible exact rc_lenT (by assumption) | with_reducible exact isi_tup (by assumption) | with_reducible exact rv_eqL (by assumption) (by assumption) | with_reducible exact rv_neL (by assumption) (by assumption) | with_reducible exact rv_neT (by assumption) (by assumption) | with_reducible exact rv_ixL (by assumption) (by assumption) | with_reducible exact rv_ixT (by assumption) (by assumption) | with_reducible refine' ev_din ?_ ?_ (by assumption) | with_reducible refine' ev_dnotin ?_ ?_ (by assumption) | with_reducible refine' ev_dget ?_ ?_ (by assumption) (by assumption) | ((with_reducible show SpV _ _ _ _); assumption) | ((with_reducible show RV _ _ _ _ _); assumption) | ((with_reducible show RC _ _ _ _); assumption) | ((with_reducible show CDiv _ _); exact ⟨by omega, by omega⟩) | ((with_reducible show CMul _ _); first | exact .inl ⟨by omega, by omega⟩ | exact .inr ⟨by omega, by omega⟩) | ((with_reducible show CPow _ _); exact ⟨by omega, by omega, by first | decide | assumption | omega⟩) | ((with_reducible show (0 : Int) < _); omega) | ((with_reducible show (0 : Int) ≤ _); omega) | ((with_reducible show scal _ _ = true); rfl)))) z)
    have z := sv_check_number (K := K) (hkk.mono e1) hi
    obtain ⟨i, rfl, en⟩ := num_good (f := fun i => keptRe (ns.map (· + i))) hi
    rw [en] at q
    refine q_drop (v := .non) (by (repeat' (first | with_reducible exact ev_c | ((with_reducible show Ev (tVar _) _ _ _); exact ev_var rfl) | with_reducible exact ea_nil | with_reducible exact eo_none | with_reducible refine' ea_cons ?_ ?_ | with_reducible refine' eo_some ?_ | with_reducible refine' ev_and2 ?_ ?_ | with_reducible refine' ev_or2 ?_ ?_ | with_reducible refine' ev_notV ?_ | with_reducible exact ru_I | with_reducible refine' ev_un ?_ ?_ | with_reducible exact rv_I0 | with_reducible exact rv_isN | with_reducible exact rv_notN | with_reducible refine' rv_I ?_ | with_reducible refine' rv_eq ?_ | with_reducible refine' rv_ne ?_ | with_reducible refine' ev_op ?_ ?_ ?_ | with_reducible refine' ev_chain2 ?_ ?_ ?_ ?_ ?_ | with_reducible refine' et_B ?_ | with_reducible refine' et_test ?_ | with_reducible refine' et_and2 ?_ ?_ | with_reducible refine' et_or2 ?_ ?_ | with_reducible refine' et_not ?_ | with_reducible refine' ev_call ?_ ?_ | with_reducible refine' ev_callS ?_ ?_ | with_reducible refine' ev_cb ?_ ?_ | with_reducible exact isi_bool (by assumption) | with_reducible exact isi_int (by assumption) | with_reducible exact isi_list (by assumption) | with_reducible exact rc_len (by assumption) | with_reducible exact rc_sum (by assumption) | with_reducible exact rc_abs | with_reducible exact isi_listL (by assumption) | with_reducible exact isi_intI | with_reducible exact isi_boolI | with_reducible exact rc_lenT (by assumption) | with_reducible exact isi_tup (by assumption) | with_reducible exact rv_eqL (by assumption) (by assumption) | with_reducible exact rv_neL (by assumption) (by assumption) | with_reducible exact rv_neT (by assumption) (by assumption) | with_reducible exact rv_ixL (by assumption) (by assumption) | with_reducible exact rv_ixT (by assumption) (by assumption) | with_reducible refine' ev_din ?_ ?_ (by assumption) | with_reducible refine' ev_dnotin ?_ ?_ (by assumption) | with_reducible refine' ev_dget ?_ ?_ (by assumption) (by assumption) | ((with_reducible show SpV _ _ _ _); assumption) | ((with_reducible show RV _ _ _ _ _); assumption) | ((with_reducible show RC _ _ _ _); assumption) | ((with_reducible show CDiv _ _); exact ⟨by omega, by omega⟩) | ((with_reducible show CMul _ _); first | exact .inl ⟨by omega, by omega⟩ | exact .inr ⟨by omega, by omega⟩) | ((with_reducible show CPow _ _); exact ⟨by omega, by omega, by first | decide | assumption | omega⟩) | ((with_reducible show (0 : Int) < _); omega) | ((with_reducible show (0 : Int) ≤ _); omega) | ((with_reducible show scal _ _ = true); rfl)))) fun H2 e2 => ?_
    have hs2 : SqL K H2 a (ns.map V.int) := ex_l (e1.trans e2) (sq_of ha)
    refine s_retKept (ns := ns.map (· + i)) ?_ (e1.trans e2) q rfl
    have em := el_map (K := K) (tl := tVar 0) (te := tOp (rI0 fun i j => .int (i + j)) (tVar 2) (tVar 1)) (σ := [some (V.ref a), some (V.int i), none]) (H := H2) (j := 2) (vs := [2]) (fun x => match x with | .int n => .int (n + i) | _ => .non) (by (repeat' (first | with_reducible exact ev_c | ((with_reducible show Ev (tVar _) _ _ _); exact ev_var rfl) | with_reducible exact ea_nil | with_reducible exact eo_none | with_reducible refine' ea_cons ?_ ?_ | with_reducible refine' eo_some ?_ | with_reducible refine' ev_and2 ?_ ?_ | with_reducible refine' ev_or2 ?_ ?_ | with_reducible refine' ev_notV ?_ | with_reducible exact ru_I | with_reducible refine' ev_un ?_ ?_ | with_reducible exact rv_I0 | with_reducible exact rv_isN | with_reducible exact rv_notN | with_reducible refine' rv_I ?_ | with_reducible refine' rv_eq ?_ | with_reducible refine' rv_ne ?_ | with_reducible refine' ev_op ?_ ?_ ?_ | with_reducible refine' ev_chain2 ?_ ?_ ?_ ?_ ?_ | with_reducible refine' et_B ?_ | with_reducible refine' et_test ?_ | with_reducible refine' et_and2 ?_ ?_ | with_reducible refine' et_or2 ?_ ?_ | with_reducible refine' et_not ?_ | with_reducible refine' ev_call ?_ ?_ | with_reducible refine' ev_callS ?_ ?_ | with_reducible refine' ev_cb ?_ ?_ | with_reducible exact isi_bool (by assumption) | with_reducible exact isi_int (by assumption) | with_reducible exact isi_list (by assumption) | with_reducible exact rc_len (by assumption) | with_reducible exact rc_sum (by assumption) | with_reducible exact rc_abs | with_reducible exact isi_listL (by assumption) | with_reducible exact isi_intI | with_reducible exact isi_boolI | with_reducible exact rc_lenT (by assumption) | with_reducible exact isi_tup (by assumption) | with_reducible exact rv_eqL (by assumption) (by assumption) | with_reducible exact rv_neL (by assumption) (by assumption) | with_reducible exact rv_neT (by assumption) (by assumption) | with_reducible exact rv_ixL (by assumption) (by assumption) | with_reducible exact rv_ixT (by assumption) (by assumption) | with_reducible refine' ev_din ?_ ?_ (by assumption) | with_reducible refine' ev_dnotin ?_ ?_ (by assumption) | with_reducible refine' ev_dget ?_ ?_ (by assumption) (by assumption) | ((with_reducible show SpV _ _ _ _); assumption) | ((with_reducible show RV _ _ _ _ _); assumption) | ((with_reducible show RC _ _ _ _); assumption) | ((with_reducible show CDiv _ _); exact ⟨by omega, by omega⟩) | ((with_reducible show CMul _ _); first | exact .inl ⟨by omega, by omega⟩ | exact .inr ⟨by omega, by omega⟩) | ((with_reducible show CPow _ _); exact ⟨by omega, by omega, by first | decide | assumption | omega⟩) | ((with_reducible show (0 : Int) < _); omega) | ((with_reducible show (0 : Int) ≤ _); omega) | ((with_reducible show scal _ _ = true); rfl)))) hs2 (by rw [List.length_map]; omega) (fun _ => rfl) (fun x H3 e3 hx => by
      obtain ⟨n, _, rfl⟩ := List.mem_map.mp hx
      (repeat' (first | with_reducible exact ev_c | ((with_reducible show Ev (tVar _) _ _ _); exact ev_var rfl) | with_reducible exact ea_nil | with_reducible exact eo_none | with_reducible refine' ea_cons ?_ ?_ | with_reducible refine' eo_some ?_ | with_reducible refine' ev_and2 ?_ ?_ | with_reducible refine' ev_or2 ?_ ?_ | with_reducible refine' ev_notV ?_ | with_reducible exact ru_I | with_reducible refine' ev_un ?_ ?_ | with_reducible exact rv_I0 | with_reducible exact rv_isN | with_reducible exact rv_notN | with_reducible refine' rv_I ?_ | with_reducible refine' rv_eq ?_ | with_reducible refine' rv_ne ?_ | with_reducible refine' ev_op ?_ ?_ ?_ | with_reducible refine' ev_chain2 ?_ ?_ ?_ ?_ ?_ | with_reducible refine' et_B ?_ | with_reducible refine' et_test ?_ | with_reducible refine' et_and2 ?_ ?_ | with_reducible refine' et_or2 ?_ ?_ | with_reducible refine' et_not ?_ | with_reducible refine' ev_call ?_ ?_ | with_reducible refine' ev_callS ?_ ?_ | with_reducible refine' ev_cb ?_ ?_ | with_reducible exact isi_bool (by assumption) | with_reducible exact isi_int (by assumption) | with_reducible exact isi_list (by assumption) | with_reducible exact rc_len (by assumption) | with_reducible exact rc_sum (by assumption) | with_reducible exact rc_abs | with_reducible exact isi_listL (by assumption) | with_reducible exact isi_intI | with_reducible exact isi_boolI | with_reducible exact rc_lenT (by assumption) | with_reducible exact isi_tup (by assumption) | with_reducible exact rv_eqL (by assumption) (by assumption) | with_reducible exact rv_neL (by assumption) (by assumption) | with_reducible exact rv_neT (by assumption) (by assumption) | with_reducible exact rv_ixL (by assumption) (by assumption) | with_reducible exact rv_ixT (by assumption) (by assumption) | with_reducible refine' ev_din ?_ ?_ (by assumption) | with_reducible refine' ev_dnotin ?_ ?_ (by assumption) | with_reducible refine' ev_dget ?_ ?_ (by assumption) (by assumption) | ((with_reducible show SpV _ _ _ _); assumption) | ((with_reducible show RV _ _ _ _ _); assumption) | ((with_reducible show RC _ _ _ _); assumption) | ((with_reducible show CDiv _ _); exact ⟨by omega, by omega⟩) | ((with_reducible show CMul _ _); first | exact .inl ⟨by omega, by omega⟩ | exact .inr ⟨by omega, by omega⟩) | ((with_reducible show CPow _ _); exact ⟨by omega, by omega, by first | decide | assumption | omega⟩) | ((with_reducible show (0 : Int) < _); omega) | ((with_reducible show (0 : Int) ≤ _); omega) | ((with_reducible show scal _ _ = true); rfl))))
    rw [List.map_map] at em ⊢
    exact em

end TB

/-! ### after, back, mirrored, gaps -/
namespace TB
open PySem PySem.Spec PyProof.Rows L2 Evl
def afterI (ns ms : List Int) : List Int := (List.range ns.length).map fun b : Nat => ns.getD b 0 + ms.getD (land ns b).toNat 0
def afterRe (o1 o2 : Option (List V)) : Re := doorRe o1 fun ns => doorRe o2 fun ms => if ms.length = ns.length then keptRe (afterI ns ms) else .err "OtherLength"
def sp_after (K : PySem.W.Frag) : Sp := fun vs H Q E => ∃ v1 o1 v2 o2, vs = [v1, v2] ∧ Row H v1 o1 ∧ Row H v2 o2 ∧ Give K (afterRe o1 o2) H Q E
def backI (ns : List Int) : List Int := (List.range ns.length).foldl (fun (acc : List Int) (b : Nat) => acc.set (land ns b).toNat (-(ns.getD b 0))) (List.replicate ns.length 0)
def sp_back (K : PySem.W.Frag) : Sp := fun vs H Q E => ∃ v o, vs = [v] ∧ Row H v o ∧ Give K (doorRe o fun ns => .lst ((backI ns).map V.int)) H Q E
theorem set_fold_len (f : Nat → Nat) (g : Nat → Int) : ∀ (l : List Nat) (acc : List Int), (l.foldl (fun acc b => acc.set (f b) (g b)) acc).length = acc.length
  | [], _ => rfl
  | b :: r, acc => by
    rw [List.foldl_cons, set_fold_len f g r, List.length_set]
def opp (n : Nat) (x : Int) : Nat := ((-x) % (n : Int)).toNat
def mirrorI (ns : List Int) : List Int := (List.range ns.length).foldl (fun (acc : List Int) (b : Nat) => acc.set (opp ns.length ((b : Int) + ns.getD b 0)) (ns.getD b 0)) (List.replicate ns.length 0)
def sp_mirrored (K : PySem.W.Frag) : Sp := fun vs H Q E => ∃ v o, vs = [v] ∧ Row H v o ∧ Give K (doorRe o fun ns => .lst ((mirrorI ns).map V.int)) H Q E
theorem sc_mirrored : FnScope ["pattern", "size", "made", "beat"] ["pattern"] (defScope s_mirrored) := ⟨rfl, rfl, rfl, by decide +kernel, rfl, by decide +kernel, by decide +kernel⟩
theorem ok_mirrored {P : Program} {w : World} {K : PySem.W.Frag} {mg : Str → Option Value} {base : Heap} (T : TXT K mg) : OK P w K mg base "mirrored" ["pattern"] 6 (sp_mirrored K) := by
  have O_check_pattern := ok_check_pattern (P := P) (w := w) (base := base) T
  obtain ⟨fd, F⟩ := T.def_ 11
  refine ⟨_, fd, T.glo 10, F.kp, F.bindsN (fun _ _ _ _ _ _ us hl => match us, hl with | [_], _ => rfl), F.ok sc_mirrored (fun vs H Q E h => ?_) (fun cdv A outer s H vs Q E hr h => ?_), F.bindsA (fun _ _ _ _ _ _ us hl => match us, hl with | [_], _ => rfl)⟩
  · first | (obtain ⟨rfl, _⟩ := h; rfl) | (obtain ⟨_, rfl, _⟩ := h; rfl) | (obtain ⟨_, _, rfl, _⟩ := h; rfl) | (obtain ⟨_, _, _, rfl, _⟩ := h; rfl) | (obtain ⟨_, _, _, _, rfl, _⟩ := h; rfl) | (obtain ⟨_, _, _, _, _, rfl, _⟩ := h; rfl) | (obtain ⟨_, _, _, _, _, _, rfl, _⟩ := h; rfl) | (obtain ⟨_, _, _, _, _, _, _, rfl, _⟩ := h; rfl) | (obtain ⟨_, _, _, _, _, _, _, _, rfl, _⟩ := h; rfl)
  · replace F : FunD K "mirrored" "mirrored" (defArgs s_mirrored) (defBody s_mirrored) (defScope s_mirrored) [] [] (He.ga K "mirrored") fd := F
    refine ⟨_, (pss_cons (ps_expr (pe_own O_check_pattern (hr.mono (by decide)) (by rfl) (passes_call (takes_of rfl rfl rfl rfl) (fun _ _ _ _ h => h)) (pa_cons (pv 0) pa_nil)))
      (pss_cons (ps_set (i := 1) sc_mirrored.nd rfl (Or.inl rfl) (pe_callB (id := "len") (k_len K) (by rfl) (T.free 43) (by decide +kernel) (pa_cons (pv 0) pa_nil)))
      (pss_cons (ps_setLc (i := 2) (own := [("beat", 3)]) (g := gName 3) (tt := tYes) rfl sc_mirrored.nd rfl rfl (sw_true rfl rfl rfl (by decide +kernel)) (pi_range1 (by rfl) (T.free 45) (pa_cons (pv 1) pa_nil)) (blkOk_by (N := ["pattern", "size", "made", "beat"]) (sc := defScope s_mirrored) (by decide +kernel)) (fun _ _ _ _ _ => pg_name (i := 3) sc_mirrored.nd rfl (Or.inl rfl)) (fun _ _ _ _ _ => pts_nil) (fun _ _ _ _ _ => pe_int))
      (pss_cons (ps_for (passes_of rfl) rfl (pi_range1 (by rfl) (T.free 45) (pa_cons (pv 1) pa_nil)) (pg_name (i := 3) sc_mirrored.nd rfl (Or.inl rfl))
        (pss_one (ps_asg (pe_ix (k_ixL K) (pv 0) (pv 3) (fun _ _ => rfl)) (pg_sub (pv 2) (pe_op op_mod (pe_un un_neg (pe_op op_add (pv 3) (pe_ix (k_ixL K) (pv 0) (pv 3) (fun _ _ => rfl)))) (pv 1)) set_list))))
      (pss_one (ps_ret (pv 2))))))), ?_⟩
    obtain ⟨v, o, rfl, hk, q⟩ := h
    dsimp only [cxOf, L2.start, List.map_cons, List.map_nil, List.length_cons, List.length_nil, Nat.reduceAdd, Nat.reduceSub, List.replicate_succ, List.replicate_zero, List.cons_append, List.nil_append, Nat.zero_add, List.reduceReplicate, List.map]
    by_cases hg : rowOk o = true ∧ clashOf (rowsOf o) = none
    case neg => exact xq_drop (rz_call (by (repeat' (first | with_reducible exact ev_c | ((with_reducible show Ev (tVar _) _ _ _); exact ev_var rfl) | with_reducible exact ea_nil | with_reducible exact eo_none | with_reducible refine' ea_cons ?_ ?_ | with_reducible refine' eo_some ?_ | with_reducible refine' ev_and2 ?_ ?_ | with_reducible refine' ev_or2 ?_ ?_ | with_reducible refine' ev_notV ?_ | with_reducible exact ru_I | with_reducible refine' ev_un ?_ ?_ | with_reducible exact rv_I0 | with_reducible exact rv_isN | with_reducible exact rv_notN | with_reducible refine' rv_I ?_ | with_reducible refine' rv_eq ?_ | with_reducible refine' rv_ne ?_ | with_reducible refine' ev_op ?_ ?_ ?_ | with_reducible refine' ev_chain2 ?_ ?_ ?_ ?_ ?_ | with_reducible refine' et_B ?_ | with_reducible refine' et_test ?_ | with_reducible refine' et_and2 ?_ ?_ | with_reducible refine' et_or2 ?_ ?_ | with_reducible refine' et_not ?_ | with_reducible refine' ev_call ?_ ?_ | with_reducible refine' ev_callS ?_ ?_ | with_reducible refine' ev_cb ?_ ?_ | with_reducible exact isi_bool (by assumption) | with_reducible exact isi_int (by assumption) | with_reducible exact isi_list (by assumption) | with_reducible exact rc_len (by assumption) | with_reducible exact rc_sum (by assumption) | with_reducible exact rc_abs | with_reducible exact isi_listL (by assumption) | with_reducible exact isi_intI | with_reducible exact isi_boolI | with_reducible exact rc_lenT (by assumption) | with_reducible exact isi_tup (by assumption) | with_reducible exact rv_eqL (by assumption) (by assumption) | with_reducible exact rv_neL (by assumption) (by assumption) | with_reducible exact rv_neT (by assumption) (by assumption) | with_reducible exact rv_ixL (by assumption) (by assumption) | with_reducible exact rv_ixT (by assumption) (by assumption) | with_reducible refine' ev_din ?_ ?_ (by assumption) | with_reducible refine' ev_dnotin ?_ ?_ (by assumption) | with_reducible refine' ev_dget ?_ ?_ (by assumption) (by assumption) | ((with_reducible show SpV _ _ _ _); assumption) | ((with_reducible show RV _ _ _ _ _); assumption) | ((with_reducible show RC _ _ _ _); assumption) | ((with_reducible show CDiv _ _); exact ⟨by omega, by omega⟩) | ((with_reducible show CMul _ _); first | exact .inl ⟨by omega, by omega⟩ | exact .inr ⟨by omega, by omega⟩) | ((with_reducible show CPow _ _); exact ⟨by omega, by omega, by first | decide | assumption | omega⟩) | ((with_reducible show (0 : Int) < _); omega) | ((with_reducible show (0 : Int) ≤ _); omega) | ((with_reducible show scal _ _ = true); rfl)))) (sx_check_pattern hk q hg))
    have hcp := sv_check_pattern (K := K) hk hg.1 hg.2
    obtain ⟨a, ns, rfl, rfl, ha, ⟨h1, h2, h3⟩, hc, q⟩ := door_go hk q hg
    refine q_drop (v := .non) (by (repeat' (first | with_reducible exact ev_c | ((with_reducible show Ev (tVar _) _ _ _); exact ev_var rfl) | with_reducible exact ea_nil | with_reducible exact eo_none | with_reducible refine' ea_cons ?_ ?_ | with_reducible refine' eo_some ?_ | with_reducible refine' ev_and2 ?_ ?_ | with_reducible refine' ev_or2 ?_ ?_ | with_reducible refine' ev_notV ?_ | with_reducible exact ru_I | with_reducible refine' ev_un ?_ ?_ | with_reducible exact rv_I0 | with_reducible exact rv_isN | with_reducible exact rv_notN | with_reducible refine' rv_I ?_ | with_reducible refine' rv_eq ?_ | with_reducible refine' rv_ne ?_ | with_reducible refine' ev_op ?_ ?_ ?_ | with_reducible refine' ev_chain2 ?_ ?_ ?_ ?_ ?_ | with_reducible refine' et_B ?_ | with_reducible refine' et_test ?_ | with_reducible refine' et_and2 ?_ ?_ | with_reducible refine' et_or2 ?_ ?_ | with_reducible refine' et_not ?_ | with_reducible refine' ev_call ?_ ?_ | with_reducible refine' ev_callS ?_ ?_ | with_reducible refine' ev_cb ?_ ?_ | with_reducible exact isi_bool (by assumption) | with_reducible exact isi_int (by assumption) | with_reducible exact isi_list (by assumption) | with_reducible exact rc_len (by assumption) | with_reducible exact rc_sum (by assumption) | with_reducible exact rc_abs | with_reducible exact isi_listL (by assumption) | with_reducible exact isi_intI | with_reducible exact isi_boolI | with_reducible exact rc_lenT (by assumption) | with_reducible exact isi_tup (by assumption) | with_reducible exact rv_eqL (by assumption) (by assumption) | with_reducible exact rv_neL (by assumption) (by assumption) | with_reducible exact rv_neT (by assumption) (by assumption) | with_reducible exact rv_ixL (by assumption) (by assumption) | with_reducible exact rv_ixT (by assumption) (by assumption) | with_reducible refine' ev_din ?_ ?_ (by assumption) | with_reducible refine' ev_dnotin ?_ ?_ (by assumption) | with_reducible refine' ev_dget ?_ ?_ (by assumption) (by assumption) | ((with_reducible show SpV _ _ _ _); assumption) | ((with_reducible show RV _ _ _ _ _); assumption) | ((with_reducible show RC _ _ _ _); assumption) | ((with_reducible show CDiv _ _); exact ⟨by omega, by omega⟩) | ((with_reducible show CMul _ _); first | exact .inl ⟨by omega, by omega⟩ | exact .inr ⟨by omega, by omega⟩) | ((with_reducible show CPow _ _); exact ⟨by omega, by omega, by first | decide | assumption | omega⟩) | ((with_reducible show (0 : Int) < _); omega) | ((with_reducible show (0 : Int) ≤ _); omega) | ((with_reducible show scal _ _ = true); rfl)))) fun H1 e1 => ?_
    have s1 : SqL K H1 a (ns.map V.int) := ex_l e1 (sq_of ha)
    refine q_asg (v := .int (ns.length : Int)) (by rw [← List.length_map (as := ns) (f := V.int)]; (repeat' (first | with_reducible exact ev_c | ((with_reducible show Ev (tVar _) _ _ _); exact ev_var rfl) | with_reducible exact ea_nil | with_reducible exact eo_none | with_reducible refine' ea_cons ?_ ?_ | with_reducible refine' eo_some ?_ | with_reducible refine' ev_and2 ?_ ?_ | with_reducible refine' ev_or2 ?_ ?_ | with_reducible refine' ev_notV ?_ | with_reducible exact ru_I | with_reducible refine' ev_un ?_ ?_ | with_reducible exact rv_I0 | with_reducible exact rv_isN | with_reducible exact rv_notN | with_reducible refine' rv_I ?_ | with_reducible refine' rv_eq ?_ | with_reducible refine' rv_ne ?_ | with_reducible refine' ev_op ?_ ?_ ?_ | with_reducible refine' ev_chain2 ?_ ?_ ?_ ?_ ?_ | with_reducible refine' et_B ?_ | with_reducible refine' et_test ?_ | with_reducible refine' et_and2 ?_ ?_ | with_reducible refine' et_or2 ?_ ?_ | with_reducible refine' et_not ?_ | with_reducible refine' ev_call ?_ ?_ | with_reducible refine' ev_callS ?_ ?_ | with_reducible refine' ev_cb ?_ ?_ | with_reducible exact isi_bool (by assumption) | with_reducible exact isi_int (by assumption) | with_reducible exact isi_list (by assumption) | with_reducible exact rc_len (by assumption) | with_reducible exact rc_sum (by assumption) | with_reducible exact rc_abs | with_reducible exact isi_listL (by assumption) | with_reducible exact isi_intI | with_reducible exact isi_boolI | with_reducible exact rc_lenT (by assumption) | with_reducible exact isi_tup (by assumption) | with_reducible exact rv_eqL (by assumption) (by assumption) | with_reducible exact rv_neL (by assumption) (by assumption) | with_reducible exact rv_neT (by assumption) (by assumption) | with_reducible exact rv_ixL (by assumption) (by assumption) | with_reducible exact rv_ixT (by assumption) (by assumption) | with_reducible refine' ev_din ?_ ?_ (by assumption) | with_reducible refine' ev_dnotin ?_ ?_ (by assumption) | with_reducible refine' ev_dget ?_ ?_ (by assumption) (by assumption) | ((with_reducible show SpV _ _ _ _); assumption) | ((with_reducible show RV _ _ _ _ _); assumption) | ((with_reducible show RC _ _ _ _); assumption) | ((with_reducible show CDiv _ _); exact ⟨by omega, by omega⟩) | ((with_reducible show CMul _ _); first | exact .inl ⟨by omega, by omega⟩ | exact .inr ⟨by omega, by omega⟩) | ((with_reducible show CPow _ _); exact ⟨by omega, by omega, by first | decide | assumption | omega⟩) | ((with_reducible show (0 : Int) < _); omega) | ((with_reducible show (0 : Int) ≤ _); omega) | ((with_reducible show scal _ _ = true); rfl)))) fun H2 e2 => ?_
    refine q_asgL (el_rngI (n := ns.length) (fun _ => 0) (by (repeat' (first | with_reducible exact ev_c | ((with_reducible show Ev (tVar _) _ _ _); exact ev_var rfl) | with_reducible exact ea_nil | with_reducible exact eo_none | with_reducible refine' ea_cons ?_ ?_ | with_reducible refine' eo_some ?_ | with_reducible refine' ev_and2 ?_ ?_ | with_reducible refine' ev_or2 ?_ ?_ | with_reducible refine' ev_notV ?_ | with_reducible exact ru_I | with_reducible refine' ev_un ?_ ?_ | with_reducible exact rv_I0 | with_reducible exact rv_isN | with_reducible exact rv_notN | with_reducible refine' rv_I ?_ | with_reducible refine' rv_eq ?_ | with_reducible refine' rv_ne ?_ | with_reducible refine' ev_op ?_ ?_ ?_ | with_reducible refine' ev_chain2 ?_ ?_ ?_ ?_ ?_ | with_reducible refine' et_B ?_ | with_reducible refine' et_test ?_ | with_reducible refine' et_and2 ?_ ?_ | with_reducible refine' et_or2 ?_ ?_ | with_reducible refine' et_not ?_ | with_reducible refine' ev_call ?_ ?_ | with_reducible refine' ev_callS ?_ ?_ | with_reducible refine' ev_cb ?_ ?_ | with_reducible exact isi_bool (by assumption) | with_reducible exact isi_int (by assumption) | with_reducible exact isi_list (by assumption) | with_reducible exact rc_len (by assumption) | with_reducible exact rc_sum (by assumption) | with_reducible exact rc_abs | with_reducible exact isi_listL (by assumption) | with_reducible exact isi_intI | with_reducible exact isi_boolI | with_reducible exact rc_lenT (by assumption) | with_reducible exact isi_tup (by assumption) | with_reducible exact rv_eqL (by assumption) (by assumption) | with_reducible exact rv_neL (by assumption) (by assumption) | with_reducible exact rv_neT (by assumption) (by assumption) | with_reducible exact rv_ixL (by assumption) (by assumption) | with_reducible exact rv_ixT (by assumption) (by assumption) | with_reducible refine' ev_din ?_ ?_ (by assumption) | with_reducible refine' ev_dnotin ?_ ?_ (by assumption) | with_reducible refine' ev_dget ?_ ?_ (by assumption) (by assumption) | ((with_reducible show SpV _ _ _ _); assumption) | ((with_reducible show RV _ _ _ _ _); assumption) | ((with_reducible show RC _ _ _ _); assumption) | ((with_reducible show CDiv _ _); exact ⟨by omega, by omega⟩) | ((with_reducible show CMul _ _); first | exact .inl ⟨by omega, by omega⟩ | exact .inr ⟨by omega, by omega⟩) | ((with_reducible show CPow _ _); exact ⟨by omega, by omega, by first | decide | assumption | omega⟩) | ((with_reducible show (0 : Int) < _); omega) | ((with_reducible show (0 : Int) ≤ _); omega) | ((with_reducible show scal _ _ = true); rfl)))) (by omega) (fun _ => rfl) fun i H3 e3 hi => by (repeat' (first | with_reducible exact ev_c | ((with_reducible show Ev (tVar _) _ _ _); exact ev_var rfl) | with_reducible exact ea_nil | with_reducible exact eo_none | with_reducible refine' ea_cons ?_ ?_ | with_reducible refine' eo_some ?_ | with_reducible refine' ev_and2 ?_ ?_ | with_reducible refine' ev_or2 ?_ ?_ | with_reducible refine' ev_notV ?_ | with_reducible exact ru_I | with_reducible refine' ev_un ?_ ?_ | with_reducible exact rv_I0 | with_reducible exact rv_isN | with_reducible exact rv_notN | with_reducible refine' rv_I ?_ | with_reducible refine' rv_eq ?_ | with_reducible refine' rv_ne ?_ | with_reducible refine' ev_op ?_ ?_ ?_ | with_reducible refine' ev_chain2 ?_ ?_ ?_ ?_ ?_ | with_reducible refine' et_B ?_ | with_reducible refine' et_test ?_ | with_reducible refine' et_and2 ?_ ?_ | with_reducible refine' et_or2 ?_ ?_ | with_reducible refine' et_not ?_ | with_reducible refine' ev_call ?_ ?_ | with_reducible refine' ev_callS ?_ ?_ | with_reducible refine' ev_cb ?_ ?_ | with_reducible exact isi_bool (by assumption) | with_reducible exact isi_int (by assumption) | with_reducible exact isi_list (by assumption) | with_reducible exact rc_len (by assumption) | with_reducible exact rc_sum (by assumption) | with_reducible exact rc_abs | with_reducible exact isi_listL (by assumption) | with_reducible exact isi_intI | with_reducible exact isi_boolI | with_reducible exact rc_lenT (by assumption) | with_reducible exact isi_tup (by assumption) | with_reducible exact rv_eqL (by assumption) (by assumption) | with_reducible exact rv_neL (by assumption) (by assumption) | with_reducible exact rv_neT (by assumption) (by assumption) | with_reducible exact rv_ixL (by assumption) (by assumption) | with_reducible exact rv_ixT (by assumption) (by assumption) | with_reducible refine' ev_din ?_ ?_ (by assumption) | with_reducible refine' ev_dnotin ?_ ?_ (by assumption) | with_reducible refine' ev_dget ?_ ?_ (by assumption) (by assumption) | ((with_reducible show SpV _ _ _ _); assumption) | ((with_reducible show RV _ _ _ _ _); assumption) | ((with_reducible show RC _ _ _ _); assumption) | ((with_reducible show CDiv _ _); exact ⟨by omega, by omega⟩) | ((with_reducible show CMul _ _); first | exact .inl ⟨by omega, by omega⟩ | exact .inr ⟨by omega, by omega⟩) | ((with_reducible show CPow _ _); exact ⟨by omega, by omega, by first | decide | assumption | omega⟩) | ((with_reducible show (0 : Int) < _); omega) | ((with_reducible show (0 : Int) ≤ _); omega) | ((with_reducible show scal _ _ = true); rfl)))) fun p H3 hp e3 h3' => ?_
    rw [show (List.range ns.length).map (fun _ => (0 : Int)) = List.replicate ns.length 0 by rw [List.map_const', List.length_range]] at h3'
    have p0 : H p = none := fresh_back (e1.trans e2) hp
    refine q_forR1 (n := (ns.length : Int)) (by (repeat' (first | with_reducible exact ev_c | ((with_reducible show Ev (tVar _) _ _ _); exact ev_var rfl) | with_reducible exact ea_nil | with_reducible exact eo_none | with_reducible refine' ea_cons ?_ ?_ | with_reducible refine' eo_some ?_ | with_reducible refine' ev_and2 ?_ ?_ | with_reducible refine' ev_or2 ?_ ?_ | with_reducible refine' ev_notV ?_ | with_reducible exact ru_I | with_reducible refine' ev_un ?_ ?_ | with_reducible exact rv_I0 | with_reducible exact rv_isN | with_reducible exact rv_notN | with_reducible refine' rv_I ?_ | with_reducible refine' rv_eq ?_ | with_reducible refine' rv_ne ?_ | with_reducible refine' ev_op ?_ ?_ ?_ | with_reducible refine' ev_chain2 ?_ ?_ ?_ ?_ ?_ | with_reducible refine' et_B ?_ | with_reducible refine' et_test ?_ | with_reducible refine' et_and2 ?_ ?_ | with_reducible refine' et_or2 ?_ ?_ | with_reducible refine' et_not ?_ | with_reducible refine' ev_call ?_ ?_ | with_reducible refine' ev_callS ?_ ?_ | with_reducible refine' ev_cb ?_ ?_ | with_reducible exact isi_bool (by assumption) | with_reducible exact isi_int (by assumption) | with_reducible exact isi_list (by assumption) | with_reducible exact rc_len (by assumption) | with_reducible exact rc_sum (by assumption) | with_reducible exact rc_abs | with_reducible exact isi_listL (by assumption) | with_reducible exact isi_intI | with_reducible exact isi_boolI | with_reducible exact rc_lenT (by assumption) | with_reducible exact isi_tup (by assumption) | with_reducible exact rv_eqL (by assumption) (by assumption) | with_reducible exact rv_neL (by assumption) (by assumption) | with_reducible exact rv_neT (by assumption) (by assumption) | with_reducible exact rv_ixL (by assumption) (by assumption) | with_reducible exact rv_ixT (by assumption) (by assumption) | with_reducible refine' ev_din ?_ ?_ (by assumption) | with_reducible refine' ev_dnotin ?_ ?_ (by assumption) | with_reducible refine' ev_dget ?_ ?_ (by assumption) (by assumption) | ((with_reducible show SpV _ _ _ _); assumption) | ((with_reducible show RV _ _ _ _ _); assumption) | ((with_reducible show RC _ _ _ _); assumption) | ((with_reducible show CDiv _ _); exact ⟨by omega, by omega⟩) | ((with_reducible show CMul _ _); first | exact .inl ⟨by omega, by omega⟩ | exact .inr ⟨by omega, by omega⟩) | ((with_reducible show CPow _ _); exact ⟨by omega, by omega, by first | decide | assumption | omega⟩) | ((with_reducible show (0 : Int) < _); omega) | ((with_reducible show (0 : Int) ≤ _); omega) | ((with_reducible show scal _ _ = true); rfl)))) (by omega) (fun i σ' H' => ∃ y3, σ' = [some (V.ref a), some (V.int (ns.length : Int)), some (V.ref p), y3] ∧ Ex H2 H' ∧ H' p = some (.lst (((List.range i).foldl (fun (acc : List Int) (b : Nat) => acc.set (opp ns.length ((b : Int) + ns.getD b 0)) (ns.getD b 0)) (List.replicate ns.length 0)).map V.int))) (fun H4 e4 => ⟨_, rfl, e3.trans e4, e4 _ _ h3'⟩) ?_ ?_
    · rintro i σ' H' hi ⟨y3, rfl, e4, h4⟩
      have hi' : i < ns.length := by omega
      have s4 := ex_l (e2.trans e4) s1
      have ga := atI_int hi'
      have l0 : 0 ≤ (-((i : Int) + ns.getD i 0)) % (ns.length : Int) := Int.emod_nonneg _ (by omega)
      have l1 : (-((i : Int) + ns.getD i 0)) % (ns.length : Int) < (ns.length : Int) := Int.emod_lt_of_pos _ (by omega)
      have el : ((opp ns.length ((i : Int) + ns.getD i 0) : Nat) : Int) = (-((i : Int) + ns.getD i 0)) % (ns.length : Int) := by
        unfold opp
        omega
      refine s_setL (j := opp ns.length ((i : Int) + ns.getD i 0)) h4 (v := .int (ns.getD i 0)) (by (repeat' (first | with_reducible exact ev_c | ((with_reducible show Ev (tVar _) _ _ _); exact ev_var rfl) | with_reducible exact ea_nil | with_reducible exact eo_none | with_reducible refine' ea_cons ?_ ?_ | with_reducible refine' eo_some ?_ | with_reducible refine' ev_and2 ?_ ?_ | with_reducible refine' ev_or2 ?_ ?_ | with_reducible refine' ev_notV ?_ | with_reducible exact ru_I | with_reducible refine' ev_un ?_ ?_ | with_reducible exact rv_I0 | with_reducible exact rv_isN | with_reducible exact rv_notN | with_reducible refine' rv_I ?_ | with_reducible refine' rv_eq ?_ | with_reducible refine' rv_ne ?_ | with_reducible refine' ev_op ?_ ?_ ?_ | with_reducible refine' ev_chain2 ?_ ?_ ?_ ?_ ?_ | with_reducible refine' et_B ?_ | with_reducible refine' et_test ?_ | with_reducible refine' et_and2 ?_ ?_ | with_reducible refine' et_or2 ?_ ?_ | with_reducible refine' et_not ?_ | with_reducible refine' ev_call ?_ ?_ | with_reducible refine' ev_callS ?_ ?_ | with_reducible refine' ev_cb ?_ ?_ | with_reducible exact isi_bool (by assumption) | with_reducible exact isi_int (by assumption) | with_reducible exact isi_list (by assumption) | with_reducible exact rc_len (by assumption) | with_reducible exact rc_sum (by assumption) | with_reducible exact rc_abs | with_reducible exact isi_listL (by assumption) | with_reducible exact isi_intI | with_reducible exact isi_boolI | with_reducible exact rc_lenT (by assumption) | with_reducible exact isi_tup (by assumption) | with_reducible exact rv_eqL (by assumption) (by assumption) | with_reducible exact rv_neL (by assumption) (by assumption) | with_reducible exact rv_neT (by assumption) (by assumption) | with_reducible exact rv_ixL (by assumption) (by assumption) | with_reducible exact rv_ixT (by assumption) (by assumption) | with_reducible refine' ev_din ?_ ?_ (by assumption) | with_reducible refine' ev_dnotin ?_ ?_ (by assumption) | with_reducible refine' ev_dget ?_ ?_ (by assumption) (by assumption) | ((with_reducible show SpV _ _ _ _); assumption) | ((with_reducible show RV _ _ _ _ _); assumption) | ((with_reducible show RC _ _ _ _); assumption) | ((with_reducible show CDiv _ _); exact ⟨by omega, by omega⟩) | ((with_reducible show CMul _ _); first | exact .inl ⟨by omega, by omega⟩ | exact .inr ⟨by omega, by omega⟩) | ((with_reducible show CPow _ _); exact ⟨by omega, by omega, by first | decide | assumption | omega⟩) | ((with_reducible show (0 : Int) < _); omega) | ((with_reducible show (0 : Int) ≤ _); omega) | ((with_reducible show scal _ _ = true); rfl)))) (by (repeat' (first | with_reducible exact ev_c | ((with_reducible show Ev (tVar _) _ _ _); exact ev_var rfl) | with_reducible exact ea_nil | with_reducible exact eo_none | with_reducible refine' ea_cons ?_ ?_ | with_reducible refine' eo_some ?_ | with_reducible refine' ev_and2 ?_ ?_ | with_reducible refine' ev_or2 ?_ ?_ | with_reducible refine' ev_notV ?_ | with_reducible exact ru_I | with_reducible refine' ev_un ?_ ?_ | with_reducible exact rv_I0 | with_reducible exact rv_isN | with_reducible exact rv_notN | with_reducible refine' rv_I ?_ | with_reducible refine' rv_eq ?_ | with_reducible refine' rv_ne ?_ | with_reducible refine' ev_op ?_ ?_ ?_ | with_reducible refine' ev_chain2 ?_ ?_ ?_ ?_ ?_ | with_reducible refine' et_B ?_ | with_reducible refine' et_test ?_ | with_reducible refine' et_and2 ?_ ?_ | with_reducible refine' et_or2 ?_ ?_ | with_reducible refine' et_not ?_ | with_reducible refine' ev_call ?_ ?_ | with_reducible refine' ev_callS ?_ ?_ | with_reducible refine' ev_cb ?_ ?_ | with_reducible exact isi_bool (by assumption) | with_reducible exact isi_int (by assumption) | with_reducible exact isi_list (by assumption) | with_reducible exact rc_len (by assumption) | with_reducible exact rc_sum (by assumption) | with_reducible exact rc_abs | with_reducible exact isi_listL (by assumption) | with_reducible exact isi_intI | with_reducible exact isi_boolI | with_reducible exact rc_lenT (by assumption) | with_reducible exact isi_tup (by assumption) | with_reducible exact rv_eqL (by assumption) (by assumption) | with_reducible exact rv_neL (by assumption) (by assumption) | with_reducible exact rv_neT (by assumption) (by assumption) | with_reducible exact rv_ixL (by assumption) (by assumption) | with_reducible exact rv_ixT (by assumption) (by assumption) | with_reducible refine' ev_din ?_ ?_ (by assumption) | with_reducible refine' ev_dnotin ?_ ?_ (by assumption) | with_reducible refine' ev_dget ?_ ?_ (by assumption) (by assumption) | ((with_reducible show SpV _ _ _ _); assumption) | ((with_reducible show RV _ _ _ _ _); assumption) | ((with_reducible show RC _ _ _ _); assumption) | ((with_reducible show CDiv _ _); exact ⟨by omega, by omega⟩) | ((with_reducible show CMul _ _); first | exact .inl ⟨by omega, by omega⟩ | exact .inr ⟨by omega, by omega⟩) | ((with_reducible show CPow _ _); exact ⟨by omega, by omega, by first | decide | assumption | omega⟩) | ((with_reducible show (0 : Int) < _); omega) | ((with_reducible show (0 : Int) ≤ _); omega) | ((with_reducible show scal _ _ = true); rfl)))) (by rw [el]; (repeat' (first | with_reducible exact ev_c | ((with_reducible show Ev (tVar _) _ _ _); exact ev_var rfl) | with_reducible exact ea_nil | with_reducible exact eo_none | with_reducible refine' ea_cons ?_ ?_ | with_reducible refine' eo_some ?_ | with_reducible refine' ev_and2 ?_ ?_ | with_reducible refine' ev_or2 ?_ ?_ | with_reducible refine' ev_notV ?_ | with_reducible exact ru_I | with_reducible refine' ev_un ?_ ?_ | with_reducible exact rv_I0 | with_reducible exact rv_isN | with_reducible exact rv_notN | with_reducible refine' rv_I ?_ | with_reducible refine' rv_eq ?_ | with_reducible refine' rv_ne ?_ | with_reducible refine' ev_op ?_ ?_ ?_ | with_reducible refine' ev_chain2 ?_ ?_ ?_ ?_ ?_ | with_reducible refine' et_B ?_ | with_reducible refine' et_test ?_ | with_reducible refine' et_and2 ?_ ?_ | with_reducible refine' et_or2 ?_ ?_ | with_reducible refine' et_not ?_ | with_reducible refine' ev_call ?_ ?_ | with_reducible refine' ev_callS ?_ ?_ | with_reducible refine' ev_cb ?_ ?_ | with_reducible exact isi_bool (by assumption) | with_reducible exact isi_int (by assumption) | with_reducible exact isi_list (by assumption) | with_reducible exact rc_len (by assumption) | with_reducible exact rc_sum (by assumption) | with_reducible exact rc_abs | with_reducible exact isi_listL (by assumption) | with_reducible exact isi_intI | with_reducible exact isi_boolI | with_reducible exact rc_lenT (by assumption) | with_reducible exact isi_tup (by assumption) | with_reducible exact rv_eqL (by assumption) (by assumption) | with_reducible exact rv_neL (by assumption) (by assumption) | with_reducible exact rv_neT (by assumption) (by assumption) | with_reducible exact rv_ixL (by assumption) (by assumption) | with_reducible exact rv_ixT (by assumption) (by assumption) | with_reducible refine' ev_din ?_ ?_ (by assumption) | with_reducible refine' ev_dnotin ?_ ?_ (by assumption) | with_reducible refine' ev_dget ?_ ?_ (by assumption) (by assumption) | ((with_reducible show SpV _ _ _ _); assumption) | ((with_reducible show RV _ _ _ _ _); assumption) | ((with_reducible show RC _ _ _ _); assumption) | ((with_reducible show CDiv _ _); exact ⟨by omega, by omega⟩) | ((with_reducible show CMul _ _); first | exact .inl ⟨by omega, by omega⟩ | exact .inr ⟨by omega, by omega⟩) | ((with_reducible show CPow _ _); exact ⟨by omega, by omega, by first | decide | assumption | omega⟩) | ((with_reducible show (0 : Int) < _); omega) | ((with_reducible show (0 : Int) ≤ _); omega) | ((with_reducible show scal _ _ = true); rfl)))) (by rw [List.length_map, set_fold_len (fun b => opp ns.length ((b : Int) + ns.getD b 0)) (fun b => ns.getD b 0), List.length_replicate]; omega) fun H5 e5 => ?_
      refine ⟨_, rfl, Ex.mut (e4.trans e5) hp, ?_⟩
      rw [upd_same, List.range_succ, List.foldl_append, ← List.map_set]
      rfl
    · rintro σ' H' ⟨y3, rfl, e4, h4⟩
      exact s_ret (v := .ref p) (by (repeat' (first | with_reducible exact ev_c | ((with_reducible show Ev (tVar _) _ _ _); exact ev_var rfl) | with_reducible exact ea_nil | with_reducible exact eo_none | with_reducible refine' ea_cons ?_ ?_ | with_reducible refine' eo_some ?_ | with_reducible refine' ev_and2 ?_ ?_ | with_reducible refine' ev_or2 ?_ ?_ | with_reducible refine' ev_notV ?_ | with_reducible exact ru_I | with_reducible refine' ev_un ?_ ?_ | with_reducible exact rv_I0 | with_reducible exact rv_isN | with_reducible exact rv_notN | with_reducible refine' rv_I ?_ | with_reducible refine' rv_eq ?_ | with_reducible refine' rv_ne ?_ | with_reducible refine' ev_op ?_ ?_ ?_ | with_reducible refine' ev_chain2 ?_ ?_ ?_ ?_ ?_ | with_reducible refine' et_B ?_ | with_reducible refine' et_test ?_ | with_reducible refine' et_and2 ?_ ?_ | with_reducible refine' et_or2 ?_ ?_ | with_reducible refine' et_not ?_ | with_reducible refine' ev_call ?_ ?_ | with_reducible refine' ev_callS ?_ ?_ | with_reducible refine' ev_cb ?_ ?_ | with_reducible exact isi_bool (by assumption) | with_reducible exact isi_int (by assumption) | with_reducible exact isi_list (by assumption) | with_reducible exact rc_len (by assumption) | with_reducible exact rc_sum (by assumption) | with_reducible exact rc_abs | with_reducible exact isi_listL (by assumption) | with_reducible exact isi_intI | with_reducible exact isi_boolI | with_reducible exact rc_lenT (by assumption) | with_reducible exact isi_tup (by assumption) | with_reducible exact rv_eqL (by assumption) (by assumption) | with_reducible exact rv_neL (by assumption) (by assumption) | with_reducible exact rv_neT (by assumption) (by assumption) | with_reducible exact rv_ixL (by assumption) (by assumption) | with_reducible exact rv_ixT (by assumption) (by assumption) | with_reducible refine' ev_din ?_ ?_ (by assumption) | with_reducible refine' ev_dnotin ?_ ?_ (by assumption) | with_reducible refine' ev_dget ?_ ?_ (by assumption) (by assumption) | ((with_reducible show SpV _ _ _ _); assumption) | ((with_reducible show RV _ _ _ _ _); assumption) | ((with_reducible show RC _ _ _ _); assumption) | ((with_reducible show CDiv _ _); exact ⟨by omega, by omega⟩) | ((with_reducible show CMul _ _); first | exact .inl ⟨by omega, by omega⟩ | exact .inr ⟨by omega, by omega⟩) | ((with_reducible show CPow _ _); exact ⟨by omega, by omega, by first | decide | assumption | omega⟩) | ((with_reducible show (0 : Int) < _); omega) | ((with_reducible show (0 : Int) ≤ _); omega) | ((with_reducible show scal _ _ = true); rfl)))) fun H5 e5 => q p H5 p0 (((e1.trans e2).trans e4).trans e5) (e5 _ _ h4)

def gapsI (ns : List Int) (h : Int) : List Int := (List.range ns.length).map fun b : Nat => h - ns.getD (opp ns.length (b : Int)) 0
def sp_gaps (K : PySem.W.Frag) : Sp := fun vs H Q E => ∃ v o k, vs = [v, k] ∧ Row H v o ∧ Kd H k ∧ Give K (doorRe o fun ns => numRe k fun i => keptRe (gapsI ns i)) H Q E
theorem sc_gaps : FnScope ["pattern", "h", "size", "beat"] ["pattern", "h"] (defScope s_gaps) := ⟨rfl, rfl, rfl, by decide +kernel, rfl, by decide +kernel, by decide +kernel⟩
theorem ok_gaps {P : Program} {w : World} {K : PySem.W.Frag} {mg : Str → Option Value} {base : Heap} (T : TXT K mg) : OK P w K mg base "gaps" ["pattern", "h"] 6 (sp_gaps K) := by
  have O_check_pattern := ok_check_pattern (P := P) (w := w) (base := base) T
  have O_check_number := ok_check_number (P := P) (w := w) (base := base) T
  have O_kept := ok_kept (P := P) (w := w) (base := base) T
  obtain ⟨fd, F⟩ := T.def_ 12
  refine ⟨_, fd, T.glo 11, F.kp, F.bindsN (fun _ _ _ _ _ _ us hl => match us, hl with | [_, _], _ => rfl), F.ok sc_gaps (fun vs H Q E h => ?_) (fun cdv A outer s H vs Q E hr h => ?_), F.bindsA (fun _ _ _ _ _ _ us hl => match us, hl with | [_, _], _ => rfl)⟩
  · first | (obtain ⟨rfl, _⟩ := h; rfl) | (obtain ⟨_, rfl, _⟩ := h; rfl) | (obtain ⟨_, _, rfl, _⟩ := h; rfl) | (obtain ⟨_, _, _, rfl, _⟩ := h; rfl) | (obtain ⟨_, _, _, _, rfl, _⟩ := h; rfl) | (obtain ⟨_, _, _, _, _, rfl, _⟩ := h; rfl) | (obtain ⟨_, _, _, _, _, _, rfl, _⟩ := h; rfl) | (obtain ⟨_, _, _, _, _, _, _, rfl, _⟩ := h; rfl) | (obtain ⟨_, _, _, _, _, _, _, _, rfl, _⟩ := h; rfl)
  · replace F : FunD K "gaps" "gaps" (defArgs s_gaps) (defBody s_gaps) (defScope s_gaps) [] [] (He.ga K "gaps") fd := F
    refine ⟨_, (pss_cons (ps_expr (pe_own O_check_pattern (hr.mono (by decide)) (by rfl) (passes_call (takes_of rfl rfl rfl rfl) (fun _ _ _ _ h => h)) (pa_cons (pv 0) pa_nil)))
      (pss_cons (ps_expr (pe_own O_check_number (hr.mono (by decide)) (by rfl) (passes_call (takes_of rfl rfl rfl rfl) (fun _ _ _ _ h => h)) (pa_cons (pv 1) pa_nil)))
      (pss_cons (ps_set (i := 2) sc_gaps.nd rfl (Or.inr rfl) (pe_callB (id := "len") (k_len K) (by rfl) (T.free 43) (by decide +kernel) (pa_cons (pv 0) pa_nil)))
      (pss_one (ps_ret (pe_own O_kept (hr.mono (by decide)) (by rfl) (passes_call (takes_of rfl rfl rfl rfl) (fun _ _ _ _ h => h)) (pa_cons (pe_lc (own := [("beat", 3)]) (g := gName 3) (tt := tYes) rfl sc_gaps.nd (pi_range1 (by rfl) (T.free 45) (pa_cons (pv 2) pa_nil)) (blkOk_by (N := ["pattern", "h", "size", "beat"]) (sc := defScope s_gaps) (by decide +kernel)) (fun _ _ _ _ _ => pg_name (i := 3) sc_gaps.nd rfl (Or.inl rfl)) (fun _ _ _ _ _ => pts_nil) (fun _ _ _ _ _ => (pe_op op_sub (pv 1) (pe_ix (k_ixL K) (pv 0) (pe_op op_mod (pe_un un_neg (pv 3)) (pv 2)) (fun _ _ => rfl))))) pa_nil))))))), ?_⟩
    obtain ⟨v, o, k, rfl, hk, hkk, q⟩ := h
    dsimp only [cxOf, L2.start, List.map_cons, List.map_nil, List.length_cons, List.length_nil, Nat.reduceAdd, Nat.reduceSub, List.replicate_succ, List.replicate_zero, List.cons_append, List.nil_append, Nat.zero_add, List.reduceReplicate, List.map]
    by_cases hg : rowOk o = true ∧ clashOf (rowsOf o) = none
    case neg => exact xq_drop (rz_call (by (repeat' (first | with_reducible exact ev_c | ((with_reducible show Ev (tVar _) _ _ _); exact ev_var rfl) | with_reducible exact ea_nil | with_reducible exact eo_none | with_reducible refine' ea_cons ?_ ?_ | with_reducible refine' eo_some ?_ | with_reducible refine' ev_and2 ?_ ?_ | with_reducible refine' ev_or2 ?_ ?_ | with_reducible refine' ev_notV ?_ | with_reducible exact ru_I | with_reducible refine' ev_un ?_ ?_ | with_reducible exact rv_I0 | with_reducible exact rv_isN | with_reducible exact rv_notN | with_reducible refine' rv_I ?_ | with_reducible refine' rv_eq ?_ | with_reducible refine' rv_ne ?_ | with_reducible refine' ev_op ?_ ?_ ?_ | with_reducible refine' ev_chain2 ?_ ?_ ?_ ?_ ?_ | with_reducible refine' et_B ?_ | with_reducible refine' et_test ?_ | with_reducible refine' et_and2 ?_ ?_ | with_reducible refine' et_or2 ?_ ?_ | with_reducible refine' et_not ?_ | with_reducible refine' ev_call ?_ ?_ | with_reducible refine' ev_callS ?_ ?_ | with_reducible refine' ev_cb ?_ ?_ | with_reducible exact isi_bool (by assumption) | with_reducible exact isi_int (by assumption) | with_reducible exact isi_list (by assumption) | with_reducible exact rc_len (by assumption) | with_reducible exact rc_sum (by assumption) | with_reducible exact rc_abs | with_reducible exact isi_listL (by assumption) | with_reducible exact isi_intI | with_reducible exact isi_boolI | with_reducible exact rc_lenT (by assumption) | with_reducible exact isi_tup (by assumption) | with_reducible exact rv_eqL (by assumption) (by assumption) | with_reducible exact rv_neL (by assumption) (by assumption) | with_reducible exact rv_neT (by assumption) (by assumption) | with_reducible exact rv_ixL (by assumption) (by assumption) | with_reducible exact rv_ixT (by assumption) (by assumption) | with_reducible refine' ev_din ?_ ?_ (by assumption) | with_reducible refine' ev_dnotin ?_ ?_ (by assumption) | with_reducible refine' ev_dget ?_ ?_ (by assumption) (by assumption) | ((with_reducible show SpV _ _ _ _); assumption) | ((with_reducible show RV _ _ _ _ _); assumption) | ((with_reducible show RC _ _ _ _); assumption) | ((with_reducible show CDiv _ _); exact ⟨by omega, by omega⟩) | ((with_reducible show CMul _ _); first | exact .inl ⟨by omega, by omega⟩ | exact .inr ⟨by omega, by omega⟩) | ((with_reducible show CPow _ _); exact ⟨by omega, by omega, by first | decide | assumption | omega⟩) | ((with_reducible show (0 : Int) < _); omega) | ((with_reducible show (0 : Int) ≤ _); omega) | ((with_reducible show scal _ _ = true); rfl)))) (sx_check_pattern hk q hg))
    have hcp := sv_check_pattern (K := K) hk hg.1 hg.2
    obtain ⟨a, ns, rfl, rfl, ha, ⟨h1, h2, h3⟩, hc, q⟩ := door_go hk q hg
    refine q_drop (v := .non) (by (repeat' (first | with_reducible exact ev_c | ((with_reducible show Ev (tVar _) _ _ _); exact ev_var rfl) | with_reducible exact ea_nil | with_reducible exact eo_none | with_reducible refine' ea_cons ?_ ?_ | with_reducible refine' eo_some ?_ | with_reducible refine' ev_and2 ?_ ?_ | with_reducible refine' ev_or2 ?_ ?_ | with_reducible refine' ev_notV ?_ | with_reducible exact ru_I | with_reducible refine' ev_un ?_ ?_ | with_reducible exact rv_I0 | with_reducible exact rv_isN | with_reducible exact rv_notN | with_reducible refine' rv_I ?_ | with_reducible refine' rv_eq ?_ | with_reducible refine' rv_ne ?_ | with_reducible refine' ev_op ?_ ?_ ?_ | with_reducible refine' ev_chain2 ?_ ?_ ?_ ?_ ?_ | with_reducible refine' et_B ?_ | with_reducible refine' et_test ?_ | with_reducible refine' et_and2 ?_ ?_ | with_reducible refine' et_or2 ?_ ?_ | with_reducible refine' et_not ?_ | with_reducible refine' ev_call ?_ ?_ | with_reducible refine' ev_callS ?_ ?_ | with_reducible refine' ev_cb ?_ ?_ | with_reducible exact isi_bool (by assumption) | with_reducible exact isi_int (by assumption) | with_reducible exact isi_list (by assumption) | with_reducible exact rc_len (by assumption) | with_reducible exact rc_sum (by assumption) | with_reducible exact rc_abs | with_reducible exact isi_listL (by assumption) | with_reducible exact isi_intI | with_reducible exact isi_boolI | with_reducible exact rc_lenT (by assumption) | with_reducible exact isi_tup (by assumption) | with_reducible exact rv_eqL (by assumption) (by assumption) | with_reducible exact rv_neL (by assumption) (by assumption) | with_reducible exact rv_neT (by assumption) (by assumption) | with_reducible exact rv_ixL (by assumption) (by assumption) | with_reducible exact rv_ixT (by assumption) (by assumption) | with_reducible refine' ev_din ?_ ?_ (by assumption) | with_reducible refine' ev_dnotin ?_ ?_ (by assumption) | with_reducible refine' ev_dget ?_ ?_ (by assumption) (by assumption) | ((with_reducible show SpV _ _ _ _); assumption) | ((with_reducible show RV _ _ _ _ _); assumption) | ((with_reducible show RC _ _ _ _); assumption) | ((with_reducible show CDiv _ _); exact ⟨by omega, by omega⟩) | ((with_reducible show CMul _ _); first | exact .inl ⟨by omega, by omega⟩ | exact .inr ⟨by omega, by omega⟩) | ((with_reducible show CPow _ _); exact ⟨by omega, by omega, by first | decide | assumption | omega⟩) | ((with_reducible show (0 : Int) < _); omega) | ((with_reducible show (0 : Int) ≤ _); omega) | ((with_reducible show scal _ _ = true); rfl)))) fun H1 e1 => ?_
    by_cases hi : inM k = true
    case neg =>
      have hi : inM k = false := by simpa using hi
      rw [num_bad hi] at q
      have z := sx_check_number (K := K) (E := E) (hkk.mono e1) hi (fun H2 e2 => q H2 (e1.trans e2))
      exact xq_drop (rz_call (by (repeat' (first | with_reducible exact ev_c | ((with_reducible show Ev (tVar _) _ _ _); exact ev_var rfl) | with_reducible exact ea_nil | with_reducible exact eo_none | with_reducible refine' ea_cons ?_ ?_ | with_reducible refine' eo_some ?_ | with_reducible refine' ev_and2 ?_ ?_ | with_reducible refine' ev_or2 ?_ ?_ | with_reducible refine' ev_notV ?_ | with_reducible exact ru_I | with_reducible refine' ev_un ?_ ?_ | with_reducible exact rv_I0 | with_reducible exact rv_isN | with_reducible exact rv_notN | with_reducible refine' rv_I ?_ | with_reducible refine' rv_eq ?_ | with_reducible refine' rv_ne ?_ | with_reducible refine' ev_op ?_ ?_ ?_ | with_reducible refine' ev_chain2 ?_ ?_ ?_ ?_ ?_ | with_reducible refine' et_B ?_ | with_reducible refine' et_test ?_ | with_reducible refine' et_and2 ?_ ?_ | with_reducible refine' et_or2 ?_ ?_ | with_reducible refine' et_not ?_ | with_reducible refine' ev_call ?_ ?_ | with_reducible refine' ev_callS ?_ ?_ | with_reducible refine' ev_cb ?_ ?_ | with_reducible exact isi_bool (by assumption) | with_reducible exact isi_int (by assumption) | with_reducible exact isi_list (by assumption) | with_reducible exact rc_len (by assumption) | with_reducible exact rc_sum (by assumption) | with_reducible exact rc_abs | with_reducible exact isi_listL (by assumption) | with_reducible exact isi_intI | with_reducible exact isi_boolI | with_reducible exact rc_lenT (by assumption) | with_reducible exact isi_tup (by assumption) | with_reducible exact rv_eqL (by assumption) (by assumption) | with_reducible exact rv_neL (by assumption) (by assumption) | with_reducible exact rv_neT (by assumption) (by assumption) | with_reducible exact rv_ixL (by assumption) (by assumption) | with_reducible exact rv_ixT (by assumption) (by assumption) | with_reducible refine' ev_din ?_ ?_ (by assumption) | with_reducible refine' ev_dnotin ?_ ?_ (by assumption) | with_reducible refine' ev_dget ?_ ?_ (by assumption) (by assumption) | ((with_reducible show SpV _ _ _ _); assumption) | ((with_reducible show RV _ _ _ _ _); assumption) | ((with_reducible show RC _ _ _ _); assumption) | ((with_reducible show CDiv _ _); exact ⟨by omega, by omega⟩) | ((with_reducible show CMul _ _); first | exact .inl ⟨by omega, by omega⟩ | exact .inr ⟨by omega, by omega⟩) | ((with_reducible show CPow _ _); exact ⟨by omega, by omega, by first | decide | assumption | omega⟩) | ((with_reducible show (0 : Int) < _); omega) | ((with_reducible show (0 : Int) ≤ _); omega) | ((with_reducible show scal _ _ = true); rfl)))) z)
    have z := sv_check_number (K := K) (hkk.mono e1) hi
    obtain ⟨i, rfl, en⟩ := num_good (f := fun i => keptRe (gapsI ns i)) hi
    rw [en] at q
    refine q_drop (v := .non) (by (repeat' (first | with_reducible exact ev_c | ((with_reducible show Ev (tVar _) _ _ _); exact ev_var rfl) | with_reducible exact ea_nil | with_reducible exact eo_none | with_reducible refine' ea_cons ?_ ?_ | with_reducible refine' eo_some ?_ | with_reducible refine' ev_and2 ?_ ?_ | with_reducible refine' ev_or2 ?_ ?_ | with_reducible refine' ev_notV ?_ | with_reducible exact ru_I | with_reducible refine' ev_un ?_ ?_ | with_reducible exact rv_I0 | with_reducible exact rv_isN | with_reducible exact rv_notN | with_reducible refine' rv_I ?_ | with_reducible refine' rv_eq ?_ | with_reducible refine' rv_ne ?_ | with_reducible refine' ev_op ?_ ?_ ?_ | with_reducible refine' ev_chain2 ?_ ?_ ?_ ?_ ?_ | with_reducible refine' et_B ?_ | with_reducible refine' et_test ?_ | with_reducible refine' et_and2 ?_ ?_ | with_reducible refine' et_or2 ?_ ?_ | with_reducible refine' et_not ?_ | with_reducible refine' ev_call ?_ ?_ | with_reducible refine' ev_callS ?_ ?_ | with_reducible refine' ev_cb ?_ ?_ | with_reducible exact isi_bool (by assumption) | with_reducible exact isi_int (by assumption) | with_reducible exact isi_list (by assumption) | with_reducible exact rc_len (by assumption) | with_reducible exact rc_sum (by assumption) | with_reducible exact rc_abs | with_reducible exact isi_listL (by assumption) | with_reducible exact isi_intI | with_reducible exact isi_boolI | with_reducible exact rc_lenT (by assumption) | with_reducible exact isi_tup (by assumption) | with_reducible exact rv_eqL (by assumption) (by assumption) | with_reducible exact rv_neL (by assumption) (by assumption) | with_reducible exact rv_neT (by assumption) (by assumption) | with_reducible exact rv_ixL (by assumption) (by assumption) | with_reducible exact rv_ixT (by assumption) (by assumption) | with_reducible refine' ev_din ?_ ?_ (by assumption) | with_reducible refine' ev_dnotin ?_ ?_ (by assumption) | with_reducible refine' ev_dget ?_ ?_ (by assumption) (by assumption) | ((with_reducible show SpV _ _ _ _); assumption) | ((with_reducible show RV _ _ _ _ _); assumption) | ((with_reducible show RC _ _ _ _); assumption) | ((with_reducible show CDiv _ _); exact ⟨by omega, by omega⟩) | ((with_reducible show CMul _ _); first | exact .inl ⟨by omega, by omega⟩ | exact .inr ⟨by omega, by omega⟩) | ((with_reducible show CPow _ _); exact ⟨by omega, by omega, by first | decide | assumption | omega⟩) | ((with_reducible show (0 : Int) < _); omega) | ((with_reducible show (0 : Int) ≤ _); omega) | ((with_reducible show scal _ _ = true); rfl)))) fun H2 e2 => ?_
    have s2 : SqL K H2 a (ns.map V.int) := ex_l (e1.trans e2) (sq_of ha)
    refine q_asg (v := .int (ns.length : Int)) (by rw [← List.length_map (as := ns) (f := V.int)]; (repeat' (first | with_reducible exact ev_c | ((with_reducible show Ev (tVar _) _ _ _); exact ev_var rfl) | with_reducible exact ea_nil | with_reducible exact eo_none | with_reducible refine' ea_cons ?_ ?_ | with_reducible refine' eo_some ?_ | with_reducible refine' ev_and2 ?_ ?_ | with_reducible refine' ev_or2 ?_ ?_ | with_reducible refine' ev_notV ?_ | with_reducible exact ru_I | with_reducible refine' ev_un ?_ ?_ | with_reducible exact rv_I0 | with_reducible exact rv_isN | with_reducible exact rv_notN | with_reducible refine' rv_I ?_ | with_reducible refine' rv_eq ?_ | with_reducible refine' rv_ne ?_ | with_reducible refine' ev_op ?_ ?_ ?_ | with_reducible refine' ev_chain2 ?_ ?_ ?_ ?_ ?_ | with_reducible refine' et_B ?_ | with_reducible refine' et_test ?_ | with_reducible refine' et_and2 ?_ ?_ | with_reducible refine' et_or2 ?_ ?_ | with_reducible refine' et_not ?_ | with_reducible refine' ev_call ?_ ?_ | with_reducible refine' ev_callS ?_ ?_ | with_reducible refine' ev_cb ?_ ?_ | with_reducible exact isi_bool (by assumption) | with_reducible exact isi_int (by assumption) | with_reducible exact isi_list (by assumption) | with_reducible exact rc_len (by assumption) | with_reducible exact rc_sum (by assumption) | with_reducible exact rc_abs | with_reducible exact isi_listL (by assumption) | with_reducible exact isi_intI | with_reducible exact isi_boolI | with_reducible exact rc_lenT (by assumption) | with_reducible exact isi_tup (by assumption) | with_reducible exact rv_eqL (by assumption) (by assumption) | with_reducible exact rv_neL (by assumption) (by assumption) | with_reducible exact rv_neT (by assumption) (by assumption) | with_reducible exact rv_ixL (by assumption) (by assumption) | with_reducible exact rv_ixT (by assumption) (by assumption) | with_reducible refine' ev_din ?_ ?_ (by assumption) | with_reducible refine' ev_dnotin ?_ ?_ (by assumption) | with_reducible refine' ev_dget ?_ ?_ (by assumption) (by assumption) | ((with_reducible show SpV _ _ _ _); assumption) | ((with_reducible show RV _ _ _ _ _); assumption) | ((with_reducible show RC _ _ _ _); assumption) | ((with_reducible show CDiv _ _); exact ⟨by omega, by omega⟩) | ((with_reducible show CMul _ _); first | exact .inl ⟨by omega, by omega⟩ | exact .inr ⟨by omega, by omega⟩) | ((with_reducible show CPow _ _); exact ⟨by omega, by omega, by first | decide | assumption | omega⟩) | ((with_reducible show (0 : Int) < _); omega) | ((with_reducible show (0 : Int) ≤ _); omega) | ((with_reducible show scal _ _ = true); rfl)))) fun H3 e3 => ?_
    refine s_retKept (ns := gapsI ns i) ?_ ((e1.trans e2).trans e3) q rfl
    refine el_rngI (n := ns.length) (fun b : Nat => i - ns.getD (opp ns.length (b : Int)) 0) (by (repeat' (first | with_reducible exact ev_c | ((with_reducible show Ev (tVar _) _ _ _); exact ev_var rfl) | with_reducible exact ea_nil | with_reducible exact eo_none | with_reducible refine' ea_cons ?_ ?_ | with_reducible refine' eo_some ?_ | with_reducible refine' ev_and2 ?_ ?_ | with_reducible refine' ev_or2 ?_ ?_ | with_reducible refine' ev_notV ?_ | with_reducible exact ru_I | with_reducible refine' ev_un ?_ ?_ | with_reducible exact rv_I0 | with_reducible exact rv_isN | with_reducible exact rv_notN | with_reducible refine' rv_I ?_ | with_reducible refine' rv_eq ?_ | with_reducible refine' rv_ne ?_ | with_reducible refine' ev_op ?_ ?_ ?_ | with_reducible refine' ev_chain2 ?_ ?_ ?_ ?_ ?_ | with_reducible refine' et_B ?_ | with_reducible refine' et_test ?_ | with_reducible refine' et_and2 ?_ ?_ | with_reducible refine' et_or2 ?_ ?_ | with_reducible refine' et_not ?_ | with_reducible refine' ev_call ?_ ?_ | with_reducible refine' ev_callS ?_ ?_ | with_reducible refine' ev_cb ?_ ?_ | with_reducible exact isi_bool (by assumption) | with_reducible exact isi_int (by assumption) | with_reducible exact isi_list (by assumption) | with_reducible exact rc_len (by assumption) | with_reducible exact rc_sum (by assumption) | with_reducible exact rc_abs | with_reducible exact isi_listL (by assumption) | with_reducible exact isi_intI | with_reducible exact isi_boolI | with_reducible exact rc_lenT (by assumption) | with_reducible exact isi_tup (by assumption) | with_reducible exact rv_eqL (by assumption) (by assumption) | with_reducible exact rv_neL (by assumption) (by assumption) | with_reducible exact rv_neT (by assumption) (by assumption) | with_reducible exact rv_ixL (by assumption) (by assumption) | with_reducible exact rv_ixT (by assumption) (by assumption) | with_reducible refine' ev_din ?_ ?_ (by assumption) | with_reducible refine' ev_dnotin ?_ ?_ (by assumption) | with_reducible refine' ev_dget ?_ ?_ (by assumption) (by assumption) | ((with_reducible show SpV _ _ _ _); assumption) | ((with_reducible show RV _ _ _ _ _); assumption) | ((with_reducible show RC _ _ _ _); assumption) | ((with_reducible show CDiv _ _); exact ⟨by omega, by omega⟩) | ((with_reducible show CMul _ _); first | exact .inl ⟨by omega, by omega⟩ | exact .inr ⟨by omega, by omega⟩) | ((with_reducible show CPow _ _); exact ⟨by omega, by omega, by first | decide | assumption | omega⟩) | ((with_reducible show (0 : Int) < _); omega) | ((with_reducible show (0 : Int) ≤ _); omega) | ((with_reducible show scal _ _ = true); rfl)))) (by omega) (fun _ => rfl) fun b H5 e5 hb => ?_
    have s5 := ex_l (e3.trans e5) s2
    have gb := atI_lt (ns := ns) (j := (-(b : Int)) % (ns.length : Int)) (Int.emod_nonneg _ (by omega)) (Int.emod_lt_of_pos _ (by omega))
    unfold opp
    (repeat' (first | with_reducible exact ev_c | ((with_reducible show Ev (tVar _) _ _ _); exact ev_var rfl) | with_reducible exact ea_nil | with_reducible exact eo_none | with_reducible refine' ea_cons ?_ ?_ | with_reducible refine' eo_some ?_ | with_reducible refine' ev_and2 ?_ ?_ | with_reducible refine' ev_or2 ?_ ?_ | with_reducible refine' ev_notV ?_ | with_reducible exact ru_I | with_reducible refine' ev_un ?_ ?_ | with_reducible exact rv_I0 | with_reducible exact rv_isN | with_reducible exact rv_notN | with_reducible refine' rv_I ?_ | with_reducible refine' rv_eq ?_ | with_reducible refine' rv_ne ?_ | with_reducible refine' ev_op ?_ ?_ ?_ | with_reducible refine' ev_chain2 ?_ ?_ ?_ ?_ ?_ | with_reducible refine' et_B ?_ | with_reducible refine' et_test ?_ | with_reducible refine' et_and2 ?_ ?_ | with_reducible refine' et_or2 ?_ ?_ | with_reducible refine' et_not ?_ | with_reducible refine' ev_call ?_ ?_ | with_reducible refine' ev_callS ?_ ?_ | with_reducible refine' ev_cb ?_ ?_ | with_reducible exact isi_bool (by assumption) | with_reducible exact isi_int (by assumption) | with_reducible exact isi_list (by assumption) | with_reducible exact rc_len (by assumption) | with_reducible exact rc_sum (by assumption) | with_reducible exact rc_abs | with_reducible exact isi_listL (by assumption) | with_reducible exact isi_intI | with_reducible exact isi_boolI | with_reducible exact rc_lenT (by assumption) | with_reducible exact isi_tup (by assumption) | with_reducible exact rv_eqL (by assumption) (by assumption) | with_reducible exact rv_neL (by assumption) (by assumption) | with_reducible exact rv_neT (by assumption) (by assumption) | with_reducible exact rv_ixL (by assumption) (by assumption) | with_reducible exact rv_ixT (by assumption) (by assumption) | with_reducible refine' ev_din ?_ ?_ (by assumption) | with_reducible refine' ev_dnotin ?_ ?_ (by assumption) | with_reducible refine' ev_dget ?_ ?_ (by assumption) (by assumption) | ((with_reducible show SpV _ _ _ _); assumption) | ((with_reducible show RV _ _ _ _ _); assumption) | ((with_reducible show RC _ _ _ _); assumption) | ((with_reducible show CDiv _ _); exact ⟨by omega, by omega⟩) | ((with_reducible show CMul _ _); first | exact .inl ⟨by omega, by omega⟩ | exact .inr ⟨by omega, by omega⟩) | ((with_reducible show CPow _ _); exact ⟨by omega, by omega, by first | decide | assumption | omega⟩) | ((with_reducible show (0 : Int) < _); omega) | ((with_reducible show (0 : Int) ≤ _); omega) | ((with_reducible show scal _ _ = true); rfl)))

end TB

/-! ### a chain of three comparisons, a tuple's item, calls for what they do -/
namespace TB
open PySem PySem.Spec PyProof.Rows L2 Evl
def tChain3 (r1 r2 r3 : R2) (ta tb tc td : TE) : TT := fun σ H Q => ta σ H fun x H1 => tb σ H1 fun y H2 => r1 x y H2 fun z H3 => ∃ k, z = .bl k ∧
  (if k = true then tc σ H3 fun w H4 => r2 y w H4 fun z2 H5 => ∃ k2, z2 = .bl k2 ∧
    (if k2 = true then td σ H5 fun u H6 => r3 w u H6 fun z3 H7 => ∃ k3, z3 = .bl k3 ∧ Q k3 H7 else Q false H5) else Q false H3)
section
variable {X : Cx} {a b c d : Expr} {ta tb tc td : TE} {pos : Pos}
theorem pt_chain3 {op1 op2 op3 : CmpOp} {r1 r2 r3 : R2} (ho1 : OpR X (compareOp op1) r1) (ho2 : OpR X (compareOp op2) r2) (ho3 : OpR X (compareOp op3) r3) (ha : PE X a ta) (hb : PE X b tb) (hc : PE X c tc) (hd : PE X d td)
    (hm : lastMarks [op1, op2, op3] [b, c, d] = false := by with_unfolding_all rfl) : PT X (.Compare a [op1, op2, op3] [b, c, d] pos) (tChain3 r1 r2 r3 ta tb tc td) := by
  refine ⟨fun pins s σ H Q I h => ?_⟩
  refine isTrue_chain (thn (ha.run pins s σ H _ I h) fun v s1 ⟨x, H1, I1, e1, q1⟩ => test_link (thn (hb.run pins s1 σ H1 _ I1 q1) fun u s2 ⟨y, H2, I2, e2, q2⟩ =>
    thn (ho1 pins s2 σ H2 x y v u _ I2 e1 e2 q2) fun d1 s3 ⟨z, H3, I3, e3, k, e, q3⟩ => ?_)) hm
  subst e
  cases e3
  refine wpAny_truthy_bool ?_
  cases k with
  | false => exact ite_ff ⟨H3, I3, q3⟩
  | true =>
    refine ite_tt (test_link (thn (hc.run pins s3 σ H3 _ I3 q3) fun w s4 ⟨z4, H4, I4, e4, q4⟩ => thn (ho2 pins s4 σ H4 y z4 u w _ I4 e2 e4 q4) fun d5 s5 ⟨z5, H5, I5, e5, k2, ee, q5⟩ => ?_))
    subst ee
    cases e5
    refine wpAny_truthy_bool ?_
    cases k2 with
    | false => exact ite_ff ⟨H5, I5, q5⟩
    | true =>
      refine ite_tt (test_last (thn (hd.run pins s5 σ H5 _ I5 q5) fun w6 s6 ⟨z6, H6, I6, e6, q6⟩ => thn (ho3 pins s6 σ H6 z4 z6 w w6 _ I6 e4 e6 q6) fun d7 s7 ⟨z7, H7, I7, e7, k3, e3', q7⟩ => ?_))
      subst e3'
      cases e7
      exact wpAny_truthy_bool ⟨H7, I7, q7⟩
end
section
variable {K : PySem.W.Frag} {σ : L2.St} {H H' : Hp} {t1 t2 te : TE} {ta tb tc td : TE} {tz : TS} {D : Ends} {xs ys : List V} {x y z w u : V} {r1 r2 r3 : R2}
theorem et_chain3 {b1 b2 b3 : Bool} (ha : Ev ta σ H x) (hb : Ev tb σ H y) (h1 : RV r1 x y H (.bl b1)) (hc : Ev tc σ H w) (h2 : RV r2 y w H (.bl b2)) (hd : Ev td σ H u) (h3 : RV r3 w u H (.bl b3)) : EvT (tChain3 r1 r2 r3 ta tb tc td) σ H (b1 && (b2 && b3)) := fun H1 e Q q =>
  ha H1 e _ fun H2 e2 => hb H2 (e.trans e2) _ fun H3 e3 => h1 H3 ((e.trans e2).trans e3) _ fun H4 e4 => ⟨b1, rfl, by
    have e24 := (e2.trans e3).trans e4
    cases b1 with
    | false => exact q H4 e24
    | true =>
      refine hc H4 (e.trans e24) _ fun H5 e5 => h2 H5 ((e.trans e24).trans e5) _ fun H6 e6 => ⟨b2, rfl, ?_⟩
      have e26 := (e24.trans e5).trans e6
      cases b2 with
      | false => exact q H6 e26
      | true => exact hd H6 (e.trans e26) _ fun H7 e7 => h3 H7 ((e.trans e26).trans e7) _ fun H8 e8 => ⟨b3, rfl, q H8 ((e26.trans e7).trans e8)⟩⟩
theorem ev_opU1 {r : R2} (ha : EvU ta σ H xs) (hb : ∀ H1, Ex H H1 → Ev tb σ H1 y) (hr : ∀ p H1, H1 p = some (.tup xs) → Ex H H1 → RV r (.ref p) y H1 z) : Ev (tOp r ta tb) σ H z := fun H1 e Q q =>
  ha H1 e _ fun p H2 _ e2 h2 => hb H2 (e.trans e2) H2 (Ex.refl H2) _ fun H3 e3 => hr p H3 (e3 _ _ h2) ((e.trans e2).trans e3) H3 (Ex.refl H3) Q fun H4 e4 => q H4 ((e2.trans e3).trans e4)
theorem q_dropC {sp : Sp} {dvs vs : List V} {E : XK} {t : TA} (h : EvA t σ H vs) (k : ∀ H1, Ex H H1 → sp (vs ++ dvs) H1 (fun _ H2 => tz D σ H2) E) : tSeq (tDrop (tCall sp dvs E t)) tz D σ H := h H (Ex.refl H) _ fun H1 e1 => k H1 e1
end
end TB

/-! ### the laws' own makers: cells, sizes, spots, throws -/
namespace TB
open PySem PySem.Spec PyProof.Rows L2 Evl
def sp_cell (K : PySem.W.Frag) : Sp := fun vs H Q E => ∃ (a : Addr) (ns : List Int) (k : Nat), vs = [.ref a, .int (k : Int)] ∧ SqL K H a (ns.map V.int) ∧ RetV (.int (ns.getD k 0)) H Q
theorem sv_cell {K : PySem.W.Frag} {H : Hp} {a : Addr} {ns : List Int} {k : Nat} (h : SqL K H a (ns.map V.int)) : SpV (sp_cell K) [.ref a, .int (k : Int)] H (.int (ns.getD k 0)) := spv_of fun H1 e Q E q => ⟨a, ns, k, rfl, ex_l e h, q⟩
theorem sc__law_cell_at : FnScope ["_law_script", "_law_k"] ["_law_script", "_law_k"] (defScope s__law_cell_at) := ⟨rfl, rfl, rfl, by decide +kernel, rfl, by decide +kernel, by decide +kernel⟩
theorem ok__law_cell_at {P : Program} {w : World} {K : PySem.W.Frag} {mg : Str → Option Value} {base : Heap} (T : TXT K mg) : OK P w K mg base "_law_cell_at" ["_law_script", "_law_k"] 1 (sp_cell K) := by
  obtain ⟨fd, F⟩ := T.def_ 38
  refine ⟨_, fd, T.glo 15, F.kp, F.bindsN (fun _ _ _ _ _ _ us hl => match us, hl with | [_, _], _ => rfl), F.ok sc__law_cell_at (fun vs H Q E h => ?_) (fun cdv A outer s H vs Q E hr h => ?_), F.bindsA (fun _ _ _ _ _ _ us hl => match us, hl with | [_, _], _ => rfl)⟩
  · first | (obtain ⟨rfl, _⟩ := h; rfl) | (obtain ⟨_, rfl, _⟩ := h; rfl) | (obtain ⟨_, _, rfl, _⟩ := h; rfl) | (obtain ⟨_, _, _, rfl, _⟩ := h; rfl) | (obtain ⟨_, _, _, _, rfl, _⟩ := h; rfl) | (obtain ⟨_, _, _, _, _, rfl, _⟩ := h; rfl) | (obtain ⟨_, _, _, _, _, _, rfl, _⟩ := h; rfl) | (obtain ⟨_, _, _, _, _, _, _, rfl, _⟩ := h; rfl) | (obtain ⟨_, _, _, _, _, _, _, _, rfl, _⟩ := h; rfl)
  · replace F : FunD K "_law_cell_at" "_law_cell_at" (defArgs s__law_cell_at) (defBody s__law_cell_at) (defScope s__law_cell_at) [] [] (He.ga K "_law_cell_at") fd := F
    refine ⟨_, (pss_cons (ps_if (pt_cmpR op_lt (pv 1) (pe_callB (id := "len") (k_len K) (by rfl) (T.free 43) (by decide +kernel) (pa_cons (pv 0) pa_nil)) (nomark _))
        (pss_one (ps_ret (pe_ix (k_ixL K) (pv 0) (pv 1) (fun _ _ => rfl))))
        pss_nil)
      (pss_one (ps_ret pe_int))), ?_⟩
    obtain ⟨a, ns, k, rfl, hs, q⟩ := h
    dsimp only [cxOf, L2.start, List.map_cons, List.map_nil, List.length_cons, List.length_nil, Nat.reduceAdd, Nat.reduceSub, List.replicate_succ, List.replicate_zero, List.cons_append, List.nil_append, Nat.zero_add, List.reduceReplicate, List.map]
    refine q_when (b := decide ((k : Int) < (ns.length : Int))) ?_ (fun hb H1 e1 => ?_) (fun hb H1 e1 => ?_)
    · apply et_is
      · (repeat' (first | with_reducible exact ev_c | ((with_reducible show Ev (tVar _) _ _ _); exact ev_var rfl) | with_reducible exact ea_nil | with_reducible exact eo_none | with_reducible refine' ea_cons ?_ ?_ | with_reducible refine' eo_some ?_ | with_reducible refine' ev_and2 ?_ ?_ | with_reducible refine' ev_or2 ?_ ?_ | with_reducible refine' ev_notV ?_ | with_reducible exact ru_I | with_reducible refine' ev_un ?_ ?_ | with_reducible exact rv_I0 | with_reducible exact rv_isN | with_reducible exact rv_notN | with_reducible refine' rv_I ?_ | with_reducible refine' rv_eq ?_ | with_reducible refine' rv_ne ?_ | with_reducible refine' ev_op ?_ ?_ ?_ | with_reducible refine' ev_chain2 ?_ ?_ ?_ ?_ ?_ | with_reducible refine' et_B ?_ | with_reducible refine' et_test ?_ | with_reducible refine' et_and2 ?_ ?_ | with_reducible refine' et_or2 ?_ ?_ | with_reducible refine' et_not ?_ | with_reducible refine' ev_call ?_ ?_ | with_reducible refine' ev_callS ?_ ?_ | with_reducible refine' ev_cb ?_ ?_ | with_reducible exact isi_bool (by assumption) | with_reducible exact isi_int (by assumption) | with_reducible exact isi_list (by assumption) | with_reducible exact rc_len (by assumption) | with_reducible exact rc_sum (by assumption) | with_reducible exact rc_abs | with_reducible exact isi_listL (by assumption) | with_reducible exact isi_intI | with_reducible exact isi_boolI | with_reducible exact rc_lenT (by assumption) | with_reducible exact isi_tup (by assumption) | with_reducible exact rv_eqL (by assumption) (by assumption) | with_reducible exact rv_neL (by assumption) (by assumption) | with_reducible exact rv_neT (by assumption) (by assumption) | with_reducible exact rv_ixL (by assumption) (by assumption) | with_reducible exact rv_ixT (by assumption) (by assumption) | with_reducible refine' ev_din ?_ ?_ (by assumption) | with_reducible refine' ev_dnotin ?_ ?_ (by assumption) | with_reducible refine' ev_dget ?_ ?_ (by assumption) (by assumption) | ((with_reducible show SpV _ _ _ _); assumption) | ((with_reducible show RV _ _ _ _ _); assumption) | ((with_reducible show RC _ _ _ _); assumption) | ((with_reducible show CDiv _ _); exact ⟨by omega, by omega⟩) | ((with_reducible show CMul _ _); first | exact .inl ⟨by omega, by omega⟩ | exact .inr ⟨by omega, by omega⟩) | ((with_reducible show CPow _ _); exact ⟨by omega, by omega, by first | decide | assumption | omega⟩) | ((with_reducible show (0 : Int) < _); omega) | ((with_reducible show (0 : Int) ≤ _); omega) | ((with_reducible show scal _ _ = true); rfl)))
      · rw [List.length_map]
    · have hk : k < ns.length := by
        have := of_decide_eq_true hb
        omega
      have hs1 := ex_l e1 hs
      have g := atI_int hk
      exact s_ret (by (repeat' (first | with_reducible exact ev_c | ((with_reducible show Ev (tVar _) _ _ _); exact ev_var rfl) | with_reducible exact ea_nil | with_reducible exact eo_none | with_reducible refine' ea_cons ?_ ?_ | with_reducible refine' eo_some ?_ | with_reducible refine' ev_and2 ?_ ?_ | with_reducible refine' ev_or2 ?_ ?_ | with_reducible refine' ev_notV ?_ | with_reducible exact ru_I | with_reducible refine' ev_un ?_ ?_ | with_reducible exact rv_I0 | with_reducible exact rv_isN | with_reducible exact rv_notN | with_reducible refine' rv_I ?_ | with_reducible refine' rv_eq ?_ | with_reducible refine' rv_ne ?_ | with_reducible refine' ev_op ?_ ?_ ?_ | with_reducible refine' ev_chain2 ?_ ?_ ?_ ?_ ?_ | with_reducible refine' et_B ?_ | with_reducible refine' et_test ?_ | with_reducible refine' et_and2 ?_ ?_ | with_reducible refine' et_or2 ?_ ?_ | with_reducible refine' et_not ?_ | with_reducible refine' ev_call ?_ ?_ | with_reducible refine' ev_callS ?_ ?_ | with_reducible refine' ev_cb ?_ ?_ | with_reducible exact isi_bool (by assumption) | with_reducible exact isi_int (by assumption) | with_reducible exact isi_list (by assumption) | with_reducible exact rc_len (by assumption) | with_reducible exact rc_sum (by assumption) | with_reducible exact rc_abs | with_reducible exact isi_listL (by assumption) | with_reducible exact isi_intI | with_reducible exact isi_boolI | with_reducible exact rc_lenT (by assumption) | with_reducible exact isi_tup (by assumption) | with_reducible exact rv_eqL (by assumption) (by assumption) | with_reducible exact rv_neL (by assumption) (by assumption) | with_reducible exact rv_neT (by assumption) (by assumption) | with_reducible exact rv_ixL (by assumption) (by assumption) | with_reducible exact rv_ixT (by assumption) (by assumption) | with_reducible refine' ev_din ?_ ?_ (by assumption) | with_reducible refine' ev_dnotin ?_ ?_ (by assumption) | with_reducible refine' ev_dget ?_ ?_ (by assumption) (by assumption) | ((with_reducible show SpV _ _ _ _); assumption) | ((with_reducible show RV _ _ _ _ _); assumption) | ((with_reducible show RC _ _ _ _); assumption) | ((with_reducible show CDiv _ _); exact ⟨by omega, by omega⟩) | ((with_reducible show CMul _ _); first | exact .inl ⟨by omega, by omega⟩ | exact .inr ⟨by omega, by omega⟩) | ((with_reducible show CPow _ _); exact ⟨by omega, by omega, by first | decide | assumption | omega⟩) | ((with_reducible show (0 : Int) < _); omega) | ((with_reducible show (0 : Int) ≤ _); omega) | ((with_reducible show scal _ _ = true); rfl)))) fun H2 e2 => q H2 (e1.trans e2)
    · have hk : ¬ k < ns.length := by
        have := of_decide_eq_false hb
        omega
      have z : ns.getD k 0 = 0 := by
        rw [List.getD_eq_getElem?_getD, List.getElem?_eq_none (by omega)]
        rfl
      rw [z] at q
      exact s_ret (by (repeat' (first | with_reducible exact ev_c | ((with_reducible show Ev (tVar _) _ _ _); exact ev_var rfl) | with_reducible exact ea_nil | with_reducible exact eo_none | with_reducible refine' ea_cons ?_ ?_ | with_reducible refine' eo_some ?_ | with_reducible refine' ev_and2 ?_ ?_ | with_reducible refine' ev_or2 ?_ ?_ | with_reducible refine' ev_notV ?_ | with_reducible exact ru_I | with_reducible refine' ev_un ?_ ?_ | with_reducible exact rv_I0 | with_reducible exact rv_isN | with_reducible exact rv_notN | with_reducible refine' rv_I ?_ | with_reducible refine' rv_eq ?_ | with_reducible refine' rv_ne ?_ | with_reducible refine' ev_op ?_ ?_ ?_ | with_reducible refine' ev_chain2 ?_ ?_ ?_ ?_ ?_ | with_reducible refine' et_B ?_ | with_reducible refine' et_test ?_ | with_reducible refine' et_and2 ?_ ?_ | with_reducible refine' et_or2 ?_ ?_ | with_reducible refine' et_not ?_ | with_reducible refine' ev_call ?_ ?_ | with_reducible refine' ev_callS ?_ ?_ | with_reducible refine' ev_cb ?_ ?_ | with_reducible exact isi_bool (by assumption) | with_reducible exact isi_int (by assumption) | with_reducible exact isi_list (by assumption) | with_reducible exact rc_len (by assumption) | with_reducible exact rc_sum (by assumption) | with_reducible exact rc_abs | with_reducible exact isi_listL (by assumption) | with_reducible exact isi_intI | with_reducible exact isi_boolI | with_reducible exact rc_lenT (by assumption) | with_reducible exact isi_tup (by assumption) | with_reducible exact rv_eqL (by assumption) (by assumption) | with_reducible exact rv_neL (by assumption) (by assumption) | with_reducible exact rv_neT (by assumption) (by assumption) | with_reducible exact rv_ixL (by assumption) (by assumption) | with_reducible exact rv_ixT (by assumption) (by assumption) | with_reducible refine' ev_din ?_ ?_ (by assumption) | with_reducible refine' ev_dnotin ?_ ?_ (by assumption) | with_reducible refine' ev_dget ?_ ?_ (by assumption) (by assumption) | ((with_reducible show SpV _ _ _ _); assumption) | ((with_reducible show RV _ _ _ _ _); assumption) | ((with_reducible show RC _ _ _ _); assumption) | ((with_reducible show CDiv _ _); exact ⟨by omega, by omega⟩) | ((with_reducible show CMul _ _); first | exact .inl ⟨by omega, by omega⟩ | exact .inr ⟨by omega, by omega⟩) | ((with_reducible show CPow _ _); exact ⟨by omega, by omega, by first | decide | assumption | omega⟩) | ((with_reducible show (0 : Int) < _); omega) | ((with_reducible show (0 : Int) ≤ _); omega) | ((with_reducible show scal _ _ = true); rfl)))) fun H2 e2 => q H2 (e1.trans e2)

def mixed (c k : Int) : Int := ((c + 977 * k + 31) * 48271 % 2147483647) * ((c + 977 * k + 31) * 48271 % 2147483647) % 2147483629
theorem mixed_nn (c k : Int) : 0 ≤ mixed c k := Int.emod_nonneg _ (by decide)
theorem mixed_lt (c k : Int) : mixed c k < 2147483629 := Int.emod_lt_of_pos _ (by decide)
def sp_mixed : Sp := fun vs H Q E => ∃ (c k : Int), vs = [.int c, .int k] ∧ RetV (.int (mixed c k)) H Q
theorem sv_mixed {H : Hp} {c k : Int} : SpV sp_mixed [.int c, .int k] H (.int (mixed c k)) := spv_of fun H1 e Q E q => ⟨c, k, rfl, q⟩
theorem sc__law_mixed : FnScope ["_law_cell", "_law_k", "_law_found"] ["_law_cell", "_law_k"] (defScope s__law_mixed) := ⟨rfl, rfl, rfl, by decide +kernel, rfl, by decide +kernel, by decide +kernel⟩
theorem ok__law_mixed {P : Program} {w : World} {K : PySem.W.Frag} {mg : Str → Option Value} {base : Heap} (T : TXT K mg) : OK P w K mg base "_law_mixed" ["_law_cell", "_law_k"] 1 (sp_mixed) := by
  obtain ⟨fd, F⟩ := T.def_ 39
  refine ⟨_, fd, T.glo 16, F.kp, F.bindsN (fun _ _ _ _ _ _ us hl => match us, hl with | [_, _], _ => rfl), F.ok sc__law_mixed (fun vs H Q E h => ?_) (fun cdv A outer s H vs Q E hr h => ?_), F.bindsA (fun _ _ _ _ _ _ us hl => match us, hl with | [_, _], _ => rfl)⟩
  · first | (obtain ⟨rfl, _⟩ := h; rfl) | (obtain ⟨_, rfl, _⟩ := h; rfl) | (obtain ⟨_, _, rfl, _⟩ := h; rfl) | (obtain ⟨_, _, _, rfl, _⟩ := h; rfl) | (obtain ⟨_, _, _, _, rfl, _⟩ := h; rfl) | (obtain ⟨_, _, _, _, _, rfl, _⟩ := h; rfl) | (obtain ⟨_, _, _, _, _, _, rfl, _⟩ := h; rfl) | (obtain ⟨_, _, _, _, _, _, _, rfl, _⟩ := h; rfl) | (obtain ⟨_, _, _, _, _, _, _, _, rfl, _⟩ := h; rfl)
  · replace F : FunD K "_law_mixed" "_law_mixed" (defArgs s__law_mixed) (defBody s__law_mixed) (defScope s__law_mixed) [] [] (He.ga K "_law_mixed") fd := F
    refine ⟨_, (pss_cons (ps_set (i := 2) sc__law_mixed.nd rfl (Or.inl rfl) (pe_op op_mod (pe_op op_mul (pe_op op_add (pe_op op_add (pv 0) (pe_op op_mul pe_int (pv 1))) pe_int) pe_int) pe_int))
      (pss_one (ps_ret (pe_op op_mod (pe_op op_mul (pv 2) (pv 2)) pe_int)))), ?_⟩
    obtain ⟨c, k, rfl, q⟩ := h
    dsimp only [cxOf, L2.start, List.map_cons, List.map_nil, List.length_cons, List.length_nil, Nat.reduceAdd, Nat.reduceSub, List.replicate_succ, List.replicate_zero, List.cons_append, List.nil_append, Nat.zero_add, List.reduceReplicate, List.map]
    refine q_asg (v := .int ((c + 977 * k + 31) * 48271 % 2147483647)) ?_ fun H1 e1 => ?_
    · (repeat' (first | with_reducible exact ev_c | ((with_reducible show Ev (tVar _) _ _ _); exact ev_var rfl) | with_reducible exact ea_nil | with_reducible exact eo_none | with_reducible refine' ea_cons ?_ ?_ | with_reducible refine' eo_some ?_ | with_reducible refine' ev_and2 ?_ ?_ | with_reducible refine' ev_or2 ?_ ?_ | with_reducible refine' ev_notV ?_ | with_reducible exact ru_I | with_reducible refine' ev_un ?_ ?_ | with_reducible exact rv_I0 | with_reducible exact rv_isN | with_reducible exact rv_notN | with_reducible refine' rv_I ?_ | with_reducible refine' rv_eq ?_ | with_reducible refine' rv_ne ?_ | with_reducible refine' ev_op ?_ ?_ ?_ | with_reducible refine' ev_chain2 ?_ ?_ ?_ ?_ ?_ | with_reducible refine' et_B ?_ | with_reducible refine' et_test ?_ | with_reducible refine' et_and2 ?_ ?_ | with_reducible refine' et_or2 ?_ ?_ | with_reducible refine' et_not ?_ | with_reducible refine' ev_call ?_ ?_ | with_reducible refine' ev_callS ?_ ?_ | with_reducible refine' ev_cb ?_ ?_ | with_reducible exact isi_bool (by assumption) | with_reducible exact isi_int (by assumption) | with_reducible exact isi_list (by assumption) | with_reducible exact rc_len (by assumption) | with_reducible exact rc_sum (by assumption) | with_reducible exact rc_abs | with_reducible exact isi_listL (by assumption) | with_reducible exact isi_intI | with_reducible exact isi_boolI | with_reducible exact rc_lenT (by assumption) | with_reducible exact isi_tup (by assumption) | with_reducible exact rv_eqL (by assumption) (by assumption) | with_reducible exact rv_neL (by assumption) (by assumption) | with_reducible exact rv_neT (by assumption) (by assumption) | with_reducible exact rv_ixL (by assumption) (by assumption) | with_reducible exact rv_ixT (by assumption) (by assumption) | with_reducible refine' ev_din ?_ ?_ (by assumption) | with_reducible refine' ev_dnotin ?_ ?_ (by assumption) | with_reducible refine' ev_dget ?_ ?_ (by assumption) (by assumption) | ((with_reducible show SpV _ _ _ _); assumption) | ((with_reducible show RV _ _ _ _ _); assumption) | ((with_reducible show RC _ _ _ _); assumption) | ((with_reducible show CDiv _ _); exact ⟨by omega, by omega⟩) | ((with_reducible show CMul _ _); first | exact .inl ⟨by omega, by omega⟩ | exact .inr ⟨by omega, by omega⟩) | ((with_reducible show CPow _ _); exact ⟨by omega, by omega, by first | decide | assumption | omega⟩) | ((with_reducible show (0 : Int) < _); omega) | ((with_reducible show (0 : Int) ≤ _); omega) | ((with_reducible show scal _ _ = true); rfl)))
    · have h1 : 0 ≤ (c + 977 * k + 31) * 48271 % 2147483647 := Int.emod_nonneg _ (by decide)
      have h2 : (c + 977 * k + 31) * 48271 % 2147483647 < 2147483647 := Int.emod_lt_of_pos _ (by decide)
      refine s_ret (v := .int (mixed c k)) ?_ fun H2 e2 => q H2 (e1.trans e2)
      apply ev_is
      · (repeat' (first | with_reducible exact ev_c | ((with_reducible show Ev (tVar _) _ _ _); exact ev_var rfl) | with_reducible exact ea_nil | with_reducible exact eo_none | with_reducible refine' ea_cons ?_ ?_ | with_reducible refine' eo_some ?_ | with_reducible refine' ev_and2 ?_ ?_ | with_reducible refine' ev_or2 ?_ ?_ | with_reducible refine' ev_notV ?_ | with_reducible exact ru_I | with_reducible refine' ev_un ?_ ?_ | with_reducible exact rv_I0 | with_reducible exact rv_isN | with_reducible exact rv_notN | with_reducible refine' rv_I ?_ | with_reducible refine' rv_eq ?_ | with_reducible refine' rv_ne ?_ | with_reducible refine' ev_op ?_ ?_ ?_ | with_reducible refine' ev_chain2 ?_ ?_ ?_ ?_ ?_ | with_reducible refine' et_B ?_ | with_reducible refine' et_test ?_ | with_reducible refine' et_and2 ?_ ?_ | with_reducible refine' et_or2 ?_ ?_ | with_reducible refine' et_not ?_ | with_reducible refine' ev_call ?_ ?_ | with_reducible refine' ev_callS ?_ ?_ | with_reducible refine' ev_cb ?_ ?_ | with_reducible exact isi_bool (by assumption) | with_reducible exact isi_int (by assumption) | with_reducible exact isi_list (by assumption) | with_reducible exact rc_len (by assumption) | with_reducible exact rc_sum (by assumption) | with_reducible exact rc_abs | with_reducible exact isi_listL (by assumption) | with_reducible exact isi_intI | with_reducible exact isi_boolI | with_reducible exact rc_lenT (by assumption) | with_reducible exact isi_tup (by assumption) | with_reducible exact rv_eqL (by assumption) (by assumption) | with_reducible exact rv_neL (by assumption) (by assumption) | with_reducible exact rv_neT (by assumption) (by assumption) | with_reducible exact rv_ixL (by assumption) (by assumption) | with_reducible exact rv_ixT (by assumption) (by assumption) | with_reducible refine' ev_din ?_ ?_ (by assumption) | with_reducible refine' ev_dnotin ?_ ?_ (by assumption) | with_reducible refine' ev_dget ?_ ?_ (by assumption) (by assumption) | ((with_reducible show SpV _ _ _ _); assumption) | ((with_reducible show RV _ _ _ _ _); assumption) | ((with_reducible show RC _ _ _ _); assumption) | ((with_reducible show CDiv _ _); exact ⟨by omega, by omega⟩) | ((with_reducible show CMul _ _); first | exact .inl ⟨by omega, by omega⟩ | exact .inr ⟨by omega, by omega⟩) | ((with_reducible show CPow _ _); exact ⟨by omega, by omega, by first | decide | assumption | omega⟩) | ((with_reducible show (0 : Int) < _); omega) | ((with_reducible show (0 : Int) ≤ _); omega) | ((with_reducible show scal _ _ = true); rfl)))
      · rfl

def sizeBy (c : Int) : Int := if c % 4 = 1 then 1 + c / 4 % 60 else 1 + c / 4 % 9
theorem sizeBy_1 (c : Int) : 1 ≤ sizeBy c := by
  unfold sizeBy
  split <;> omega
theorem sizeBy_60 (c : Int) : sizeBy c ≤ 60 := by
  unfold sizeBy
  split <;> omega
def sp_size : Sp := fun vs H Q E => ∃ (c : Int), vs = [.int c] ∧ RetV (.int (sizeBy c)) H Q
theorem sv_size {H : Hp} {c : Int} : SpV sp_size [.int c] H (.int (sizeBy c)) := spv_of fun H1 e Q E q => ⟨c, rfl, q⟩
theorem sc__law_size_by : FnScope ["_law_cell"] ["_law_cell"] (defScope s__law_size_by) := ⟨rfl, rfl, rfl, by decide +kernel, rfl, by decide +kernel, by decide +kernel⟩
theorem ok__law_size_by {P : Program} {w : World} {K : PySem.W.Frag} {mg : Str → Option Value} {base : Heap} (T : TXT K mg) : OK P w K mg base "_law_size_by" ["_law_cell"] 1 (sp_size) := by
  obtain ⟨fd, F⟩ := T.def_ 40
  refine ⟨_, fd, T.glo 17, F.kp, F.bindsN (fun _ _ _ _ _ _ us hl => match us, hl with | [_], _ => rfl), F.ok sc__law_size_by (fun vs H Q E h => ?_) (fun cdv A outer s H vs Q E hr h => ?_), F.bindsA (fun _ _ _ _ _ _ us hl => match us, hl with | [_], _ => rfl)⟩
  · first | (obtain ⟨rfl, _⟩ := h; rfl) | (obtain ⟨_, rfl, _⟩ := h; rfl) | (obtain ⟨_, _, rfl, _⟩ := h; rfl) | (obtain ⟨_, _, _, rfl, _⟩ := h; rfl) | (obtain ⟨_, _, _, _, rfl, _⟩ := h; rfl) | (obtain ⟨_, _, _, _, _, rfl, _⟩ := h; rfl) | (obtain ⟨_, _, _, _, _, _, rfl, _⟩ := h; rfl) | (obtain ⟨_, _, _, _, _, _, _, rfl, _⟩ := h; rfl) | (obtain ⟨_, _, _, _, _, _, _, _, rfl, _⟩ := h; rfl)
  · replace F : FunD K "_law_size_by" "_law_size_by" (defArgs s__law_size_by) (defBody s__law_size_by) (defScope s__law_size_by) [] [] (He.ga K "_law_size_by") fd := F
    refine ⟨_, (pss_cons (ps_if (pt_cmpR op_eq (pe_op op_mod (pv 0) pe_int) pe_int (nomark _))
        (pss_one (ps_ret (pe_op op_add pe_int (pe_op op_mod (pe_op op_fdiv (pv 0) pe_int) pe_int))))
        pss_nil)
      (pss_one (ps_ret (pe_op op_add pe_int (pe_op op_mod (pe_op op_fdiv (pv 0) pe_int) pe_int))))), ?_⟩
    obtain ⟨c, rfl, q⟩ := h
    dsimp only [cxOf, L2.start, List.map_cons, List.map_nil, List.length_cons, List.length_nil, Nat.reduceAdd, Nat.reduceSub, List.replicate_succ, List.replicate_zero, List.cons_append, List.nil_append, Nat.zero_add, List.reduceReplicate, List.map]
    refine q_when (b := decide (c % 4 = 1)) ?_ (fun hb H1 e1 => ?_) (fun hb H1 e1 => ?_)
    · apply et_is
      · (repeat' (first | with_reducible exact ev_c | ((with_reducible show Ev (tVar _) _ _ _); exact ev_var rfl) | with_reducible exact ea_nil | with_reducible exact eo_none | with_reducible refine' ea_cons ?_ ?_ | with_reducible refine' eo_some ?_ | with_reducible refine' ev_and2 ?_ ?_ | with_reducible refine' ev_or2 ?_ ?_ | with_reducible refine' ev_notV ?_ | with_reducible exact ru_I | with_reducible refine' ev_un ?_ ?_ | with_reducible exact rv_I0 | with_reducible exact rv_isN | with_reducible exact rv_notN | with_reducible refine' rv_I ?_ | with_reducible refine' rv_eq ?_ | with_reducible refine' rv_ne ?_ | with_reducible refine' ev_op ?_ ?_ ?_ | with_reducible refine' ev_chain2 ?_ ?_ ?_ ?_ ?_ | with_reducible refine' et_B ?_ | with_reducible refine' et_test ?_ | with_reducible refine' et_and2 ?_ ?_ | with_reducible refine' et_or2 ?_ ?_ | with_reducible refine' et_not ?_ | with_reducible refine' ev_call ?_ ?_ | with_reducible refine' ev_callS ?_ ?_ | with_reducible refine' ev_cb ?_ ?_ | with_reducible exact isi_bool (by assumption) | with_reducible exact isi_int (by assumption) | with_reducible exact isi_list (by assumption) | with_reducible exact rc_len (by assumption) | with_reducible exact rc_sum (by assumption) | with_reducible exact rc_abs | with_reducible exact isi_listL (by assumption) | with_reducible exact isi_intI | with_reducible exact isi_boolI | with_reducible exact rc_lenT (by assumption) | with_reducible exact isi_tup (by assumption) | with_reducible exact rv_eqL (by assumption) (by assumption) | with_reducible exact rv_neL (by assumption) (by assumption) | with_reducible exact rv_neT (by assumption) (by assumption) | with_reducible exact rv_ixL (by assumption) (by assumption) | with_reducible exact rv_ixT (by assumption) (by assumption) | with_reducible refine' ev_din ?_ ?_ (by assumption) | with_reducible refine' ev_dnotin ?_ ?_ (by assumption) | with_reducible refine' ev_dget ?_ ?_ (by assumption) (by assumption) | ((with_reducible show SpV _ _ _ _); assumption) | ((with_reducible show RV _ _ _ _ _); assumption) | ((with_reducible show RC _ _ _ _); assumption) | ((with_reducible show CDiv _ _); exact ⟨by omega, by omega⟩) | ((with_reducible show CMul _ _); first | exact .inl ⟨by omega, by omega⟩ | exact .inr ⟨by omega, by omega⟩) | ((with_reducible show CPow _ _); exact ⟨by omega, by omega, by first | decide | assumption | omega⟩) | ((with_reducible show (0 : Int) < _); omega) | ((with_reducible show (0 : Int) ≤ _); omega) | ((with_reducible show scal _ _ = true); rfl)))
      · exact dec_int.trans (by rw [Bool.eq_iff_iff]; simp)
    · have z : sizeBy c = 1 + c / 4 % 60 := if_pos (of_decide_eq_true hb)
      rw [z] at q
      refine s_ret ?_ fun H2 e2 => q H2 (e1.trans e2)
      (repeat' (first | with_reducible exact ev_c | ((with_reducible show Ev (tVar _) _ _ _); exact ev_var rfl) | with_reducible exact ea_nil | with_reducible exact eo_none | with_reducible refine' ea_cons ?_ ?_ | with_reducible refine' eo_some ?_ | with_reducible refine' ev_and2 ?_ ?_ | with_reducible refine' ev_or2 ?_ ?_ | with_reducible refine' ev_notV ?_ | with_reducible exact ru_I | with_reducible refine' ev_un ?_ ?_ | with_reducible exact rv_I0 | with_reducible exact rv_isN | with_reducible exact rv_notN | with_reducible refine' rv_I ?_ | with_reducible refine' rv_eq ?_ | with_reducible refine' rv_ne ?_ | with_reducible refine' ev_op ?_ ?_ ?_ | with_reducible refine' ev_chain2 ?_ ?_ ?_ ?_ ?_ | with_reducible refine' et_B ?_ | with_reducible refine' et_test ?_ | with_reducible refine' et_and2 ?_ ?_ | with_reducible refine' et_or2 ?_ ?_ | with_reducible refine' et_not ?_ | with_reducible refine' ev_call ?_ ?_ | with_reducible refine' ev_callS ?_ ?_ | with_reducible refine' ev_cb ?_ ?_ | with_reducible exact isi_bool (by assumption) | with_reducible exact isi_int (by assumption) | with_reducible exact isi_list (by assumption) | with_reducible exact rc_len (by assumption) | with_reducible exact rc_sum (by assumption) | with_reducible exact rc_abs | with_reducible exact isi_listL (by assumption) | with_reducible exact isi_intI | with_reducible exact isi_boolI | with_reducible exact rc_lenT (by assumption) | with_reducible exact isi_tup (by assumption) | with_reducible exact rv_eqL (by assumption) (by assumption) | with_reducible exact rv_neL (by assumption) (by assumption) | with_reducible exact rv_neT (by assumption) (by assumption) | with_reducible exact rv_ixL (by assumption) (by assumption) | with_reducible exact rv_ixT (by assumption) (by assumption) | with_reducible refine' ev_din ?_ ?_ (by assumption) | with_reducible refine' ev_dnotin ?_ ?_ (by assumption) | with_reducible refine' ev_dget ?_ ?_ (by assumption) (by assumption) | ((with_reducible show SpV _ _ _ _); assumption) | ((with_reducible show RV _ _ _ _ _); assumption) | ((with_reducible show RC _ _ _ _); assumption) | ((with_reducible show CDiv _ _); exact ⟨by omega, by omega⟩) | ((with_reducible show CMul _ _); first | exact .inl ⟨by omega, by omega⟩ | exact .inr ⟨by omega, by omega⟩) | ((with_reducible show CPow _ _); exact ⟨by omega, by omega, by first | decide | assumption | omega⟩) | ((with_reducible show (0 : Int) < _); omega) | ((with_reducible show (0 : Int) ≤ _); omega) | ((with_reducible show scal _ _ = true); rfl)))
    · have z : sizeBy c = 1 + c / 4 % 9 := if_neg (of_decide_eq_false hb)
      rw [z] at q
      refine s_ret ?_ fun H2 e2 => q H2 (e1.trans e2)
      (repeat' (first | with_reducible exact ev_c | ((with_reducible show Ev (tVar _) _ _ _); exact ev_var rfl) | with_reducible exact ea_nil | with_reducible exact eo_none | with_reducible refine' ea_cons ?_ ?_ | with_reducible refine' eo_some ?_ | with_reducible refine' ev_and2 ?_ ?_ | with_reducible refine' ev_or2 ?_ ?_ | with_reducible refine' ev_notV ?_ | with_reducible exact ru_I | with_reducible refine' ev_un ?_ ?_ | with_reducible exact rv_I0 | with_reducible exact rv_isN | with_reducible exact rv_notN | with_reducible refine' rv_I ?_ | with_reducible refine' rv_eq ?_ | with_reducible refine' rv_ne ?_ | with_reducible refine' ev_op ?_ ?_ ?_ | with_reducible refine' ev_chain2 ?_ ?_ ?_ ?_ ?_ | with_reducible refine' et_B ?_ | with_reducible refine' et_test ?_ | with_reducible refine' et_and2 ?_ ?_ | with_reducible refine' et_or2 ?_ ?_ | with_reducible refine' et_not ?_ | with_reducible refine' ev_call ?_ ?_ | with_reducible refine' ev_callS ?_ ?_ | with_reducible refine' ev_cb ?_ ?_ | with_reducible exact isi_bool (by assumption) | with_reducible exact isi_int (by assumption) | with_reducible exact isi_list (by assumption) | with_reducible exact rc_len (by assumption) | with_reducible exact rc_sum (by assumption) | with_reducible exact rc_abs | with_reducible exact isi_listL (by assumption) | with_reducible exact isi_intI | with_reducible exact isi_boolI | with_reducible exact rc_lenT (by assumption) | with_reducible exact isi_tup (by assumption) | with_reducible exact rv_eqL (by assumption) (by assumption) | with_reducible exact rv_neL (by assumption) (by assumption) | with_reducible exact rv_neT (by assumption) (by assumption) | with_reducible exact rv_ixL (by assumption) (by assumption) | with_reducible exact rv_ixT (by assumption) (by assumption) | with_reducible refine' ev_din ?_ ?_ (by assumption) | with_reducible refine' ev_dnotin ?_ ?_ (by assumption) | with_reducible refine' ev_dget ?_ ?_ (by assumption) (by assumption) | ((with_reducible show SpV _ _ _ _); assumption) | ((with_reducible show RV _ _ _ _ _); assumption) | ((with_reducible show RC _ _ _ _); assumption) | ((with_reducible show CDiv _ _); exact ⟨by omega, by omega⟩) | ((with_reducible show CMul _ _); first | exact .inl ⟨by omega, by omega⟩ | exact .inr ⟨by omega, by omega⟩) | ((with_reducible show CPow _ _); exact ⟨by omega, by omega, by first | decide | assumption | omega⟩) | ((with_reducible show (0 : Int) < _); omega) | ((with_reducible show (0 : Int) ≤ _); omega) | ((with_reducible show scal _ _ = true); rfl)))

def natsI (n : Nat) : List Int := (List.range n).map fun i : Nat => (i : Int)
theorem natsI_len (n : Nat) : (natsI n).length = n := by simp [natsI]
/-- the spots: some arrangement of 0, 1, .. -/
def sp_spots : Sp := fun vs H Q E => ∃ (n : Nat) (c : Int), vs = [.int (n : Int), .int c] ∧ n ≤ 60 ∧ 1 ≤ n ∧ ∀ xs : List Int, xs.Perm (natsI n) → RetL (xs.map V.int) H Q
theorem sc__law_spots_by : FnScope ["_law_size", "_law_cell", "_law_spots", "_law_k", "_law_other", "_law_first"] ["_law_size", "_law_cell"] (defScope s__law_spots_by) := ⟨rfl, rfl, rfl, by decide +kernel, rfl, by decide +kernel, by decide +kernel⟩
theorem ok__law_spots_by {P : Program} {w : World} {K : PySem.W.Frag} {mg : Str → Option Value} {base : Heap} (T : TXT K mg) : OK P w K mg base "_law_spots_by" ["_law_size", "_law_cell"] 2 (sp_spots) := by
  have O__law_mixed := ok__law_mixed (P := P) (w := w) (base := base) T
  obtain ⟨fd, F⟩ := T.def_ 41
  refine ⟨_, fd, T.glo 18, F.kp, F.bindsN (fun _ _ _ _ _ _ us hl => match us, hl with | [_, _], _ => rfl), F.ok sc__law_spots_by (fun vs H Q E h => ?_) (fun cdv A outer s H vs Q E hr h => ?_), F.bindsA (fun _ _ _ _ _ _ us hl => match us, hl with | [_, _], _ => rfl)⟩
  · first | (obtain ⟨rfl, _⟩ := h; rfl) | (obtain ⟨_, rfl, _⟩ := h; rfl) | (obtain ⟨_, _, rfl, _⟩ := h; rfl) | (obtain ⟨_, _, _, rfl, _⟩ := h; rfl) | (obtain ⟨_, _, _, _, rfl, _⟩ := h; rfl) | (obtain ⟨_, _, _, _, _, rfl, _⟩ := h; rfl) | (obtain ⟨_, _, _, _, _, _, rfl, _⟩ := h; rfl) | (obtain ⟨_, _, _, _, _, _, _, rfl, _⟩ := h; rfl) | (obtain ⟨_, _, _, _, _, _, _, _, rfl, _⟩ := h; rfl)
  · replace F : FunD K "_law_spots_by" "_law_spots_by" (defArgs s__law_spots_by) (defBody s__law_spots_by) (defScope s__law_spots_by) [] [] (He.ga K "_law_spots_by") fd := F
    refine ⟨_, (pss_cons (ps_setLc (i := 2) (own := [("_law_k", 3)]) (g := gName 3) (tt := tYes) rfl sc__law_spots_by.nd rfl rfl (sw_true rfl rfl rfl (by decide +kernel)) (pi_range1 (by rfl) (T.free 45) (pa_cons (pv 0) pa_nil)) (blkOk_by (N := ["_law_size", "_law_cell", "_law_spots", "_law_k", "_law_other", "_law_first"]) (sc := defScope s__law_spots_by) (by decide +kernel)) (fun _ _ _ _ _ => pg_name (i := 3) sc__law_spots_by.nd rfl (Or.inl rfl)) (fun _ _ _ _ _ => pts_nil) (fun _ _ _ _ _ => (pv 3)))
      (pss_cons (ps_for (passes_of rfl) rfl (pi_range1 (by rfl) (T.free 45) (pa_cons (pv 0) pa_nil)) (pg_name (i := 3) sc__law_spots_by.nd rfl (Or.inl rfl))
        (pss_cons (ps_set (i := 4) sc__law_spots_by.nd rfl (Or.inl rfl) (pe_op op_mod (pe_own O__law_mixed (hr.mono (by decide)) (by rfl) (passes_call (takes_of rfl rfl rfl rfl) (fun _ _ _ _ h => h)) (pa_cons (pv 1) (pa_cons (pv 3) pa_nil))) (pv 0)))
      (pss_cons (ps_set (i := 5) sc__law_spots_by.nd rfl (Or.inl rfl) (pe_ix (k_ixL K) (pv 2) (pv 3) (fun _ _ => rfl)))
      (pss_cons (ps_asg (pe_ix (k_ixL K) (pv 2) (pv 4) (fun _ _ => rfl)) (pg_sub (pv 2) (pv 3) set_list))
      (pss_one (ps_asg (pv 5) (pg_sub (pv 2) (pv 4) set_list)))))))
      (pss_one (ps_ret (pv 2))))), ?_⟩
    obtain ⟨n, c, rfl, hn, hn1, q⟩ := h
    dsimp only [cxOf, L2.start, List.map_cons, List.map_nil, List.length_cons, List.length_nil, Nat.reduceAdd, Nat.reduceSub, List.replicate_succ, List.replicate_zero, List.cons_append, List.nil_append, Nat.zero_add, List.reduceReplicate, List.map]
    refine q_asgL (xs := (natsI n).map V.int) ?_ fun p H1 hp e1 h1 => ?_
    · have z := el_rng (σ := [some (V.int (n : Int)), some (V.int c), none, none, none, none]) (H := H) (te := tVar 3) (j := 3) (vs := [3]) (ta := tCons (tVar 0) tNil) (n := (n : Int)) (fun i : Nat => V.int (i : Int)) (by (repeat' (first | with_reducible exact ev_c | ((with_reducible show Ev (tVar _) _ _ _); exact ev_var rfl) | with_reducible exact ea_nil | with_reducible exact eo_none | with_reducible refine' ea_cons ?_ ?_ | with_reducible refine' eo_some ?_ | with_reducible refine' ev_and2 ?_ ?_ | with_reducible refine' ev_or2 ?_ ?_ | with_reducible refine' ev_notV ?_ | with_reducible exact ru_I | with_reducible refine' ev_un ?_ ?_ | with_reducible exact rv_I0 | with_reducible exact rv_isN | with_reducible exact rv_notN | with_reducible refine' rv_I ?_ | with_reducible refine' rv_eq ?_ | with_reducible refine' rv_ne ?_ | with_reducible refine' ev_op ?_ ?_ ?_ | with_reducible refine' ev_chain2 ?_ ?_ ?_ ?_ ?_ | with_reducible refine' et_B ?_ | with_reducible refine' et_test ?_ | with_reducible refine' et_and2 ?_ ?_ | with_reducible refine' et_or2 ?_ ?_ | with_reducible refine' et_not ?_ | with_reducible refine' ev_call ?_ ?_ | with_reducible refine' ev_callS ?_ ?_ | with_reducible refine' ev_cb ?_ ?_ | with_reducible exact isi_bool (by assumption) | with_reducible exact isi_int (by assumption) | with_reducible exact isi_list (by assumption) | with_reducible exact rc_len (by assumption) | with_reducible exact rc_sum (by assumption) | with_reducible exact rc_abs | with_reducible exact isi_listL (by assumption) | with_reducible exact isi_intI | with_reducible exact isi_boolI | with_reducible exact rc_lenT (by assumption) | with_reducible exact isi_tup (by assumption) | with_reducible exact rv_eqL (by assumption) (by assumption) | with_reducible exact rv_neL (by assumption) (by assumption) | with_reducible exact rv_neT (by assumption) (by assumption) | with_reducible exact rv_ixL (by assumption) (by assumption) | with_reducible exact rv_ixT (by assumption) (by assumption) | with_reducible refine' ev_din ?_ ?_ (by assumption) | with_reducible refine' ev_dnotin ?_ ?_ (by assumption) | with_reducible refine' ev_dget ?_ ?_ (by assumption) (by assumption) | ((with_reducible show SpV _ _ _ _); assumption) | ((with_reducible show RV _ _ _ _ _); assumption) | ((with_reducible show RC _ _ _ _); assumption) | ((with_reducible show CDiv _ _); exact ⟨by omega, by omega⟩) | ((with_reducible show CMul _ _); first | exact .inl ⟨by omega, by omega⟩ | exact .inr ⟨by omega, by omega⟩) | ((with_reducible show CPow _ _); exact ⟨by omega, by omega, by first | decide | assumption | omega⟩) | ((with_reducible show (0 : Int) < _); omega) | ((with_reducible show (0 : Int) ≤ _); omega) | ((with_reducible show scal _ _ = true); rfl)))) (by omega) (fun _ => rfl) (fun i H2 e2 hi => by (repeat' (first | with_reducible exact ev_c | ((with_reducible show Ev (tVar _) _ _ _); exact ev_var rfl) | with_reducible exact ea_nil | with_reducible exact eo_none | with_reducible refine' ea_cons ?_ ?_ | with_reducible refine' eo_some ?_ | with_reducible refine' ev_and2 ?_ ?_ | with_reducible refine' ev_or2 ?_ ?_ | with_reducible refine' ev_notV ?_ | with_reducible exact ru_I | with_reducible refine' ev_un ?_ ?_ | with_reducible exact rv_I0 | with_reducible exact rv_isN | with_reducible exact rv_notN | with_reducible refine' rv_I ?_ | with_reducible refine' rv_eq ?_ | with_reducible refine' rv_ne ?_ | with_reducible refine' ev_op ?_ ?_ ?_ | with_reducible refine' ev_chain2 ?_ ?_ ?_ ?_ ?_ | with_reducible refine' et_B ?_ | with_reducible refine' et_test ?_ | with_reducible refine' et_and2 ?_ ?_ | with_reducible refine' et_or2 ?_ ?_ | with_reducible refine' et_not ?_ | with_reducible refine' ev_call ?_ ?_ | with_reducible refine' ev_callS ?_ ?_ | with_reducible refine' ev_cb ?_ ?_ | with_reducible exact isi_bool (by assumption) | with_reducible exact isi_int (by assumption) | with_reducible exact isi_list (by assumption) | with_reducible exact rc_len (by assumption) | with_reducible exact rc_sum (by assumption) | with_reducible exact rc_abs | with_reducible exact isi_listL (by assumption) | with_reducible exact isi_intI | with_reducible exact isi_boolI | with_reducible exact rc_lenT (by assumption) | with_reducible exact isi_tup (by assumption) | with_reducible exact rv_eqL (by assumption) (by assumption) | with_reducible exact rv_neL (by assumption) (by assumption) | with_reducible exact rv_neT (by assumption) (by assumption) | with_reducible exact rv_ixL (by assumption) (by assumption) | with_reducible exact rv_ixT (by assumption) (by assumption) | with_reducible refine' ev_din ?_ ?_ (by assumption) | with_reducible refine' ev_dnotin ?_ ?_ (by assumption) | with_reducible refine' ev_dget ?_ ?_ (by assumption) (by assumption) | ((with_reducible show SpV _ _ _ _); assumption) | ((with_reducible show RV _ _ _ _ _); assumption) | ((with_reducible show RC _ _ _ _); assumption) | ((with_reducible show CDiv _ _); exact ⟨by omega, by omega⟩) | ((with_reducible show CMul _ _); first | exact .inl ⟨by omega, by omega⟩ | exact .inr ⟨by omega, by omega⟩) | ((with_reducible show CPow _ _); exact ⟨by omega, by omega, by first | decide | assumption | omega⟩) | ((with_reducible show (0 : Int) < _); omega) | ((with_reducible show (0 : Int) ≤ _); omega) | ((with_reducible show scal _ _ = true); rfl))))
      have z2 : (natsI n).map V.int = (List.range (n : Int).toNat).map fun i : Nat => V.int (i : Int) := by
        rw [natsI, List.map_map]
        rfl
      rw [z2]
      exact z
    refine q_forR1 (n := (n : Int)) (by (repeat' (first | with_reducible exact ev_c | ((with_reducible show Ev (tVar _) _ _ _); exact ev_var rfl) | with_reducible exact ea_nil | with_reducible exact eo_none | with_reducible refine' ea_cons ?_ ?_ | with_reducible refine' eo_some ?_ | with_reducible refine' ev_and2 ?_ ?_ | with_reducible refine' ev_or2 ?_ ?_ | with_reducible refine' ev_notV ?_ | with_reducible exact ru_I | with_reducible refine' ev_un ?_ ?_ | with_reducible exact rv_I0 | with_reducible exact rv_isN | with_reducible exact rv_notN | with_reducible refine' rv_I ?_ | with_reducible refine' rv_eq ?_ | with_reducible refine' rv_ne ?_ | with_reducible refine' ev_op ?_ ?_ ?_ | with_reducible refine' ev_chain2 ?_ ?_ ?_ ?_ ?_ | with_reducible refine' et_B ?_ | with_reducible refine' et_test ?_ | with_reducible refine' et_and2 ?_ ?_ | with_reducible refine' et_or2 ?_ ?_ | with_reducible refine' et_not ?_ | with_reducible refine' ev_call ?_ ?_ | with_reducible refine' ev_callS ?_ ?_ | with_reducible refine' ev_cb ?_ ?_ | with_reducible exact isi_bool (by assumption) | with_reducible exact isi_int (by assumption) | with_reducible exact isi_list (by assumption) | with_reducible exact rc_len (by assumption) | with_reducible exact rc_sum (by assumption) | with_reducible exact rc_abs | with_reducible exact isi_listL (by assumption) | with_reducible exact isi_intI | with_reducible exact isi_boolI | with_reducible exact rc_lenT (by assumption) | with_reducible exact isi_tup (by assumption) | with_reducible exact rv_eqL (by assumption) (by assumption) | with_reducible exact rv_neL (by assumption) (by assumption) | with_reducible exact rv_neT (by assumption) (by assumption) | with_reducible exact rv_ixL (by assumption) (by assumption) | with_reducible exact rv_ixT (by assumption) (by assumption) | with_reducible refine' ev_din ?_ ?_ (by assumption) | with_reducible refine' ev_dnotin ?_ ?_ (by assumption) | with_reducible refine' ev_dget ?_ ?_ (by assumption) (by assumption) | ((with_reducible show SpV _ _ _ _); assumption) | ((with_reducible show RV _ _ _ _ _); assumption) | ((with_reducible show RC _ _ _ _); assumption) | ((with_reducible show CDiv _ _); exact ⟨by omega, by omega⟩) | ((with_reducible show CMul _ _); first | exact .inl ⟨by omega, by omega⟩ | exact .inr ⟨by omega, by omega⟩) | ((with_reducible show CPow _ _); exact ⟨by omega, by omega, by first | decide | assumption | omega⟩) | ((with_reducible show (0 : Int) < _); omega) | ((with_reducible show (0 : Int) ≤ _); omega) | ((with_reducible show scal _ _ = true); rfl)))) (by omega) (fun i σ' H' => ∃ y3 y4 y5 xs, σ' = [some (V.int (n : Int)), some (V.int c), some (V.ref p), y3, y4, y5] ∧ Ex H H' ∧ H' p = some (.lst (xs.map V.int)) ∧ xs.Perm (natsI n)) (fun H2 e2 => ⟨none, none, none, natsI n, rfl, e1.trans e2, e2 _ _ h1, .refl _⟩) ?_ ?_
    · rintro i σ' H' hi ⟨y3, y4, y5, xs, rfl, e3, h3, pm⟩
      have hi' : i < n := by omega
      have hl : xs.length = n := by rw [pm.length_eq, natsI_len]
      obtain ⟨o, ho⟩ := Int.eq_ofNat_of_zero_le (Int.emod_nonneg (mixed c (i : Int)) (show ((n : Nat) : Int) ≠ 0 by omega))
      have ho2 : o < n := by
        have := Int.emod_lt_of_pos (mixed c (i : Int)) (show (0 : Int) < (n : Int) by omega)
        omega
      have sm := sv_mixed (H := H') (c := c) (k := (i : Int))
      refine q_asg (v := .int (o : Int)) ?_ fun H4 e4 => ?_
      · apply ev_is
        · (repeat' (first | with_reducible exact ev_c | ((with_reducible show Ev (tVar _) _ _ _); exact ev_var rfl) | with_reducible exact ea_nil | with_reducible exact eo_none | with_reducible refine' ea_cons ?_ ?_ | with_reducible refine' eo_some ?_ | with_reducible refine' ev_and2 ?_ ?_ | with_reducible refine' ev_or2 ?_ ?_ | with_reducible refine' ev_notV ?_ | with_reducible exact ru_I | with_reducible refine' ev_un ?_ ?_ | with_reducible exact rv_I0 | with_reducible exact rv_isN | with_reducible exact rv_notN | with_reducible refine' rv_I ?_ | with_reducible refine' rv_eq ?_ | with_reducible refine' rv_ne ?_ | with_reducible refine' ev_op ?_ ?_ ?_ | with_reducible refine' ev_chain2 ?_ ?_ ?_ ?_ ?_ | with_reducible refine' et_B ?_ | with_reducible refine' et_test ?_ | with_reducible refine' et_and2 ?_ ?_ | with_reducible refine' et_or2 ?_ ?_ | with_reducible refine' et_not ?_ | with_reducible refine' ev_call ?_ ?_ | with_reducible refine' ev_callS ?_ ?_ | with_reducible refine' ev_cb ?_ ?_ | with_reducible exact isi_bool (by assumption) | with_reducible exact isi_int (by assumption) | with_reducible exact isi_list (by assumption) | with_reducible exact rc_len (by assumption) | with_reducible exact rc_sum (by assumption) | with_reducible exact rc_abs | with_reducible exact isi_listL (by assumption) | with_reducible exact isi_intI | with_reducible exact isi_boolI | with_reducible exact rc_lenT (by assumption) | with_reducible exact isi_tup (by assumption) | with_reducible exact rv_eqL (by assumption) (by assumption) | with_reducible exact rv_neL (by assumption) (by assumption) | with_reducible exact rv_neT (by assumption) (by assumption) | with_reducible exact rv_ixL (by assumption) (by assumption) | with_reducible exact rv_ixT (by assumption) (by assumption) | with_reducible refine' ev_din ?_ ?_ (by assumption) | with_reducible refine' ev_dnotin ?_ ?_ (by assumption) | with_reducible refine' ev_dget ?_ ?_ (by assumption) (by assumption) | ((with_reducible show SpV _ _ _ _); assumption) | ((with_reducible show RV _ _ _ _ _); assumption) | ((with_reducible show RC _ _ _ _); assumption) | ((with_reducible show CDiv _ _); exact ⟨by omega, by omega⟩) | ((with_reducible show CMul _ _); first | exact .inl ⟨by omega, by omega⟩ | exact .inr ⟨by omega, by omega⟩) | ((with_reducible show CPow _ _); exact ⟨by omega, by omega, by first | decide | assumption | omega⟩) | ((with_reducible show (0 : Int) < _); omega) | ((with_reducible show (0 : Int) ≤ _); omega) | ((with_reducible show scal _ _ = true); rfl)))
        · rw [ho]
      have h4 := e4 _ _ h3
      have s4 : SqL K H4 p (xs.map V.int) := sq_of h4
      have gi := atI_int (ns := xs) (j := i) (by omega)
      refine q_asg (v := .int (xs.getD i 0)) (by (repeat' (first | with_reducible exact ev_c | ((with_reducible show Ev (tVar _) _ _ _); exact ev_var rfl) | with_reducible exact ea_nil | with_reducible exact eo_none | with_reducible refine' ea_cons ?_ ?_ | with_reducible refine' eo_some ?_ | with_reducible refine' ev_and2 ?_ ?_ | with_reducible refine' ev_or2 ?_ ?_ | with_reducible refine' ev_notV ?_ | with_reducible exact ru_I | with_reducible refine' ev_un ?_ ?_ | with_reducible exact rv_I0 | with_reducible exact rv_isN | with_reducible exact rv_notN | with_reducible refine' rv_I ?_ | with_reducible refine' rv_eq ?_ | with_reducible refine' rv_ne ?_ | with_reducible refine' ev_op ?_ ?_ ?_ | with_reducible refine' ev_chain2 ?_ ?_ ?_ ?_ ?_ | with_reducible refine' et_B ?_ | with_reducible refine' et_test ?_ | with_reducible refine' et_and2 ?_ ?_ | with_reducible refine' et_or2 ?_ ?_ | with_reducible refine' et_not ?_ | with_reducible refine' ev_call ?_ ?_ | with_reducible refine' ev_callS ?_ ?_ | with_reducible refine' ev_cb ?_ ?_ | with_reducible exact isi_bool (by assumption) | with_reducible exact isi_int (by assumption) | with_reducible exact isi_list (by assumption) | with_reducible exact rc_len (by assumption) | with_reducible exact rc_sum (by assumption) | with_reducible exact rc_abs | with_reducible exact isi_listL (by assumption) | with_reducible exact isi_intI | with_reducible exact isi_boolI | with_reducible exact rc_lenT (by assumption) | with_reducible exact isi_tup (by assumption) | with_reducible exact rv_eqL (by assumption) (by assumption) | with_reducible exact rv_neL (by assumption) (by assumption) | with_reducible exact rv_neT (by assumption) (by assumption) | with_reducible exact rv_ixL (by assumption) (by assumption) | with_reducible exact rv_ixT (by assumption) (by assumption) | with_reducible refine' ev_din ?_ ?_ (by assumption) | with_reducible refine' ev_dnotin ?_ ?_ (by assumption) | with_reducible refine' ev_dget ?_ ?_ (by assumption) (by assumption) | ((with_reducible show SpV _ _ _ _); assumption) | ((with_reducible show RV _ _ _ _ _); assumption) | ((with_reducible show RC _ _ _ _); assumption) | ((with_reducible show CDiv _ _); exact ⟨by omega, by omega⟩) | ((with_reducible show CMul _ _); first | exact .inl ⟨by omega, by omega⟩ | exact .inr ⟨by omega, by omega⟩) | ((with_reducible show CPow _ _); exact ⟨by omega, by omega, by first | decide | assumption | omega⟩) | ((with_reducible show (0 : Int) < _); omega) | ((with_reducible show (0 : Int) ≤ _); omega) | ((with_reducible show scal _ _ = true); rfl)))) fun H5 e5 => ?_
      have h5 := e5 _ _ h4
      have s5 : SqL K H5 p (xs.map V.int) := sq_of h5
      have go := atI_int (ns := xs) (j := o) (by omega)
      refine q_setL (j := i) h5 (v := .int (xs.getD o 0)) (by (repeat' (first | with_reducible exact ev_c | ((with_reducible show Ev (tVar _) _ _ _); exact ev_var rfl) | with_reducible exact ea_nil | with_reducible exact eo_none | with_reducible refine' ea_cons ?_ ?_ | with_reducible refine' eo_some ?_ | with_reducible refine' ev_and2 ?_ ?_ | with_reducible refine' ev_or2 ?_ ?_ | with_reducible refine' ev_notV ?_ | with_reducible exact ru_I | with_reducible refine' ev_un ?_ ?_ | with_reducible exact rv_I0 | with_reducible exact rv_isN | with_reducible exact rv_notN | with_reducible refine' rv_I ?_ | with_reducible refine' rv_eq ?_ | with_reducible refine' rv_ne ?_ | with_reducible refine' ev_op ?_ ?_ ?_ | with_reducible refine' ev_chain2 ?_ ?_ ?_ ?_ ?_ | with_reducible refine' et_B ?_ | with_reducible refine' et_test ?_ | with_reducible refine' et_and2 ?_ ?_ | with_reducible refine' et_or2 ?_ ?_ | with_reducible refine' et_not ?_ | with_reducible refine' ev_call ?_ ?_ | with_reducible refine' ev_callS ?_ ?_ | with_reducible refine' ev_cb ?_ ?_ | with_reducible exact isi_bool (by assumption) | with_reducible exact isi_int (by assumption) | with_reducible exact isi_list (by assumption) | with_reducible exact rc_len (by assumption) | with_reducible exact rc_sum (by assumption) | with_reducible exact rc_abs | with_reducible exact isi_listL (by assumption) | with_reducible exact isi_intI | with_reducible exact isi_boolI | with_reducible exact rc_lenT (by assumption) | with_reducible exact isi_tup (by assumption) | with_reducible exact rv_eqL (by assumption) (by assumption) | with_reducible exact rv_neL (by assumption) (by assumption) | with_reducible exact rv_neT (by assumption) (by assumption) | with_reducible exact rv_ixL (by assumption) (by assumption) | with_reducible exact rv_ixT (by assumption) (by assumption) | with_reducible refine' ev_din ?_ ?_ (by assumption) | with_reducible refine' ev_dnotin ?_ ?_ (by assumption) | with_reducible refine' ev_dget ?_ ?_ (by assumption) (by assumption) | ((with_reducible show SpV _ _ _ _); assumption) | ((with_reducible show RV _ _ _ _ _); assumption) | ((with_reducible show RC _ _ _ _); assumption) | ((with_reducible show CDiv _ _); exact ⟨by omega, by omega⟩) | ((with_reducible show CMul _ _); first | exact .inl ⟨by omega, by omega⟩ | exact .inr ⟨by omega, by omega⟩) | ((with_reducible show CPow _ _); exact ⟨by omega, by omega, by first | decide | assumption | omega⟩) | ((with_reducible show (0 : Int) < _); omega) | ((with_reducible show (0 : Int) ≤ _); omega) | ((with_reducible show scal _ _ = true); rfl)))) (by (repeat' (first | with_reducible exact ev_c | ((with_reducible show Ev (tVar _) _ _ _); exact ev_var rfl) | with_reducible exact ea_nil | with_reducible exact eo_none | with_reducible refine' ea_cons ?_ ?_ | with_reducible refine' eo_some ?_ | with_reducible refine' ev_and2 ?_ ?_ | with_reducible refine' ev_or2 ?_ ?_ | with_reducible refine' ev_notV ?_ | with_reducible exact ru_I | with_reducible refine' ev_un ?_ ?_ | with_reducible exact rv_I0 | with_reducible exact rv_isN | with_reducible exact rv_notN | with_reducible refine' rv_I ?_ | with_reducible refine' rv_eq ?_ | with_reducible refine' rv_ne ?_ | with_reducible refine' ev_op ?_ ?_ ?_ | with_reducible refine' ev_chain2 ?_ ?_ ?_ ?_ ?_ | with_reducible refine' et_B ?_ | with_reducible refine' et_test ?_ | with_reducible refine' et_and2 ?_ ?_ | with_reducible refine' et_or2 ?_ ?_ | with_reducible refine' et_not ?_ | with_reducible refine' ev_call ?_ ?_ | with_reducible refine' ev_callS ?_ ?_ | with_reducible refine' ev_cb ?_ ?_ | with_reducible exact isi_bool (by assumption) | with_reducible exact isi_int (by assumption) | with_reducible exact isi_list (by assumption) | with_reducible exact rc_len (by assumption) | with_reducible exact rc_sum (by assumption) | with_reducible exact rc_abs | with_reducible exact isi_listL (by assumption) | with_reducible exact isi_intI | with_reducible exact isi_boolI | with_reducible exact rc_lenT (by assumption) | with_reducible exact isi_tup (by assumption) | with_reducible exact rv_eqL (by assumption) (by assumption) | with_reducible exact rv_neL (by assumption) (by assumption) | with_reducible exact rv_neT (by assumption) (by assumption) | with_reducible exact rv_ixL (by assumption) (by assumption) | with_reducible exact rv_ixT (by assumption) (by assumption) | with_reducible refine' ev_din ?_ ?_ (by assumption) | with_reducible refine' ev_dnotin ?_ ?_ (by assumption) | with_reducible refine' ev_dget ?_ ?_ (by assumption) (by assumption) | ((with_reducible show SpV _ _ _ _); assumption) | ((with_reducible show RV _ _ _ _ _); assumption) | ((with_reducible show RC _ _ _ _); assumption) | ((with_reducible show CDiv _ _); exact ⟨by omega, by omega⟩) | ((with_reducible show CMul _ _); first | exact .inl ⟨by omega, by omega⟩ | exact .inr ⟨by omega, by omega⟩) | ((with_reducible show CPow _ _); exact ⟨by omega, by omega, by first | decide | assumption | omega⟩) | ((with_reducible show (0 : Int) < _); omega) | ((with_reducible show (0 : Int) ≤ _); omega) | ((with_reducible show scal _ _ = true); rfl)))) (by (repeat' (first | with_reducible exact ev_c | ((with_reducible show Ev (tVar _) _ _ _); exact ev_var rfl) | with_reducible exact ea_nil | with_reducible exact eo_none | with_reducible refine' ea_cons ?_ ?_ | with_reducible refine' eo_some ?_ | with_reducible refine' ev_and2 ?_ ?_ | with_reducible refine' ev_or2 ?_ ?_ | with_reducible refine' ev_notV ?_ | with_reducible exact ru_I | with_reducible refine' ev_un ?_ ?_ | with_reducible exact rv_I0 | with_reducible exact rv_isN | with_reducible exact rv_notN | with_reducible refine' rv_I ?_ | with_reducible refine' rv_eq ?_ | with_reducible refine' rv_ne ?_ | with_reducible refine' ev_op ?_ ?_ ?_ | with_reducible refine' ev_chain2 ?_ ?_ ?_ ?_ ?_ | with_reducible refine' et_B ?_ | with_reducible refine' et_test ?_ | with_reducible refine' et_and2 ?_ ?_ | with_reducible refine' et_or2 ?_ ?_ | with_reducible refine' et_not ?_ | with_reducible refine' ev_call ?_ ?_ | with_reducible refine' ev_callS ?_ ?_ | with_reducible refine' ev_cb ?_ ?_ | with_reducible exact isi_bool (by assumption) | with_reducible exact isi_int (by assumption) | with_reducible exact isi_list (by assumption) | with_reducible exact rc_len (by assumption) | with_reducible exact rc_sum (by assumption) | with_reducible exact rc_abs | with_reducible exact isi_listL (by assumption) | with_reducible exact isi_intI | with_reducible exact isi_boolI | with_reducible exact rc_lenT (by assumption) | with_reducible exact isi_tup (by assumption) | with_reducible exact rv_eqL (by assumption) (by assumption) | with_reducible exact rv_neL (by assumption) (by assumption) | with_reducible exact rv_neT (by assumption) (by assumption) | with_reducible exact rv_ixL (by assumption) (by assumption) | with_reducible exact rv_ixT (by assumption) (by assumption) | with_reducible refine' ev_din ?_ ?_ (by assumption) | with_reducible refine' ev_dnotin ?_ ?_ (by assumption) | with_reducible refine' ev_dget ?_ ?_ (by assumption) (by assumption) | ((with_reducible show SpV _ _ _ _); assumption) | ((with_reducible show RV _ _ _ _ _); assumption) | ((with_reducible show RC _ _ _ _); assumption) | ((with_reducible show CDiv _ _); exact ⟨by omega, by omega⟩) | ((with_reducible show CMul _ _); first | exact .inl ⟨by omega, by omega⟩ | exact .inr ⟨by omega, by omega⟩) | ((with_reducible show CPow _ _); exact ⟨by omega, by omega, by first | decide | assumption | omega⟩) | ((with_reducible show (0 : Int) < _); omega) | ((with_reducible show (0 : Int) ≤ _); omega) | ((with_reducible show scal _ _ = true); rfl)))) (by rw [List.length_map]; omega) fun H6 e6 => ?_
      refine s_setL (j := o) (xs := (xs.map V.int).set i (.int (xs.getD o 0))) upd_same (v := .int (xs.getD i 0)) (by (repeat' (first | with_reducible exact ev_c | ((with_reducible show Ev (tVar _) _ _ _); exact ev_var rfl) | with_reducible exact ea_nil | with_reducible exact eo_none | with_reducible refine' ea_cons ?_ ?_ | with_reducible refine' eo_some ?_ | with_reducible refine' ev_and2 ?_ ?_ | with_reducible refine' ev_or2 ?_ ?_ | with_reducible refine' ev_notV ?_ | with_reducible exact ru_I | with_reducible refine' ev_un ?_ ?_ | with_reducible exact rv_I0 | with_reducible exact rv_isN | with_reducible exact rv_notN | with_reducible refine' rv_I ?_ | with_reducible refine' rv_eq ?_ | with_reducible refine' rv_ne ?_ | with_reducible refine' ev_op ?_ ?_ ?_ | with_reducible refine' ev_chain2 ?_ ?_ ?_ ?_ ?_ | with_reducible refine' et_B ?_ | with_reducible refine' et_test ?_ | with_reducible refine' et_and2 ?_ ?_ | with_reducible refine' et_or2 ?_ ?_ | with_reducible refine' et_not ?_ | with_reducible refine' ev_call ?_ ?_ | with_reducible refine' ev_callS ?_ ?_ | with_reducible refine' ev_cb ?_ ?_ | with_reducible exact isi_bool (by assumption) | with_reducible exact isi_int (by assumption) | with_reducible exact isi_list (by assumption) | with_reducible exact rc_len (by assumption) | with_reducible exact rc_sum (by assumption) | with_reducible exact rc_abs | with_reducible exact isi_listL (by assumption) | with_reducible exact isi_intI | with_reducible exact isi_boolI | with_reducible exact rc_lenT (by assumption) | with_reducible exact isi_tup (by assumption) | with_reducible exact rv_eqL (by assumption) (by assumption) | with_reducible exact rv_neL (by assumption) (by assumption) | with_reducible exact rv_neT (by assumption) (by assumption) | with_reducible exact rv_ixL (by assumption) (by assumption) | with_reducible exact rv_ixT (by assumption) (by assumption) | with_reducible refine' ev_din ?_ ?_ (by assumption) | with_reducible refine' ev_dnotin ?_ ?_ (by assumption) | with_reducible refine' ev_dget ?_ ?_ (by assumption) (by assumption) | ((with_reducible show SpV _ _ _ _); assumption) | ((with_reducible show RV _ _ _ _ _); assumption) | ((with_reducible show RC _ _ _ _); assumption) | ((with_reducible show CDiv _ _); exact ⟨by omega, by omega⟩) | ((with_reducible show CMul _ _); first | exact .inl ⟨by omega, by omega⟩ | exact .inr ⟨by omega, by omega⟩) | ((with_reducible show CPow _ _); exact ⟨by omega, by omega, by first | decide | assumption | omega⟩) | ((with_reducible show (0 : Int) < _); omega) | ((with_reducible show (0 : Int) ≤ _); omega) | ((with_reducible show scal _ _ = true); rfl)))) (by (repeat' (first | with_reducible exact ev_c | ((with_reducible show Ev (tVar _) _ _ _); exact ev_var rfl) | with_reducible exact ea_nil | with_reducible exact eo_none | with_reducible refine' ea_cons ?_ ?_ | with_reducible refine' eo_some ?_ | with_reducible refine' ev_and2 ?_ ?_ | with_reducible refine' ev_or2 ?_ ?_ | with_reducible refine' ev_notV ?_ | with_reducible exact ru_I | with_reducible refine' ev_un ?_ ?_ | with_reducible exact rv_I0 | with_reducible exact rv_isN | with_reducible exact rv_notN | with_reducible refine' rv_I ?_ | with_reducible refine' rv_eq ?_ | with_reducible refine' rv_ne ?_ | with_reducible refine' ev_op ?_ ?_ ?_ | with_reducible refine' ev_chain2 ?_ ?_ ?_ ?_ ?_ | with_reducible refine' et_B ?_ | with_reducible refine' et_test ?_ | with_reducible refine' et_and2 ?_ ?_ | with_reducible refine' et_or2 ?_ ?_ | with_reducible refine' et_not ?_ | with_reducible refine' ev_call ?_ ?_ | with_reducible refine' ev_callS ?_ ?_ | with_reducible refine' ev_cb ?_ ?_ | with_reducible exact isi_bool (by assumption) | with_reducible exact isi_int (by assumption) | with_reducible exact isi_list (by assumption) | with_reducible exact rc_len (by assumption) | with_reducible exact rc_sum (by assumption) | with_reducible exact rc_abs | with_reducible exact isi_listL (by assumption) | with_reducible exact isi_intI | with_reducible exact isi_boolI | with_reducible exact rc_lenT (by assumption) | with_reducible exact isi_tup (by assumption) | with_reducible exact rv_eqL (by assumption) (by assumption) | with_reducible exact rv_neL (by assumption) (by assumption) | with_reducible exact rv_neT (by assumption) (by assumption) | with_reducible exact rv_ixL (by assumption) (by assumption) | with_reducible exact rv_ixT (by assumption) (by assumption) | with_reducible refine' ev_din ?_ ?_ (by assumption) | with_reducible refine' ev_dnotin ?_ ?_ (by assumption) | with_reducible refine' ev_dget ?_ ?_ (by assumption) (by assumption) | ((with_reducible show SpV _ _ _ _); assumption) | ((with_reducible show RV _ _ _ _ _); assumption) | ((with_reducible show RC _ _ _ _); assumption) | ((with_reducible show CDiv _ _); exact ⟨by omega, by omega⟩) | ((with_reducible show CMul _ _); first | exact .inl ⟨by omega, by omega⟩ | exact .inr ⟨by omega, by omega⟩) | ((with_reducible show CPow _ _); exact ⟨by omega, by omega, by first | decide | assumption | omega⟩) | ((with_reducible show (0 : Int) < _); omega) | ((with_reducible show (0 : Int) ≤ _); omega) | ((with_reducible show scal _ _ = true); rfl)))) (by (repeat' (first | with_reducible exact ev_c | ((with_reducible show Ev (tVar _) _ _ _); exact ev_var rfl) | with_reducible exact ea_nil | with_reducible exact eo_none | with_reducible refine' ea_cons ?_ ?_ | with_reducible refine' eo_some ?_ | with_reducible refine' ev_and2 ?_ ?_ | with_reducible refine' ev_or2 ?_ ?_ | with_reducible refine' ev_notV ?_ | with_reducible exact ru_I | with_reducible refine' ev_un ?_ ?_ | with_reducible exact rv_I0 | with_reducible exact rv_isN | with_reducible exact rv_notN | with_reducible refine' rv_I ?_ | with_reducible refine' rv_eq ?_ | with_reducible refine' rv_ne ?_ | with_reducible refine' ev_op ?_ ?_ ?_ | with_reducible refine' ev_chain2 ?_ ?_ ?_ ?_ ?_ | with_reducible refine' et_B ?_ | with_reducible refine' et_test ?_ | with_reducible refine' et_and2 ?_ ?_ | with_reducible refine' et_or2 ?_ ?_ | with_reducible refine' et_not ?_ | with_reducible refine' ev_call ?_ ?_ | with_reducible refine' ev_callS ?_ ?_ | with_reducible refine' ev_cb ?_ ?_ | with_reducible exact isi_bool (by assumption) | with_reducible exact isi_int (by assumption) | with_reducible exact isi_list (by assumption) | with_reducible exact rc_len (by assumption) | with_reducible exact rc_sum (by assumption) | with_reducible exact rc_abs | with_reducible exact isi_listL (by assumption) | with_reducible exact isi_intI | with_reducible exact isi_boolI | with_reducible exact rc_lenT (by assumption) | with_reducible exact isi_tup (by assumption) | with_reducible exact rv_eqL (by assumption) (by assumption) | with_reducible exact rv_neL (by assumption) (by assumption) | with_reducible exact rv_neT (by assumption) (by assumption) | with_reducible exact rv_ixL (by assumption) (by assumption) | with_reducible exact rv_ixT (by assumption) (by assumption) | with_reducible refine' ev_din ?_ ?_ (by assumption) | with_reducible refine' ev_dnotin ?_ ?_ (by assumption) | with_reducible refine' ev_dget ?_ ?_ (by assumption) (by assumption) | ((with_reducible show SpV _ _ _ _); assumption) | ((with_reducible show RV _ _ _ _ _); assumption) | ((with_reducible show RC _ _ _ _); assumption) | ((with_reducible show CDiv _ _); exact ⟨by omega, by omega⟩) | ((with_reducible show CMul _ _); first | exact .inl ⟨by omega, by omega⟩ | exact .inr ⟨by omega, by omega⟩) | ((with_reducible show CPow _ _); exact ⟨by omega, by omega, by first | decide | assumption | omega⟩) | ((with_reducible show (0 : Int) < _); omega) | ((with_reducible show (0 : Int) ≤ _); omega) | ((with_reducible show scal _ _ = true); rfl)))) (by rw [List.length_set, List.length_map]; omega) fun H7 e7 => ?_
      refine ⟨_, _, _, (xs.set i (xs.getD o 0)).set o (xs.getD i 0), rfl, ?_, ?_, ?_⟩
      · exact Ex.mut ((Ex.mut (((e3.trans e4).trans e5).trans e6) hp).trans e7) hp
      · rw [upd_same, List.map_set, List.map_set]
      · have gi2 : xs.getD i 0 = xs[i]'(by omega) := by rw [List.getD_eq_getElem?_getD, List.getElem?_eq_getElem (by omega)]; rfl
        have go2 : xs.getD o 0 = xs[o]'(by omega) := by rw [List.getD_eq_getElem?_getD, List.getElem?_eq_getElem (by omega)]; rfl
        rw [gi2, go2]
        exact (List.set_set_perm (by omega) (by omega)).trans pm
    · rintro σ' H' ⟨y3, y4, y5, xs, rfl, e3, h3, pm⟩
      exact s_ret (v := .ref p) (by (repeat' (first | with_reducible exact ev_c | ((with_reducible show Ev (tVar _) _ _ _); exact ev_var rfl) | with_reducible exact ea_nil | with_reducible exact eo_none | with_reducible refine' ea_cons ?_ ?_ | with_reducible refine' eo_some ?_ | with_reducible refine' ev_and2 ?_ ?_ | with_reducible refine' ev_or2 ?_ ?_ | with_reducible refine' ev_notV ?_ | with_reducible exact ru_I | with_reducible refine' ev_un ?_ ?_ | with_reducible exact rv_I0 | with_reducible exact rv_isN | with_reducible exact rv_notN | with_reducible refine' rv_I ?_ | with_reducible refine' rv_eq ?_ | with_reducible refine' rv_ne ?_ | with_reducible refine' ev_op ?_ ?_ ?_ | with_reducible refine' ev_chain2 ?_ ?_ ?_ ?_ ?_ | with_reducible refine' et_B ?_ | with_reducible refine' et_test ?_ | with_reducible refine' et_and2 ?_ ?_ | with_reducible refine' et_or2 ?_ ?_ | with_reducible refine' et_not ?_ | with_reducible refine' ev_call ?_ ?_ | with_reducible refine' ev_callS ?_ ?_ | with_reducible refine' ev_cb ?_ ?_ | with_reducible exact isi_bool (by assumption) | with_reducible exact isi_int (by assumption) | with_reducible exact isi_list (by assumption) | with_reducible exact rc_len (by assumption) | with_reducible exact rc_sum (by assumption) | with_reducible exact rc_abs | with_reducible exact isi_listL (by assumption) | with_reducible exact isi_intI | with_reducible exact isi_boolI | with_reducible exact rc_lenT (by assumption) | with_reducible exact isi_tup (by assumption) | with_reducible exact rv_eqL (by assumption) (by assumption) | with_reducible exact rv_neL (by assumption) (by assumption) | with_reducible exact rv_neT (by assumption) (by assumption) | with_reducible exact rv_ixL (by assumption) (by assumption) | with_reducible exact rv_ixT (by assumption) (by assumption) | with_reducible refine' ev_din ?_ ?_ (by assumption) | with_reducible refine' ev_dnotin ?_ ?_ (by assumption) | with_reducible refine' ev_dget ?_ ?_ (by assumption) (by assumption) | ((with_reducible show SpV _ _ _ _); assumption) | ((with_reducible show RV _ _ _ _ _); assumption) | ((with_reducible show RC _ _ _ _); assumption) | ((with_reducible show CDiv _ _); exact ⟨by omega, by omega⟩) | ((with_reducible show CMul _ _); first | exact .inl ⟨by omega, by omega⟩ | exact .inr ⟨by omega, by omega⟩) | ((with_reducible show CPow _ _); exact ⟨by omega, by omega, by first | decide | assumption | omega⟩) | ((with_reducible show (0 : Int) < _); omega) | ((with_reducible show (0 : Int) ≤ _); omega) | ((with_reducible show scal _ _ = true); rfl)))) fun H4 e4 => q xs pm p H4 hp (e3.trans e4) (e4 _ _ h3)

end TB

/-! ### the laws' own patterns -/
namespace TB
open PySem PySem.Spec PyProof.Rows L2 Evl
/-- the bound of a throw, by its kind -/
def farOk (n : Nat) (kind : Int) (t : Int) : Prop := (kind = 0 → 0 ≤ t ∧ t < 3 * (n : Int)) ∧ (kind = 1 → -4 * (n : Int) < t ∧ t < 4 * (n : Int)) ∧ -1000000 ≤ t ∧ t ≤ 1000000
/-- throws that land on the spots xs, one each -/
structure Lands (n : Nat) (kind : Int) (xs ts : List Int) : Prop where
  len : ts.length = n
  to : ∀ k, k < n → ((k : Int) + ts.getD k 0) % (n : Int) = xs.getD k 0
  far : ∀ t ∈ ts, farOk n kind t
def sp_throws : Sp := fun vs H Q E => ∃ (n : Nat) (c kind : Int), vs = [.int (n : Int), .int c, .int kind] ∧ n ≤ 60 ∧ 1 ≤ n ∧ ∀ xs ts : List Int, xs.Perm (natsI n) → Lands n kind xs ts → RetL (ts.map V.int) H Q
theorem natsI_mem {n : Nat} {x : Int} : x ∈ natsI n ↔ 0 ≤ x ∧ x < (n : Int) := by
  unfold natsI
  rw [List.mem_map]
  constructor
  · rintro ⟨i, hi, rfl⟩
    have := List.mem_range.mp hi
    omega
  · rintro ⟨h1, h2⟩
    exact ⟨x.toNat, List.mem_range.mpr (by omega), by omega⟩
theorem perm_at {n : Nat} {xs : List Int} (pm : xs.Perm (natsI n)) {k : Nat} (hk : k < n) : 0 ≤ xs.getD k 0 ∧ xs.getD k 0 < (n : Int) := by
  have hl : xs.length = n := by rw [pm.length_eq, natsI_len]
  have z : xs.getD k 0 = xs[k]'(by omega) := by rw [List.getD_eq_getElem?_getD, List.getElem?_eq_getElem (by omega)]; rfl
  rw [z]
  exact natsI_mem.mp (pm.mem_iff.mp (List.getElem_mem _))
theorem land_0 {n x k f : Int} (hn : 1 ≤ n) (h0 : 0 ≤ x) (h1 : x < n) : (k + ((x - k) % n + f % 3 * n)) % n = x := by
  have e : k + ((x - k) % n + f % 3 * n) = k + (x - k) % n + n * (f % 3) := by
    rw [Int.mul_comm n]
    omega
  rw [e, Int.add_mul_emod_self_left, Int.add_emod, Int.emod_emod_of_dvd _ (Int.dvd_refl n), ← Int.add_emod]
  have : k + (x - k) = x := by omega
  rw [this]
  exact Int.emod_eq_of_lt h0 h1
theorem land_1 {n x k f : Int} (hn : 1 ≤ n) (h0 : 0 ≤ x) (h1 : x < n) : (k + (x - k + f * n)) % n = x := by
  have e : k + (x - k + f * n) = x + n * f := by
    rw [Int.mul_comm n]
    omega
  rw [e, Int.add_mul_emod_self_left]
  exact Int.emod_eq_of_lt h0 h1
theorem far_0 {n : Nat} {x k f : Int} (hn : 1 ≤ n) (hn2 : n ≤ 60) : farOk n 0 ((x - k) % (n : Int) + f % 3 * (n : Int)) := by
  have a1 := Int.emod_nonneg (x - k) (show (n : Int) ≠ 0 by omega)
  have a2 := Int.emod_lt_of_pos (x - k) (show (0 : Int) < (n : Int) by omega)
  have f3 : f % 3 = 0 ∨ f % 3 = 1 ∨ f % 3 = 2 := by omega
  refine ⟨fun _ => ?_, fun h => absurd h (by decide), ?_, ?_⟩
  · rcases f3 with h | h | h <;> rw [h] <;> omega
  · rcases f3 with h | h | h <;> rw [h] <;> omega
  · rcases f3 with h | h | h <;> rw [h] <;> omega
theorem far_1 {n : Nat} {x k f : Int} (hn : 1 ≤ n) (hn2 : n ≤ 60) (h0 : 0 ≤ x) (h1 : x < n) (k0 : 0 ≤ k) (k1 : k < n) : farOk n 1 (x - k + (f % 7 - 3) * (n : Int)) := by
  have f7 : f % 7 = 0 ∨ f % 7 = 1 ∨ f % 7 = 2 ∨ f % 7 = 3 ∨ f % 7 = 4 ∨ f % 7 = 5 ∨ f % 7 = 6 := by omega
  refine ⟨fun h => absurd h (by decide), fun _ => ?_, ?_, ?_⟩
  · rcases f7 with h | h | h | h | h | h | h <;> rw [h] <;> omega
  · rcases f7 with h | h | h | h | h | h | h <;> rw [h] <;> omega
  · rcases f7 with h | h | h | h | h | h | h <;> rw [h] <;> omega
theorem far_2 {n : Nat} {x k f kind : Int} (hn : 1 ≤ n) (hn2 : n ≤ 60) (h0 : 0 ≤ x) (h1 : x < n) (k0 : 0 ≤ k) (k1 : k < n) (d0 : kind ≠ 0) (d1 : kind ≠ 1) :
    farOk n kind (x - k + (f % (2 * ((1000000 - (n : Int)) / (n : Int)) + 1) - (1000000 - (n : Int)) / (n : Int)) * (n : Int)) := by
  have hm0 : 0 ≤ (1000000 - (n : Int)) / (n : Int) := Int.ediv_nonneg (by omega) (by omega)
  have hm : (1000000 - (n : Int)) / (n : Int) * (n : Int) ≤ 1000000 - (n : Int) := Int.ediv_mul_le _ (by omega)
  generalize (1000000 - (n : Int)) / (n : Int) = m at hm hm0
  have a1 := Int.emod_nonneg f (show 2 * m + 1 ≠ 0 by omega)
  have a2 := Int.emod_lt_of_pos f (show 0 < 2 * m + 1 by omega)
  generalize f % (2 * m + 1) = g at a1 a2
  have b1 : -m ≤ g - m := by omega
  have b2 : g - m ≤ m := by omega
  have c1 : -m * (n : Int) ≤ (g - m) * (n : Int) := Int.mul_le_mul_of_nonneg_right b1 (by omega)
  have c2 : (g - m) * (n : Int) ≤ m * (n : Int) := Int.mul_le_mul_of_nonneg_right b2 (by omega)
  rw [Int.neg_mul] at c1
  generalize (g - m) * (n : Int) = u at c1 c2
  generalize m * (n : Int) = z at c1 c2 hm
  exact ⟨fun h => absurd h d0, fun h => absurd h d1, by omega, by omega⟩
/-- one throw more -/
theorem lands_snoc {n i : Nat} {xs ts : List Int} {t : Int} (hl : ts.length = i) (hto : ∀ k, k < i → ((k : Int) + ts.getD k 0) % (n : Int) = xs.getD k 0) (ht : ((i : Int) + t) % (n : Int) = xs.getD i 0) :
    (ts ++ [t]).length = i + 1 ∧ ∀ k, k < i + 1 → ((k : Int) + (ts ++ [t]).getD k 0) % (n : Int) = xs.getD k 0 := by
  refine ⟨by simp [hl], fun k hk => ?_⟩
  by_cases e : k < i
  · rw [List.getD_eq_getElem?_getD, List.getElem?_append_left (by omega), ← List.getD_eq_getElem?_getD]
    exact hto k e
  · have e2 : k = i := by omega
    subst e2
    rw [List.getD_eq_getElem?_getD, List.getElem?_append_right (by omega), hl, Nat.sub_self]
    exact ht
theorem sc__law_throws_by : FnScope ["_law_size", "_law_cell", "_law_kind", "_law_spots", "_law_made", "_law_k", "_law_far", "_law_most"] ["_law_size", "_law_cell", "_law_kind"] (defScope s__law_throws_by) := ⟨rfl, rfl, rfl, by decide +kernel, rfl, by decide +kernel, by decide +kernel⟩
theorem ok__law_throws_by {P : Program} {w : World} {K : PySem.W.Frag} {mg : Str → Option Value} {base : Heap} (T : TXT K mg) : OK P w K mg base "_law_throws_by" ["_law_size", "_law_cell", "_law_kind"] 3 (sp_throws) := by
  have O__law_spots_by := ok__law_spots_by (P := P) (w := w) (base := base) T
  have O__law_mixed := ok__law_mixed (P := P) (w := w) (base := base) T
  obtain ⟨fd, F⟩ := T.def_ 42
  refine ⟨_, fd, T.glo 19, F.kp, F.bindsN (fun _ _ _ _ _ _ us hl => match us, hl with | [_, _, _], _ => rfl), F.ok sc__law_throws_by (fun vs H Q E h => ?_) (fun cdv A outer s H vs Q E hr h => ?_), F.bindsA (fun _ _ _ _ _ _ us hl => match us, hl with | [_, _, _], _ => rfl)⟩
  · first | (obtain ⟨rfl, _⟩ := h; rfl) | (obtain ⟨_, rfl, _⟩ := h; rfl) | (obtain ⟨_, _, rfl, _⟩ := h; rfl) | (obtain ⟨_, _, _, rfl, _⟩ := h; rfl) | (obtain ⟨_, _, _, _, rfl, _⟩ := h; rfl) | (obtain ⟨_, _, _, _, _, rfl, _⟩ := h; rfl) | (obtain ⟨_, _, _, _, _, _, rfl, _⟩ := h; rfl) | (obtain ⟨_, _, _, _, _, _, _, rfl, _⟩ := h; rfl) | (obtain ⟨_, _, _, _, _, _, _, _, rfl, _⟩ := h; rfl)
  · replace F : FunD K "_law_throws_by" "_law_throws_by" (defArgs s__law_throws_by) (defBody s__law_throws_by) (defScope s__law_throws_by) [] [] (He.ga K "_law_throws_by") fd := F
    refine ⟨_, (pss_cons (ps_set (i := 3) sc__law_throws_by.nd rfl (Or.inl rfl) (pe_own O__law_spots_by (hr.mono (by decide)) (by rfl) (passes_call (takes_of rfl rfl rfl rfl) (fun _ _ _ _ h => h)) (pa_cons (pv 0) (pa_cons (pv 1) pa_nil))))
      (pss_cons (ps_set (i := 4) sc__law_throws_by.nd rfl (Or.inl rfl) (pe_lst pa_nil))
      (pss_cons (ps_for (passes_of rfl) rfl (pi_range1 (by rfl) (T.free 45) (pa_cons (pv 0) pa_nil)) (pg_name (i := 5) sc__law_throws_by.nd rfl (Or.inl rfl))
        (pss_cons (ps_set (i := 6) sc__law_throws_by.nd rfl (Or.inl rfl) (pe_own O__law_mixed (hr.mono (by decide)) (by rfl) (passes_call (takes_of rfl rfl rfl rfl) (fun _ _ _ _ h => h)) (pa_cons (pe_op op_fdiv (pv 1) pe_int) (pa_cons (pe_op op_add (pv 5) pe_int) pa_nil))))
      (pss_one (ps_if (pt_cmpR op_eq (pv 2) pe_int (nomark _))
        (pss_one (ps_expr (pe_bm PySem.F.plainAttrs_list PySem.F.slot_list_append PySem.F.type_list_append mt_append (pv 4) (pa_cons (pe_op op_add (pe_op op_mod (pe_op op_sub (pe_ix (k_ixL K) (pv 3) (pv 5) (fun _ _ => rfl)) (pv 5)) (pv 0)) (pe_op op_mul (pe_op op_mod (pv 6) pe_int) (pv 0))) pa_nil))))
        (pss_one (ps_if (pt_cmpR op_eq (pv 2) pe_int (nomark _))
        (pss_one (ps_expr (pe_bm PySem.F.plainAttrs_list PySem.F.slot_list_append PySem.F.type_list_append mt_append (pv 4) (pa_cons (pe_op op_add (pe_op op_sub (pe_ix (k_ixL K) (pv 3) (pv 5) (fun _ _ => rfl)) (pv 5)) (pe_op op_mul (pe_op op_sub (pe_op op_mod (pv 6) pe_int) pe_int) (pv 0))) pa_nil))))
        (pss_cons (ps_set (i := 7) sc__law_throws_by.nd rfl (Or.inl rfl) (pe_op op_fdiv (pe_op op_sub pe_int (pv 0)) (pv 0)))
      (pss_one (ps_expr (pe_bm PySem.F.plainAttrs_list PySem.F.slot_list_append PySem.F.type_list_append mt_append (pv 4) (pa_cons (pe_op op_add (pe_op op_sub (pe_ix (k_ixL K) (pv 3) (pv 5) (fun _ _ => rfl)) (pv 5)) (pe_op op_mul (pe_op op_sub (pe_op op_mod (pv 6) (pe_op op_add (pe_op op_mul pe_int (pv 7)) pe_int)) (pv 7)) (pv 0))) pa_nil)))))))))))
      (pss_one (ps_ret (pv 4)))))), ?_⟩
    obtain ⟨n, c, kind, rfl, hn, hn1, q⟩ := h
    dsimp only [cxOf, L2.start, List.map_cons, List.map_nil, List.length_cons, List.length_nil, Nat.reduceAdd, Nat.reduceSub, List.replicate_succ, List.replicate_zero, List.cons_append, List.nil_append, Nat.zero_add, List.reduceReplicate, List.map]
    refine q_relL (vs := [.int (n : Int), .int c]) (P := fun xs => xs.Perm (natsI n)) (by (repeat' (first | with_reducible exact ev_c | ((with_reducible show Ev (tVar _) _ _ _); exact ev_var rfl) | with_reducible exact ea_nil | with_reducible exact eo_none | with_reducible refine' ea_cons ?_ ?_ | with_reducible refine' eo_some ?_ | with_reducible refine' ev_and2 ?_ ?_ | with_reducible refine' ev_or2 ?_ ?_ | with_reducible refine' ev_notV ?_ | with_reducible exact ru_I | with_reducible refine' ev_un ?_ ?_ | with_reducible exact rv_I0 | with_reducible exact rv_isN | with_reducible exact rv_notN | with_reducible refine' rv_I ?_ | with_reducible refine' rv_eq ?_ | with_reducible refine' rv_ne ?_ | with_reducible refine' ev_op ?_ ?_ ?_ | with_reducible refine' ev_chain2 ?_ ?_ ?_ ?_ ?_ | with_reducible refine' et_B ?_ | with_reducible refine' et_test ?_ | with_reducible refine' et_and2 ?_ ?_ | with_reducible refine' et_or2 ?_ ?_ | with_reducible refine' et_not ?_ | with_reducible refine' ev_call ?_ ?_ | with_reducible refine' ev_callS ?_ ?_ | with_reducible refine' ev_cb ?_ ?_ | with_reducible exact isi_bool (by assumption) | with_reducible exact isi_int (by assumption) | with_reducible exact isi_list (by assumption) | with_reducible exact rc_len (by assumption) | with_reducible exact rc_sum (by assumption) | with_reducible exact rc_abs | with_reducible exact isi_listL (by assumption) | with_reducible exact isi_intI | with_reducible exact isi_boolI | with_reducible exact rc_lenT (by assumption) | with_reducible exact isi_tup (by assumption) | with_reducible exact rv_eqL (by assumption) (by assumption) | with_reducible exact rv_neL (by assumption) (by assumption) | with_reducible exact rv_neT (by assumption) (by assumption) | with_reducible exact rv_ixL (by assumption) (by assumption) | with_reducible exact rv_ixT (by assumption) (by assumption) | with_reducible refine' ev_din ?_ ?_ (by assumption) | with_reducible refine' ev_dnotin ?_ ?_ (by assumption) | with_reducible refine' ev_dget ?_ ?_ (by assumption) (by assumption) | ((with_reducible show SpV _ _ _ _); assumption) | ((with_reducible show RV _ _ _ _ _); assumption) | ((with_reducible show RC _ _ _ _); assumption) | ((with_reducible show CDiv _ _); exact ⟨by omega, by omega⟩) | ((with_reducible show CMul _ _); first | exact .inl ⟨by omega, by omega⟩ | exact .inr ⟨by omega, by omega⟩) | ((with_reducible show CPow _ _); exact ⟨by omega, by omega, by first | decide | assumption | omega⟩) | ((with_reducible show (0 : Int) < _); omega) | ((with_reducible show (0 : Int) ≤ _); omega) | ((with_reducible show scal _ _ = true); rfl)))) (fun H1 e1 Q E k => ⟨n, c, rfl, hn, hn1, k⟩) fun xs p H1 pm hp e1 h1 => ?_
    refine q_asgL (xs := []) (el_lst ea_nil (by decide)) fun l H2 hl e2 h2 => ?_
    have hlx : xs.length = n := by rw [pm.length_eq, natsI_len]
    have hpl : H1 l = none := hl
    have npl : p ≠ l := ne_of_none h1 hl
    have e02 : Ex H H2 := e1.trans e2
    refine q_forR1 (n := (n : Int)) (by (repeat' (first | with_reducible exact ev_c | ((with_reducible show Ev (tVar _) _ _ _); exact ev_var rfl) | with_reducible exact ea_nil | with_reducible exact eo_none | with_reducible refine' ea_cons ?_ ?_ | with_reducible refine' eo_some ?_ | with_reducible refine' ev_and2 ?_ ?_ | with_reducible refine' ev_or2 ?_ ?_ | with_reducible refine' ev_notV ?_ | with_reducible exact ru_I | with_reducible refine' ev_un ?_ ?_ | with_reducible exact rv_I0 | with_reducible exact rv_isN | with_reducible exact rv_notN | with_reducible refine' rv_I ?_ | with_reducible refine' rv_eq ?_ | with_reducible refine' rv_ne ?_ | with_reducible refine' ev_op ?_ ?_ ?_ | with_reducible refine' ev_chain2 ?_ ?_ ?_ ?_ ?_ | with_reducible refine' et_B ?_ | with_reducible refine' et_test ?_ | with_reducible refine' et_and2 ?_ ?_ | with_reducible refine' et_or2 ?_ ?_ | with_reducible refine' et_not ?_ | with_reducible refine' ev_call ?_ ?_ | with_reducible refine' ev_callS ?_ ?_ | with_reducible refine' ev_cb ?_ ?_ | with_reducible exact isi_bool (by assumption) | with_reducible exact isi_int (by assumption) | with_reducible exact isi_list (by assumption) | with_reducible exact rc_len (by assumption) | with_reducible exact rc_sum (by assumption) | with_reducible exact rc_abs | with_reducible exact isi_listL (by assumption) | with_reducible exact isi_intI | with_reducible exact isi_boolI | with_reducible exact rc_lenT (by assumption) | with_reducible exact isi_tup (by assumption) | with_reducible exact rv_eqL (by assumption) (by assumption) | with_reducible exact rv_neL (by assumption) (by assumption) | with_reducible exact rv_neT (by assumption) (by assumption) | with_reducible exact rv_ixL (by assumption) (by assumption) | with_reducible exact rv_ixT (by assumption) (by assumption) | with_reducible refine' ev_din ?_ ?_ (by assumption) | with_reducible refine' ev_dnotin ?_ ?_ (by assumption) | with_reducible refine' ev_dget ?_ ?_ (by assumption) (by assumption) | ((with_reducible show SpV _ _ _ _); assumption) | ((with_reducible show RV _ _ _ _ _); assumption) | ((with_reducible show RC _ _ _ _); assumption) | ((with_reducible show CDiv _ _); exact ⟨by omega, by omega⟩) | ((with_reducible show CMul _ _); first | exact .inl ⟨by omega, by omega⟩ | exact .inr ⟨by omega, by omega⟩) | ((with_reducible show CPow _ _); exact ⟨by omega, by omega, by first | decide | assumption | omega⟩) | ((with_reducible show (0 : Int) < _); omega) | ((with_reducible show (0 : Int) ≤ _); omega) | ((with_reducible show scal _ _ = true); rfl)))) (by omega) (fun i σ' H' => ∃ (y5 y6 y7 : Option V) (ts : List Int), σ' = [some (V.int (n : Int)), some (V.int c), some (V.int kind), some (V.ref p), some (V.ref l), y5, y6, y7] ∧ Ex H1 H' ∧ H' l = some (.lst (ts.map V.int)) ∧ ts.length = i ∧ (∀ k, k < i → ((k : Int) + ts.getD k 0) % (n : Int) = xs.getD k 0) ∧ ∀ t ∈ ts, farOk n kind t) (fun H3 e3 => ⟨none, none, none, [], rfl, e2.trans e3, e3 _ _ h2, rfl, fun k hk => by omega, fun t ht => nomatch ht⟩) ?_ ?_
    · rintro i σ' H' hi ⟨y5, y6, y7, ts, rfl, e3, h3, tl, tto, tfar⟩
      have hi' : i < n := by omega
      obtain ⟨x0, x1⟩ := perm_at pm hi'
      have sm := sv_mixed (H := H') (c := c / 3) (k := (i : Int) + 70)
      refine q_asg (v := .int (mixed (c / 3) ((i : Int) + 70))) (by (repeat' (first | with_reducible exact ev_c | ((with_reducible show Ev (tVar _) _ _ _); exact ev_var rfl) | with_reducible exact ea_nil | with_reducible exact eo_none | with_reducible refine' ea_cons ?_ ?_ | with_reducible refine' eo_some ?_ | with_reducible refine' ev_and2 ?_ ?_ | with_reducible refine' ev_or2 ?_ ?_ | with_reducible refine' ev_notV ?_ | with_reducible exact ru_I | with_reducible refine' ev_un ?_ ?_ | with_reducible exact rv_I0 | with_reducible exact rv_isN | with_reducible exact rv_notN | with_reducible refine' rv_I ?_ | with_reducible refine' rv_eq ?_ | with_reducible refine' rv_ne ?_ | with_reducible refine' ev_op ?_ ?_ ?_ | with_reducible refine' ev_chain2 ?_ ?_ ?_ ?_ ?_ | with_reducible refine' et_B ?_ | with_reducible refine' et_test ?_ | with_reducible refine' et_and2 ?_ ?_ | with_reducible refine' et_or2 ?_ ?_ | with_reducible refine' et_not ?_ | with_reducible refine' ev_call ?_ ?_ | with_reducible refine' ev_callS ?_ ?_ | with_reducible refine' ev_cb ?_ ?_ | with_reducible exact isi_bool (by assumption) | with_reducible exact isi_int (by assumption) | with_reducible exact isi_list (by assumption) | with_reducible exact rc_len (by assumption) | with_reducible exact rc_sum (by assumption) | with_reducible exact rc_abs | with_reducible exact isi_listL (by assumption) | with_reducible exact isi_intI | with_reducible exact isi_boolI | with_reducible exact rc_lenT (by assumption) | with_reducible exact isi_tup (by assumption) | with_reducible exact rv_eqL (by assumption) (by assumption) | with_reducible exact rv_neL (by assumption) (by assumption) | with_reducible exact rv_neT (by assumption) (by assumption) | with_reducible exact rv_ixL (by assumption) (by assumption) | with_reducible exact rv_ixT (by assumption) (by assumption) | with_reducible refine' ev_din ?_ ?_ (by assumption) | with_reducible refine' ev_dnotin ?_ ?_ (by assumption) | with_reducible refine' ev_dget ?_ ?_ (by assumption) (by assumption) | ((with_reducible show SpV _ _ _ _); assumption) | ((with_reducible show RV _ _ _ _ _); assumption) | ((with_reducible show RC _ _ _ _); assumption) | ((with_reducible show CDiv _ _); exact ⟨by omega, by omega⟩) | ((with_reducible show CMul _ _); first | exact .inl ⟨by omega, by omega⟩ | exact .inr ⟨by omega, by omega⟩) | ((with_reducible show CPow _ _); exact ⟨by omega, by omega, by first | decide | assumption | omega⟩) | ((with_reducible show (0 : Int) < _); omega) | ((with_reducible show (0 : Int) ≤ _); omega) | ((with_reducible show scal _ _ = true); rfl)))) fun H4 e4 => ?_
      have f0 := mixed_nn (c / 3) ((i : Int) + 70)
      have f1 := mixed_lt (c / 3) ((i : Int) + 70)
      generalize mixed (c / 3) ((i : Int) + 70) = f at f0 f1
      have s4 : SqL K H4 p (xs.map V.int) := sq_of (e4 _ _ (e3 _ _ h1))
      have g4 := atI_int (ns := xs) (j := i) (by omega)
      have h4 := e4 _ _ h3
      have fin : ∀ (t : Int) H5, Ex H4 H5 → ((i : Int) + t) % (n : Int) = xs.getD i 0 → farOk n kind t → ∀ y7, ∃ (y5 y6 y7' : Option V) (ts' : List Int), ([some (V.int (n : Int)), some (V.int c), some (V.int kind), some (V.ref p), some (V.ref l), some (V.int (i : Int)), some (V.int f), y7] : L2.St) = [some (V.int (n : Int)), some (V.int c), some (V.int kind), some (V.ref p), some (V.ref l), y5, y6, y7'] ∧ Ex H1 (upd H5 l (.lst (ts.map V.int ++ [.int t]))) ∧ (upd H5 l (.lst (ts.map V.int ++ [.int t]))) l = some (.lst (ts'.map V.int)) ∧ ts'.length = i + 1 ∧ (∀ k, k < i + 1 → ((k : Int) + ts'.getD k 0) % (n : Int) = xs.getD k 0) ∧ ∀ t ∈ ts', farOk n kind t := fun t H5 e5 ht hf y7 => by
        obtain ⟨z1, z2⟩ := lands_snoc tl tto ht
        refine ⟨_, _, _, ts ++ [t], rfl, Ex.mut ((e3.trans e4).trans e5) hpl, ?_, z1, z2, fun u hu => ?_⟩
        · rw [upd_same, List.map_append]
          rfl
        · rcases List.mem_append.mp hu with hu | hu
          · exact tfar u hu
          · rw [List.mem_singleton.mp hu]
            exact hf
      have tlz : (ts.map V.int).length < 100000 := by
        rw [List.length_map]
        omega
      refine s_if (b := decide (kind = 0)) (by apply et_is; · ((repeat' (first | with_reducible exact ev_c | ((with_reducible show Ev (tVar _) _ _ _); exact ev_var rfl) | with_reducible exact ea_nil | with_reducible exact eo_none | with_reducible refine' ea_cons ?_ ?_ | with_reducible refine' eo_some ?_ | with_reducible refine' ev_and2 ?_ ?_ | with_reducible refine' ev_or2 ?_ ?_ | with_reducible refine' ev_notV ?_ | with_reducible exact ru_I | with_reducible refine' ev_un ?_ ?_ | with_reducible exact rv_I0 | with_reducible exact rv_isN | with_reducible exact rv_notN | with_reducible refine' rv_I ?_ | with_reducible refine' rv_eq ?_ | with_reducible refine' rv_ne ?_ | with_reducible refine' ev_op ?_ ?_ ?_ | with_reducible refine' ev_chain2 ?_ ?_ ?_ ?_ ?_ | with_reducible refine' et_B ?_ | with_reducible refine' et_test ?_ | with_reducible refine' et_and2 ?_ ?_ | with_reducible refine' et_or2 ?_ ?_ | with_reducible refine' et_not ?_ | with_reducible refine' ev_call ?_ ?_ | with_reducible refine' ev_callS ?_ ?_ | with_reducible refine' ev_cb ?_ ?_ | with_reducible exact isi_bool (by assumption) | with_reducible exact isi_int (by assumption) | with_reducible exact isi_list (by assumption) | with_reducible exact rc_len (by assumption) | with_reducible exact rc_sum (by assumption) | with_reducible exact rc_abs | with_reducible exact isi_listL (by assumption) | with_reducible exact isi_intI | with_reducible exact isi_boolI | with_reducible exact rc_lenT (by assumption) | with_reducible exact isi_tup (by assumption) | with_reducible exact rv_eqL (by assumption) (by assumption) | with_reducible exact rv_neL (by assumption) (by assumption) | with_reducible exact rv_neT (by assumption) (by assumption) | with_reducible exact rv_ixL (by assumption) (by assumption) | with_reducible exact rv_ixT (by assumption) (by assumption) | with_reducible refine' ev_din ?_ ?_ (by assumption) | with_reducible refine' ev_dnotin ?_ ?_ (by assumption) | with_reducible refine' ev_dget ?_ ?_ (by assumption) (by assumption) | ((with_reducible show SpV _ _ _ _); assumption) | ((with_reducible show RV _ _ _ _ _); assumption) | ((with_reducible show RC _ _ _ _); assumption) | ((with_reducible show CDiv _ _); exact ⟨by omega, by omega⟩) | ((with_reducible show CMul _ _); first | exact .inl ⟨by omega, by omega⟩ | exact .inr ⟨by omega, by omega⟩) | ((with_reducible show CPow _ _); exact ⟨by omega, by omega, by first | decide | assumption | omega⟩) | ((with_reducible show (0 : Int) < _); omega) | ((with_reducible show (0 : Int) ≤ _); omega) | ((with_reducible show scal _ _ = true); rfl))))
                                               · exact dec_int.trans (by rw [Bool.eq_iff_iff]; simp)) (fun hb H5 e5 => ?_) (fun hb H5 e5 => ?_)
      · have hk0 : kind = 0 := of_decide_eq_true hb
        have s5 : SqL K H5 p (xs.map V.int) := ex_l e5 s4
        refine s_app (e5 _ _ h4) (by (repeat' (first | with_reducible exact ev_c | ((with_reducible show Ev (tVar _) _ _ _); exact ev_var rfl) | with_reducible exact ea_nil | with_reducible exact eo_none | with_reducible refine' ea_cons ?_ ?_ | with_reducible refine' eo_some ?_ | with_reducible refine' ev_and2 ?_ ?_ | with_reducible refine' ev_or2 ?_ ?_ | with_reducible refine' ev_notV ?_ | with_reducible exact ru_I | with_reducible refine' ev_un ?_ ?_ | with_reducible exact rv_I0 | with_reducible exact rv_isN | with_reducible exact rv_notN | with_reducible refine' rv_I ?_ | with_reducible refine' rv_eq ?_ | with_reducible refine' rv_ne ?_ | with_reducible refine' ev_op ?_ ?_ ?_ | with_reducible refine' ev_chain2 ?_ ?_ ?_ ?_ ?_ | with_reducible refine' et_B ?_ | with_reducible refine' et_test ?_ | with_reducible refine' et_and2 ?_ ?_ | with_reducible refine' et_or2 ?_ ?_ | with_reducible refine' et_not ?_ | with_reducible refine' ev_call ?_ ?_ | with_reducible refine' ev_callS ?_ ?_ | with_reducible refine' ev_cb ?_ ?_ | with_reducible exact isi_bool (by assumption) | with_reducible exact isi_int (by assumption) | with_reducible exact isi_list (by assumption) | with_reducible exact rc_len (by assumption) | with_reducible exact rc_sum (by assumption) | with_reducible exact rc_abs | with_reducible exact isi_listL (by assumption) | with_reducible exact isi_intI | with_reducible exact isi_boolI | with_reducible exact rc_lenT (by assumption) | with_reducible exact isi_tup (by assumption) | with_reducible exact rv_eqL (by assumption) (by assumption) | with_reducible exact rv_neL (by assumption) (by assumption) | with_reducible exact rv_neT (by assumption) (by assumption) | with_reducible exact rv_ixL (by assumption) (by assumption) | with_reducible exact rv_ixT (by assumption) (by assumption) | with_reducible refine' ev_din ?_ ?_ (by assumption) | with_reducible refine' ev_dnotin ?_ ?_ (by assumption) | with_reducible refine' ev_dget ?_ ?_ (by assumption) (by assumption) | ((with_reducible show SpV _ _ _ _); assumption) | ((with_reducible show RV _ _ _ _ _); assumption) | ((with_reducible show RC _ _ _ _); assumption) | ((with_reducible show CDiv _ _); exact ⟨by omega, by omega⟩) | ((with_reducible show CMul _ _); first | exact .inl ⟨by omega, by omega⟩ | exact .inr ⟨by omega, by omega⟩) | ((with_reducible show CPow _ _); exact ⟨by omega, by omega, by first | decide | assumption | omega⟩) | ((with_reducible show (0 : Int) < _); omega) | ((with_reducible show (0 : Int) ≤ _); omega) | ((with_reducible show scal _ _ = true); rfl)))) (v := .int ((xs.getD i 0 - (i : Int)) % (n : Int) + f % 3 * (n : Int))) ?_ tlz fun H6 e6 => ?_
        · (repeat' (first | with_reducible exact ev_c | ((with_reducible show Ev (tVar _) _ _ _); exact ev_var rfl) | with_reducible exact ea_nil | with_reducible exact eo_none | with_reducible refine' ea_cons ?_ ?_ | with_reducible refine' eo_some ?_ | with_reducible refine' ev_and2 ?_ ?_ | with_reducible refine' ev_or2 ?_ ?_ | with_reducible refine' ev_notV ?_ | with_reducible exact ru_I | with_reducible refine' ev_un ?_ ?_ | with_reducible exact rv_I0 | with_reducible exact rv_isN | with_reducible exact rv_notN | with_reducible refine' rv_I ?_ | with_reducible refine' rv_eq ?_ | with_reducible refine' rv_ne ?_ | with_reducible refine' ev_op ?_ ?_ ?_ | with_reducible refine' ev_chain2 ?_ ?_ ?_ ?_ ?_ | with_reducible refine' et_B ?_ | with_reducible refine' et_test ?_ | with_reducible refine' et_and2 ?_ ?_ | with_reducible refine' et_or2 ?_ ?_ | with_reducible refine' et_not ?_ | with_reducible refine' ev_call ?_ ?_ | with_reducible refine' ev_callS ?_ ?_ | with_reducible refine' ev_cb ?_ ?_ | with_reducible exact isi_bool (by assumption) | with_reducible exact isi_int (by assumption) | with_reducible exact isi_list (by assumption) | with_reducible exact rc_len (by assumption) | with_reducible exact rc_sum (by assumption) | with_reducible exact rc_abs | with_reducible exact isi_listL (by assumption) | with_reducible exact isi_intI | with_reducible exact isi_boolI | with_reducible exact rc_lenT (by assumption) | with_reducible exact isi_tup (by assumption) | with_reducible exact rv_eqL (by assumption) (by assumption) | with_reducible exact rv_neL (by assumption) (by assumption) | with_reducible exact rv_neT (by assumption) (by assumption) | with_reducible exact rv_ixL (by assumption) (by assumption) | with_reducible exact rv_ixT (by assumption) (by assumption) | with_reducible refine' ev_din ?_ ?_ (by assumption) | with_reducible refine' ev_dnotin ?_ ?_ (by assumption) | with_reducible refine' ev_dget ?_ ?_ (by assumption) (by assumption) | ((with_reducible show SpV _ _ _ _); assumption) | ((with_reducible show RV _ _ _ _ _); assumption) | ((with_reducible show RC _ _ _ _); assumption) | ((with_reducible show CDiv _ _); exact ⟨by omega, by omega⟩) | ((with_reducible show CMul _ _); first | exact .inl ⟨by omega, by omega⟩ | exact .inr ⟨by omega, by omega⟩) | ((with_reducible show CPow _ _); exact ⟨by omega, by omega, by first | decide | assumption | omega⟩) | ((with_reducible show (0 : Int) < _); omega) | ((with_reducible show (0 : Int) ≤ _); omega) | ((with_reducible show scal _ _ = true); rfl)))
        · exact fin _ H6 (e5.trans e6) (land_0 (by omega) x0 x1) (by rw [hk0]; exact far_0 hn1 hn) _
      · have hk0 : kind ≠ 0 := of_decide_eq_false hb
        refine s_if (b := decide (kind = 1)) (by apply et_is; · ((repeat' (first | with_reducible exact ev_c | ((with_reducible show Ev (tVar _) _ _ _); exact ev_var rfl) | with_reducible exact ea_nil | with_reducible exact eo_none | with_reducible refine' ea_cons ?_ ?_ | with_reducible refine' eo_some ?_ | with_reducible refine' ev_and2 ?_ ?_ | with_reducible refine' ev_or2 ?_ ?_ | with_reducible refine' ev_notV ?_ | with_reducible exact ru_I | with_reducible refine' ev_un ?_ ?_ | with_reducible exact rv_I0 | with_reducible exact rv_isN | with_reducible exact rv_notN | with_reducible refine' rv_I ?_ | with_reducible refine' rv_eq ?_ | with_reducible refine' rv_ne ?_ | with_reducible refine' ev_op ?_ ?_ ?_ | with_reducible refine' ev_chain2 ?_ ?_ ?_ ?_ ?_ | with_reducible refine' et_B ?_ | with_reducible refine' et_test ?_ | with_reducible refine' et_and2 ?_ ?_ | with_reducible refine' et_or2 ?_ ?_ | with_reducible refine' et_not ?_ | with_reducible refine' ev_call ?_ ?_ | with_reducible refine' ev_callS ?_ ?_ | with_reducible refine' ev_cb ?_ ?_ | with_reducible exact isi_bool (by assumption) | with_reducible exact isi_int (by assumption) | with_reducible exact isi_list (by assumption) | with_reducible exact rc_len (by assumption) | with_reducible exact rc_sum (by assumption) | with_reducible exact rc_abs | with_reducible exact isi_listL (by assumption) | with_reducible exact isi_intI | with_reducible exact isi_boolI | with_reducible exact rc_lenT (by assumption) | with_reducible exact isi_tup (by assumption) | with_reducible exact rv_eqL (by assumption) (by assumption) | with_reducible exact rv_neL (by assumption) (by assumption) | with_reducible exact rv_neT (by assumption) (by assumption) | with_reducible exact rv_ixL (by assumption) (by assumption) | with_reducible exact rv_ixT (by assumption) (by assumption) | with_reducible refine' ev_din ?_ ?_ (by assumption) | with_reducible refine' ev_dnotin ?_ ?_ (by assumption) | with_reducible refine' ev_dget ?_ ?_ (by assumption) (by assumption) | ((with_reducible show SpV _ _ _ _); assumption) | ((with_reducible show RV _ _ _ _ _); assumption) | ((with_reducible show RC _ _ _ _); assumption) | ((with_reducible show CDiv _ _); exact ⟨by omega, by omega⟩) | ((with_reducible show CMul _ _); first | exact .inl ⟨by omega, by omega⟩ | exact .inr ⟨by omega, by omega⟩) | ((with_reducible show CPow _ _); exact ⟨by omega, by omega, by first | decide | assumption | omega⟩) | ((with_reducible show (0 : Int) < _); omega) | ((with_reducible show (0 : Int) ≤ _); omega) | ((with_reducible show scal _ _ = true); rfl))))
                                                 · exact dec_int.trans (by rw [Bool.eq_iff_iff]; simp)) (fun hb H6 e6 => ?_) (fun hb H6 e6 => ?_)
        · have hk1 : kind = 1 := of_decide_eq_true hb
          have s6 : SqL K H6 p (xs.map V.int) := ex_l (e5.trans e6) s4
          refine s_app ((e5.trans e6) _ _ h4) (by (repeat' (first | with_reducible exact ev_c | ((with_reducible show Ev (tVar _) _ _ _); exact ev_var rfl) | with_reducible exact ea_nil | with_reducible exact eo_none | with_reducible refine' ea_cons ?_ ?_ | with_reducible refine' eo_some ?_ | with_reducible refine' ev_and2 ?_ ?_ | with_reducible refine' ev_or2 ?_ ?_ | with_reducible refine' ev_notV ?_ | with_reducible exact ru_I | with_reducible refine' ev_un ?_ ?_ | with_reducible exact rv_I0 | with_reducible exact rv_isN | with_reducible exact rv_notN | with_reducible refine' rv_I ?_ | with_reducible refine' rv_eq ?_ | with_reducible refine' rv_ne ?_ | with_reducible refine' ev_op ?_ ?_ ?_ | with_reducible refine' ev_chain2 ?_ ?_ ?_ ?_ ?_ | with_reducible refine' et_B ?_ | with_reducible refine' et_test ?_ | with_reducible refine' et_and2 ?_ ?_ | with_reducible refine' et_or2 ?_ ?_ | with_reducible refine' et_not ?_ | with_reducible refine' ev_call ?_ ?_ | with_reducible refine' ev_callS ?_ ?_ | with_reducible refine' ev_cb ?_ ?_ | with_reducible exact isi_bool (by assumption) | with_reducible exact isi_int (by assumption) | with_reducible exact isi_list (by assumption) | with_reducible exact rc_len (by assumption) | with_reducible exact rc_sum (by assumption) | with_reducible exact rc_abs | with_reducible exact isi_listL (by assumption) | with_reducible exact isi_intI | with_reducible exact isi_boolI | with_reducible exact rc_lenT (by assumption) | with_reducible exact isi_tup (by assumption) | with_reducible exact rv_eqL (by assumption) (by assumption) | with_reducible exact rv_neL (by assumption) (by assumption) | with_reducible exact rv_neT (by assumption) (by assumption) | with_reducible exact rv_ixL (by assumption) (by assumption) | with_reducible exact rv_ixT (by assumption) (by assumption) | with_reducible refine' ev_din ?_ ?_ (by assumption) | with_reducible refine' ev_dnotin ?_ ?_ (by assumption) | with_reducible refine' ev_dget ?_ ?_ (by assumption) (by assumption) | ((with_reducible show SpV _ _ _ _); assumption) | ((with_reducible show RV _ _ _ _ _); assumption) | ((with_reducible show RC _ _ _ _); assumption) | ((with_reducible show CDiv _ _); exact ⟨by omega, by omega⟩) | ((with_reducible show CMul _ _); first | exact .inl ⟨by omega, by omega⟩ | exact .inr ⟨by omega, by omega⟩) | ((with_reducible show CPow _ _); exact ⟨by omega, by omega, by first | decide | assumption | omega⟩) | ((with_reducible show (0 : Int) < _); omega) | ((with_reducible show (0 : Int) ≤ _); omega) | ((with_reducible show scal _ _ = true); rfl)))) (v := .int (xs.getD i 0 - (i : Int) + (f % 7 - 3) * (n : Int))) ?_ tlz fun H7 e7 => ?_
          · (repeat' (first | with_reducible exact ev_c | ((with_reducible show Ev (tVar _) _ _ _); exact ev_var rfl) | with_reducible exact ea_nil | with_reducible exact eo_none | with_reducible refine' ea_cons ?_ ?_ | with_reducible refine' eo_some ?_ | with_reducible refine' ev_and2 ?_ ?_ | with_reducible refine' ev_or2 ?_ ?_ | with_reducible refine' ev_notV ?_ | with_reducible exact ru_I | with_reducible refine' ev_un ?_ ?_ | with_reducible exact rv_I0 | with_reducible exact rv_isN | with_reducible exact rv_notN | with_reducible refine' rv_I ?_ | with_reducible refine' rv_eq ?_ | with_reducible refine' rv_ne ?_ | with_reducible refine' ev_op ?_ ?_ ?_ | with_reducible refine' ev_chain2 ?_ ?_ ?_ ?_ ?_ | with_reducible refine' et_B ?_ | with_reducible refine' et_test ?_ | with_reducible refine' et_and2 ?_ ?_ | with_reducible refine' et_or2 ?_ ?_ | with_reducible refine' et_not ?_ | with_reducible refine' ev_call ?_ ?_ | with_reducible refine' ev_callS ?_ ?_ | with_reducible refine' ev_cb ?_ ?_ | with_reducible exact isi_bool (by assumption) | with_reducible exact isi_int (by assumption) | with_reducible exact isi_list (by assumption) | with_reducible exact rc_len (by assumption) | with_reducible exact rc_sum (by assumption) | with_reducible exact rc_abs | with_reducible exact isi_listL (by assumption) | with_reducible exact isi_intI | with_reducible exact isi_boolI | with_reducible exact rc_lenT (by assumption) | with_reducible exact isi_tup (by assumption) | with_reducible exact rv_eqL (by assumption) (by assumption) | with_reducible exact rv_neL (by assumption) (by assumption) | with_reducible exact rv_neT (by assumption) (by assumption) | with_reducible exact rv_ixL (by assumption) (by assumption) | with_reducible exact rv_ixT (by assumption) (by assumption) | with_reducible refine' ev_din ?_ ?_ (by assumption) | with_reducible refine' ev_dnotin ?_ ?_ (by assumption) | with_reducible refine' ev_dget ?_ ?_ (by assumption) (by assumption) | ((with_reducible show SpV _ _ _ _); assumption) | ((with_reducible show RV _ _ _ _ _); assumption) | ((with_reducible show RC _ _ _ _); assumption) | ((with_reducible show CDiv _ _); exact ⟨by omega, by omega⟩) | ((with_reducible show CMul _ _); first | exact .inl ⟨by omega, by omega⟩ | exact .inr ⟨by omega, by omega⟩) | ((with_reducible show CPow _ _); exact ⟨by omega, by omega, by first | decide | assumption | omega⟩) | ((with_reducible show (0 : Int) < _); omega) | ((with_reducible show (0 : Int) ≤ _); omega) | ((with_reducible show scal _ _ = true); rfl)))
          · exact fin _ H7 ((e5.trans e6).trans e7) (land_1 (by omega) x0 x1) (by rw [hk1]; exact far_1 hn1 hn x0 x1 (by omega) (by omega)) _
        · have hk1 : kind ≠ 1 := of_decide_eq_false hb
          refine q_asg (v := .int ((1000000 - (n : Int)) / (n : Int))) (by (repeat' (first | with_reducible exact ev_c | ((with_reducible show Ev (tVar _) _ _ _); exact ev_var rfl) | with_reducible exact ea_nil | with_reducible exact eo_none | with_reducible refine' ea_cons ?_ ?_ | with_reducible refine' eo_some ?_ | with_reducible refine' ev_and2 ?_ ?_ | with_reducible refine' ev_or2 ?_ ?_ | with_reducible refine' ev_notV ?_ | with_reducible exact ru_I | with_reducible refine' ev_un ?_ ?_ | with_reducible exact rv_I0 | with_reducible exact rv_isN | with_reducible exact rv_notN | with_reducible refine' rv_I ?_ | with_reducible refine' rv_eq ?_ | with_reducible refine' rv_ne ?_ | with_reducible refine' ev_op ?_ ?_ ?_ | with_reducible refine' ev_chain2 ?_ ?_ ?_ ?_ ?_ | with_reducible refine' et_B ?_ | with_reducible refine' et_test ?_ | with_reducible refine' et_and2 ?_ ?_ | with_reducible refine' et_or2 ?_ ?_ | with_reducible refine' et_not ?_ | with_reducible refine' ev_call ?_ ?_ | with_reducible refine' ev_callS ?_ ?_ | with_reducible refine' ev_cb ?_ ?_ | with_reducible exact isi_bool (by assumption) | with_reducible exact isi_int (by assumption) | with_reducible exact isi_list (by assumption) | with_reducible exact rc_len (by assumption) | with_reducible exact rc_sum (by assumption) | with_reducible exact rc_abs | with_reducible exact isi_listL (by assumption) | with_reducible exact isi_intI | with_reducible exact isi_boolI | with_reducible exact rc_lenT (by assumption) | with_reducible exact isi_tup (by assumption) | with_reducible exact rv_eqL (by assumption) (by assumption) | with_reducible exact rv_neL (by assumption) (by assumption) | with_reducible exact rv_neT (by assumption) (by assumption) | with_reducible exact rv_ixL (by assumption) (by assumption) | with_reducible exact rv_ixT (by assumption) (by assumption) | with_reducible refine' ev_din ?_ ?_ (by assumption) | with_reducible refine' ev_dnotin ?_ ?_ (by assumption) | with_reducible refine' ev_dget ?_ ?_ (by assumption) (by assumption) | ((with_reducible show SpV _ _ _ _); assumption) | ((with_reducible show RV _ _ _ _ _); assumption) | ((with_reducible show RC _ _ _ _); assumption) | ((with_reducible show CDiv _ _); exact ⟨by omega, by omega⟩) | ((with_reducible show CMul _ _); first | exact .inl ⟨by omega, by omega⟩ | exact .inr ⟨by omega, by omega⟩) | ((with_reducible show CPow _ _); exact ⟨by omega, by omega, by first | decide | assumption | omega⟩) | ((with_reducible show (0 : Int) < _); omega) | ((with_reducible show (0 : Int) ≤ _); omega) | ((with_reducible show scal _ _ = true); rfl)))) fun H7 e7 => ?_
          have s7 : SqL K H7 p (xs.map V.int) := ex_l ((e5.trans e6).trans e7) s4
          have hm0 : 0 ≤ (1000000 - (n : Int)) / (n : Int) := Int.ediv_nonneg (by omega) (by omega)
          refine s_app (((e5.trans e6).trans e7) _ _ h4) (by (repeat' (first | with_reducible exact ev_c | ((with_reducible show Ev (tVar _) _ _ _); exact ev_var rfl) | with_reducible exact ea_nil | with_reducible exact eo_none | with_reducible refine' ea_cons ?_ ?_ | with_reducible refine' eo_some ?_ | with_reducible refine' ev_and2 ?_ ?_ | with_reducible refine' ev_or2 ?_ ?_ | with_reducible refine' ev_notV ?_ | with_reducible exact ru_I | with_reducible refine' ev_un ?_ ?_ | with_reducible exact rv_I0 | with_reducible exact rv_isN | with_reducible exact rv_notN | with_reducible refine' rv_I ?_ | with_reducible refine' rv_eq ?_ | with_reducible refine' rv_ne ?_ | with_reducible refine' ev_op ?_ ?_ ?_ | with_reducible refine' ev_chain2 ?_ ?_ ?_ ?_ ?_ | with_reducible refine' et_B ?_ | with_reducible refine' et_test ?_ | with_reducible refine' et_and2 ?_ ?_ | with_reducible refine' et_or2 ?_ ?_ | with_reducible refine' et_not ?_ | with_reducible refine' ev_call ?_ ?_ | with_reducible refine' ev_callS ?_ ?_ | with_reducible refine' ev_cb ?_ ?_ | with_reducible exact isi_bool (by assumption) | with_reducible exact isi_int (by assumption) | with_reducible exact isi_list (by assumption) | with_reducible exact rc_len (by assumption) | with_reducible exact rc_sum (by assumption) | with_reducible exact rc_abs | with_reducible exact isi_listL (by assumption) | with_reducible exact isi_intI | with_reducible exact isi_boolI | with_reducible exact rc_lenT (by assumption) | with_reducible exact isi_tup (by assumption) | with_reducible exact rv_eqL (by assumption) (by assumption) | with_reducible exact rv_neL (by assumption) (by assumption) | with_reducible exact rv_neT (by assumption) (by assumption) | with_reducible exact rv_ixL (by assumption) (by assumption) | with_reducible exact rv_ixT (by assumption) (by assumption) | with_reducible refine' ev_din ?_ ?_ (by assumption) | with_reducible refine' ev_dnotin ?_ ?_ (by assumption) | with_reducible refine' ev_dget ?_ ?_ (by assumption) (by assumption) | ((with_reducible show SpV _ _ _ _); assumption) | ((with_reducible show RV _ _ _ _ _); assumption) | ((with_reducible show RC _ _ _ _); assumption) | ((with_reducible show CDiv _ _); exact ⟨by omega, by omega⟩) | ((with_reducible show CMul _ _); first | exact .inl ⟨by omega, by omega⟩ | exact .inr ⟨by omega, by omega⟩) | ((with_reducible show CPow _ _); exact ⟨by omega, by omega, by first | decide | assumption | omega⟩) | ((with_reducible show (0 : Int) < _); omega) | ((with_reducible show (0 : Int) ≤ _); omega) | ((with_reducible show scal _ _ = true); rfl)))) (v := .int (xs.getD i 0 - (i : Int) + (f % (2 * ((1000000 - (n : Int)) / (n : Int)) + 1) - (1000000 - (n : Int)) / (n : Int)) * (n : Int))) ?_ tlz fun H8 e8 => ?_
          · (repeat' (first | with_reducible exact ev_c | ((with_reducible show Ev (tVar _) _ _ _); exact ev_var rfl) | with_reducible exact ea_nil | with_reducible exact eo_none | with_reducible refine' ea_cons ?_ ?_ | with_reducible refine' eo_some ?_ | with_reducible refine' ev_and2 ?_ ?_ | with_reducible refine' ev_or2 ?_ ?_ | with_reducible refine' ev_notV ?_ | with_reducible exact ru_I | with_reducible refine' ev_un ?_ ?_ | with_reducible exact rv_I0 | with_reducible exact rv_isN | with_reducible exact rv_notN | with_reducible refine' rv_I ?_ | with_reducible refine' rv_eq ?_ | with_reducible refine' rv_ne ?_ | with_reducible refine' ev_op ?_ ?_ ?_ | with_reducible refine' ev_chain2 ?_ ?_ ?_ ?_ ?_ | with_reducible refine' et_B ?_ | with_reducible refine' et_test ?_ | with_reducible refine' et_and2 ?_ ?_ | with_reducible refine' et_or2 ?_ ?_ | with_reducible refine' et_not ?_ | with_reducible refine' ev_call ?_ ?_ | with_reducible refine' ev_callS ?_ ?_ | with_reducible refine' ev_cb ?_ ?_ | with_reducible exact isi_bool (by assumption) | with_reducible exact isi_int (by assumption) | with_reducible exact isi_list (by assumption) | with_reducible exact rc_len (by assumption) | with_reducible exact rc_sum (by assumption) | with_reducible exact rc_abs | with_reducible exact isi_listL (by assumption) | with_reducible exact isi_intI | with_reducible exact isi_boolI | with_reducible exact rc_lenT (by assumption) | with_reducible exact isi_tup (by assumption) | with_reducible exact rv_eqL (by assumption) (by assumption) | with_reducible exact rv_neL (by assumption) (by assumption) | with_reducible exact rv_neT (by assumption) (by assumption) | with_reducible exact rv_ixL (by assumption) (by assumption) | with_reducible exact rv_ixT (by assumption) (by assumption) | with_reducible refine' ev_din ?_ ?_ (by assumption) | with_reducible refine' ev_dnotin ?_ ?_ (by assumption) | with_reducible refine' ev_dget ?_ ?_ (by assumption) (by assumption) | ((with_reducible show SpV _ _ _ _); assumption) | ((with_reducible show RV _ _ _ _ _); assumption) | ((with_reducible show RC _ _ _ _); assumption) | ((with_reducible show CDiv _ _); exact ⟨by omega, by omega⟩) | ((with_reducible show CMul _ _); first | exact .inl ⟨by omega, by omega⟩ | exact .inr ⟨by omega, by omega⟩) | ((with_reducible show CPow _ _); exact ⟨by omega, by omega, by first | decide | assumption | omega⟩) | ((with_reducible show (0 : Int) < _); omega) | ((with_reducible show (0 : Int) ≤ _); omega) | ((with_reducible show scal _ _ = true); rfl)))
          · exact fin _ H8 (((e5.trans e6).trans e7).trans e8) (land_1 (by omega) x0 x1) (far_2 hn1 hn x0 x1 (by omega) (by omega) hk0 hk1) _
    · rintro σ' H' ⟨y5, y6, y7, ts, rfl, e3, h3, tl, tto, tfar⟩
      have hl0 : H l = none := fresh_back e1 hl
      exact s_ret (v := .ref l) (by (repeat' (first | with_reducible exact ev_c | ((with_reducible show Ev (tVar _) _ _ _); exact ev_var rfl) | with_reducible exact ea_nil | with_reducible exact eo_none | with_reducible refine' ea_cons ?_ ?_ | with_reducible refine' eo_some ?_ | with_reducible refine' ev_and2 ?_ ?_ | with_reducible refine' ev_or2 ?_ ?_ | with_reducible refine' ev_notV ?_ | with_reducible exact ru_I | with_reducible refine' ev_un ?_ ?_ | with_reducible exact rv_I0 | with_reducible exact rv_isN | with_reducible exact rv_notN | with_reducible refine' rv_I ?_ | with_reducible refine' rv_eq ?_ | with_reducible refine' rv_ne ?_ | with_reducible refine' ev_op ?_ ?_ ?_ | with_reducible refine' ev_chain2 ?_ ?_ ?_ ?_ ?_ | with_reducible refine' et_B ?_ | with_reducible refine' et_test ?_ | with_reducible refine' et_and2 ?_ ?_ | with_reducible refine' et_or2 ?_ ?_ | with_reducible refine' et_not ?_ | with_reducible refine' ev_call ?_ ?_ | with_reducible refine' ev_callS ?_ ?_ | with_reducible refine' ev_cb ?_ ?_ | with_reducible exact isi_bool (by assumption) | with_reducible exact isi_int (by assumption) | with_reducible exact isi_list (by assumption) | with_reducible exact rc_len (by assumption) | with_reducible exact rc_sum (by assumption) | with_reducible exact rc_abs | with_reducible exact isi_listL (by assumption) | with_reducible exact isi_intI | with_reducible exact isi_boolI | with_reducible exact rc_lenT (by assumption) | with_reducible exact isi_tup (by assumption) | with_reducible exact rv_eqL (by assumption) (by assumption) | with_reducible exact rv_neL (by assumption) (by assumption) | with_reducible exact rv_neT (by assumption) (by assumption) | with_reducible exact rv_ixL (by assumption) (by assumption) | with_reducible exact rv_ixT (by assumption) (by assumption) | with_reducible refine' ev_din ?_ ?_ (by assumption) | with_reducible refine' ev_dnotin ?_ ?_ (by assumption) | with_reducible refine' ev_dget ?_ ?_ (by assumption) (by assumption) | ((with_reducible show SpV _ _ _ _); assumption) | ((with_reducible show RV _ _ _ _ _); assumption) | ((with_reducible show RC _ _ _ _); assumption) | ((with_reducible show CDiv _ _); exact ⟨by omega, by omega⟩) | ((with_reducible show CMul _ _); first | exact .inl ⟨by omega, by omega⟩ | exact .inr ⟨by omega, by omega⟩) | ((with_reducible show CPow _ _); exact ⟨by omega, by omega, by first | decide | assumption | omega⟩) | ((with_reducible show (0 : Int) < _); omega) | ((with_reducible show (0 : Int) ≤ _); omega) | ((with_reducible show scal _ _ = true); rfl)))) fun H4 e4 => q xs ts pm ⟨tl, tto, tfar⟩ l H4 hl0 ((e1.trans e3).trans e4) (e4 _ _ h3)

end TB

/-! ### what stands on spots of its own is a pattern -/
namespace TB
open PySem PySem.Spec PyProof.Rows L2 Evl
/-- a drawn pattern -/
structure Pat (n : Nat) (kind : Int) (ts : List Int) : Prop where
  len : ts.length = n
  row : RowI ts
  no : clashOf ts = none
  far : ∀ t ∈ ts, farOk n kind t
theorem clash_none_iff {ts : List Int} : clashOf ts = none ↔ ∀ i j, i < j → j < ts.length → land ts i ≠ land ts j := by
  unfold clashOf
  rw [List.findSome?_eq_none_iff]
  constructor
  · intro h i j hij hj e
    have h1 := h j (List.mem_range.mpr hj)
    rw [Option.map_eq_none_iff] at h1
    unfold seenAt at h1
    rw [List.find?_eq_none] at h1
    exact h1 i (List.mem_range.mpr hij) (by rw [e]; exact decide_eq_true rfl)
  · intro h j hj
    rw [Option.map_eq_none_iff]
    unfold seenAt
    rw [List.find?_eq_none]
    intro i hi e
    exact h i j (List.mem_range.mp hi) (List.mem_range.mp hj) (of_decide_eq_true e)
theorem natsI_nodup (n : Nat) : (natsI n).Nodup := by
  unfold natsI
  rw [List.nodup_iff_pairwise_ne, List.pairwise_map]
  exact List.pairwise_lt_range.imp fun h e => by omega
theorem getD_inj {xs : List Int} (h : xs.Nodup) {i j : Nat} (hi : i < xs.length) (hj : j < xs.length) (e : xs.getD i 0 = xs.getD j 0) : i = j := by
  rw [List.getD_eq_getElem?_getD, List.getElem?_eq_getElem hi, List.getD_eq_getElem?_getD, List.getElem?_eq_getElem hj] at e
  exact (List.getElem_inj h).mp e
theorem pat_of {n : Nat} {kind : Int} {xs ts : List Int} (hn1 : 1 ≤ n) (hn : n ≤ 60) (pm : xs.Perm (natsI n)) (h : Lands n kind xs ts) : Pat n kind ts := by
  have hl : xs.length = n := by rw [pm.length_eq, natsI_len]
  have nd : xs.Nodup := (pm.nodup_iff).mpr (natsI_nodup n)
  refine ⟨h.len, ⟨by rw [h.len]; exact hn1, by rw [h.len]; exact hn, fun t ht => (h.far t ht).2.2⟩, ?_, h.far⟩
  rw [clash_none_iff]
  intro i j hij hj e
  rw [h.len] at hj
  unfold land at e
  rw [h.len, h.to i (by omega), h.to j hj] at e
  have := getD_inj nd (by omega) (by omega) e
  omega
section
variable {σ : L2.St} {H : Hp} {tz : TS} {D : Ends}
/-- the laws' pattern, drawn -/
theorem q_throws {E : XK} {ta : TA} {i n : Nat} {c kind : Int} (hn1 : 1 ≤ n) (hn : n ≤ 60) (h : EvA ta σ H [.int (n : Int), .int c, .int kind])
    (k : ∀ ts p H1, Pat n kind ts → H p = none → Ex H H1 → H1 p = some (.lst (ts.map V.int)) → tz D (σ.set i (some (.ref p))) H1) : tSeq (tAsg (tCall sp_throws [] E ta) (gName i)) tz D σ H :=
  q_relL (P := Pat n kind) h (fun H1 e1 Q E k => ⟨n, c, kind, rfl, hn, hn1, fun xs ts pm hl => k ts (pat_of hn1 hn pm hl)⟩) k
end
theorem size_nat (c : Int) : ∃ n : Nat, sizeBy c = (n : Int) ∧ 1 ≤ n ∧ n ≤ 60 := by
  have h1 := sizeBy_1 c
  have h2 := sizeBy_60 c
  exact ⟨(sizeBy c).toNat, by omega, by omega, by omega⟩
theorem mod_nat (c : Int) {n : Nat} (hn : 1 ≤ n) : ∃ m : Nat, c % (n : Int) = (m : Int) ∧ m < n := by
  have h1 := Int.emod_nonneg c (show (n : Int) ≠ 0 by omega)
  have h2 := Int.emod_lt_of_pos c (show (0 : Int) < (n : Int) by omega)
  exact ⟨(c % (n : Int)).toNat, by omega, by omega⟩
theorem getD_mem {ns : List Int} {j : Nat} (h : j < ns.length) : ns.getD j 0 ∈ ns := by
  rw [List.getD_eq_getElem?_getD, List.getElem?_eq_getElem h]
  exact List.getElem_mem h
theorem rowI_set {ns : List Int} {j : Nat} {x : Int} (h : RowI ns) (hx : -1000000 ≤ x ∧ x ≤ 1000000) : RowI (ns.set j x) := by
  obtain ⟨h1, h2, h3⟩ := h
  refine ⟨by rw [List.length_set]; exact h1, by rw [List.length_set]; exact h2, fun n hn => ?_⟩
  rcases List.mem_or_eq_of_mem_set hn with hm | hm
  · exact h3 n hm
  · rw [hm]
    exact hx
end TB

/-! ### plain mathematics: what lands apart goes round -/
namespace TB
open PySem PySem.Spec PyProof.Rows L2 Evl
theorem perm_of_subset {α : Type} [DecidableEq α] : ∀ {l m : List α}, l.Nodup → (∀ x ∈ l, x ∈ m) → m.length ≤ l.length → l.Perm m
  | [], m, _, _, hl => by
    have : m = [] := List.length_eq_zero_iff.mp (by simpa using hl)
    rw [this]
  | a :: l, m, hn, hs, hl => by
    obtain ⟨h1, h2⟩ := List.nodup_cons.mp hn
    have ha : a ∈ m := hs a List.mem_cons_self
    have pm := List.perm_cons_erase ha
    refine ((perm_of_subset h2 (fun x hx => ?_) ?_).cons a).trans pm.symm
    · have hne : x ≠ a := fun e => h1 (e ▸ hx)
      exact (List.mem_erase_of_ne hne).mpr (hs x (List.mem_cons_of_mem _ hx))
    · have := pm.length_eq
      rw [List.length_cons] at this hl
      omega
theorem land_nn {ns : List Int} (j : Nat) (h : 1 ≤ ns.length) : 0 ≤ land ns j := Int.emod_nonneg _ (by omega)
theorem land_lt {ns : List Int} (j : Nat) (h : 1 ≤ ns.length) : land ns j < (ns.length : Int) := Int.emod_lt_of_pos _ (by omega)
/-- all landings -/
def lands (ns : List Int) : List Int := (List.range ns.length).map (land ns)
theorem lands_len (ns : List Int) : (lands ns).length = ns.length := by simp [lands]
theorem lands_get {ns : List Int} {j : Nat} (h : j < ns.length) : (lands ns).getD j 0 = land ns j := by
  unfold lands
  rw [List.getD_eq_getElem?_getD, List.getElem?_map, List.getElem?_range h]
  rfl
theorem lands_nodup {ns : List Int} (h : clashOf ns = none) : (lands ns).Nodup := by
  rw [clash_none_iff] at h
  unfold lands
  rw [List.nodup_iff_pairwise_ne, List.pairwise_map, List.pairwise_iff_getElem]
  intro i j hi hj hij
  rw [List.getElem_range, List.getElem_range]
  rw [List.length_range] at hi hj
  exact h i j hij hj
theorem lands_perm {ns : List Int} (h1 : 1 ≤ ns.length) (h : clashOf ns = none) : (lands ns).Perm (natsI ns.length) :=
  perm_of_subset (lands_nodup h) (fun x hx => by
    obtain ⟨j, hj, rfl⟩ := List.mem_map.mp hx
    exact natsI_mem.mpr ⟨land_nn j h1, land_lt j h1⟩) (by rw [lands_len, natsI_len]; exact Nat.le_refl _)
theorem perm_sum {l m : List Int} (h : l.Perm m) : l.sum = m.sum := by
  induction h with
  | nil => rfl
  | cons a _ ih => rw [List.sum_cons, List.sum_cons, ih]
  | swap a b l => rw [List.sum_cons, List.sum_cons, List.sum_cons, List.sum_cons]; omega
  | trans _ _ h1 h2 => rw [h1, h2]
theorem getD_map_range (ns : List Int) : (List.range ns.length).map (fun j : Nat => ns.getD j 0) = ns := by
  apply List.ext_getElem
  · simp
  · intro i h1 h2
    rw [List.getElem_map, List.getElem_range, List.getD_eq_getElem?_getD, List.getElem?_eq_getElem h2]
    rfl
theorem sum_map_add {α : Type} (f g : α → Int) (l : List α) : (l.map fun x => f x + g x).sum = (l.map f).sum + (l.map g).sum := by
  induction l with
  | nil => rfl
  | cons a r ih =>
    rw [List.map_cons, List.map_cons, List.map_cons, List.sum_cons, List.sum_cons, List.sum_cons, ih]
    omega
theorem sum_map_mul {α : Type} (c : Int) (f : α → Int) (l : List α) : (l.map fun x => c * f x).sum = c * (l.map f).sum := by
  induction l with
  | nil => simp
  | cons a r ih =>
    rw [List.map_cons, List.map_cons, List.sum_cons, List.sum_cons, ih, Int.mul_add]
/-- the sum of a pattern's throws is its length times the times that its landings go round -/
theorem pat_sum {ns : List Int} (h1 : 1 ≤ ns.length) (h : clashOf ns = none) : ns.sum = (ns.length : Int) * ((List.range ns.length).map fun j : Nat => ((j : Int) + ns.getD j 0) / (ns.length : Int)).sum := by
  have e1 : ((List.range ns.length).map fun j : Nat => ((j : Int) + ns.getD j 0)).sum = ((List.range ns.length).map fun j : Nat => (ns.length : Int) * (((j : Int) + ns.getD j 0) / (ns.length : Int)) + land ns j).sum := by
    congr 1
    apply List.map_congr_left
    intro j _
    unfold land
    exact (Int.mul_ediv_add_emod _ _).symm
  rw [sum_map_add (fun j : Nat => (j : Int)) (fun j : Nat => ns.getD j 0), getD_map_range, sum_map_add (fun j : Nat => (ns.length : Int) * (((j : Int) + ns.getD j 0) / (ns.length : Int))) (land ns), sum_map_mul] at e1
  have e2 : ((List.range ns.length).map (land ns)).sum = ((List.range ns.length).map fun j : Nat => (j : Int)).sum := perm_sum (lands_perm h1 h)
  omega
theorem pat_dvd {ns : List Int} (h1 : 1 ≤ ns.length) (h : clashOf ns = none) : ns.sum / (ns.length : Int) * (ns.length : Int) = ns.sum := by
  have e := pat_sum h1 h
  rw [e, Int.mul_ediv_cancel_left _ (show (ns.length : Int) ≠ 0 by omega), Int.mul_comm]
end TB

/-! ### the laws' comparison of lists -/
namespace TB
open PySem PySem.Spec PyProof.Rows L2 Evl
def sp_same (K : PySem.W.Frag) : Sp := fun vs H Q E => ∃ (p r : Addr) (ns ms : List Int), vs = [.ref p, .ref r] ∧ H p = some (.lst (ns.map V.int)) ∧ SqL K H r (ms.map V.int) ∧ ms.length ≤ 1000 ∧ RetV (.bl (decide (ns = ms))) H Q
theorem sv_same {K : PySem.W.Frag} {H : Hp} {p r : Addr} {ns ms : List Int} (h1 : H p = some (.lst (ns.map V.int))) (h2 : SqL K H r (ms.map V.int)) (hl : ms.length ≤ 1000) : SpV (sp_same K) [.ref p, .ref r] H (.bl (decide (ns = ms))) := spv_of fun H1 e Q E k => ⟨p, r, ns, ms, rfl, e _ _ h1, ex_l e h2, hl, k⟩
theorem sc__law_same : FnScope ["_law_found", "_law_due", "_law_k"] ["_law_found", "_law_due"] (defScope s__law_same) := ⟨rfl, rfl, rfl, by decide +kernel, rfl, by decide +kernel, by decide +kernel⟩
theorem ok__law_same {P : Program} {w : World} {K : PySem.W.Frag} {mg : Str → Option Value} {base : Heap} (T : TXT K mg) : OK P w K mg base "_law_same" ["_law_found", "_law_due"] 1 (sp_same K) := by
  obtain ⟨fd, F⟩ := T.def_ 43
  refine ⟨_, fd, T.glo 20, F.kp, F.bindsN (fun _ _ _ _ _ _ us hl => match us, hl with | [_, _], _ => rfl), F.ok sc__law_same (fun vs H Q E h => ?_) (fun cdv A outer s H vs Q E hr h => ?_), F.bindsA (fun _ _ _ _ _ _ us hl => match us, hl with | [_, _], _ => rfl)⟩
  · first | (obtain ⟨rfl, _⟩ := h; rfl) | (obtain ⟨_, rfl, _⟩ := h; rfl) | (obtain ⟨_, _, rfl, _⟩ := h; rfl) | (obtain ⟨_, _, _, rfl, _⟩ := h; rfl) | (obtain ⟨_, _, _, _, rfl, _⟩ := h; rfl) | (obtain ⟨_, _, _, _, _, rfl, _⟩ := h; rfl) | (obtain ⟨_, _, _, _, _, _, rfl, _⟩ := h; rfl) | (obtain ⟨_, _, _, _, _, _, _, rfl, _⟩ := h; rfl) | (obtain ⟨_, _, _, _, _, _, _, _, rfl, _⟩ := h; rfl)
  · replace F : FunD K "_law_same" "_law_same" (defArgs s__law_same) (defBody s__law_same) (defScope s__law_same) [] [] (He.ga K "_law_same") fd := F
    refine ⟨_, (pss_cons (ps_if (PW.pt (pw_or (pt_not (pt_val (pe_callB (id := "isinstance") (k_isi K) (by rfl) (T.free 42) (by decide +kernel) (pa_cons (pv 0) (pa_cons (pe_ty (T := "list") (T.free 44) (by decide +kernel)) pa_nil))))) (pw_or1 (pt_cmpR op_ne (pe_callB (id := "len") (k_len K) (by rfl) (T.free 43) (by decide +kernel) (pa_cons (pv 0) pa_nil)) (pe_callB (id := "len") (k_len K) (by rfl) (T.free 43) (by decide +kernel) (pa_cons (pv 1) pa_nil)) (nomark _)))))
        (pss_one (ps_ret pe_bl))
        pss_nil)
      (pss_cons (ps_for (passes_of rfl) rfl (pi_range1 (by rfl) (T.free 45) (pa_cons (pe_callB (id := "len") (k_len K) (by rfl) (T.free 43) (by decide +kernel) (pa_cons (pv 1) pa_nil)) pa_nil)) (pg_name (i := 2) sc__law_same.nd rfl (Or.inl rfl))
        (pss_one (ps_if (PW.pt (pw_or (pt_not (pt_val (pe_callB (id := "isinstance") (k_isi K) (by rfl) (T.free 42) (by decide +kernel) (pa_cons (pe_ix (k_ixL K) (pv 0) (pv 2) (fun _ _ => rfl)) (pa_cons (pe_ty (T := "int") (T.free 41) (by decide +kernel)) pa_nil))))) (pw_or (pt_val (pe_callB (id := "isinstance") (k_isi K) (by rfl) (T.free 42) (by decide +kernel) (pa_cons (pe_ix (k_ixL K) (pv 0) (pv 2) (fun _ _ => rfl)) (pa_cons (pe_ty (T := "bool") (T.free 40) (by decide +kernel)) pa_nil)))) (pw_or1 (pt_cmpR op_ne (pe_ix (k_ixL K) (pv 0) (pv 2) (fun _ _ => rfl)) (pe_ix (k_ixL K) (pv 1) (pv 2) (fun _ _ => rfl)) (nomark _))))))
        (pss_one (ps_ret pe_bl))
        pss_nil)))
      (pss_one (ps_ret pe_bl)))), ?_⟩
    obtain ⟨p, r, ns, ms, rfl, hp, hr, hl, q⟩ := h
    dsimp only [cxOf, L2.start, List.map_cons, List.map_nil, List.length_cons, List.length_nil, Nat.reduceAdd, Nat.reduceSub, List.replicate_succ, List.replicate_zero, List.cons_append, List.nil_append, Nat.zero_add, List.reduceReplicate, List.map]
    have sp : SqL K H p (ns.map V.int) := sq_of hp
    refine q_when (b := !decide (ns.length = ms.length)) ?_ (fun hb H1 e1 => ?_) (fun hb H1 e1 => ?_)
    · apply et_is
      · (repeat' (first | with_reducible exact ev_c | ((with_reducible show Ev (tVar _) _ _ _); exact ev_var rfl) | with_reducible exact ea_nil | with_reducible exact eo_none | with_reducible refine' ea_cons ?_ ?_ | with_reducible refine' eo_some ?_ | with_reducible refine' ev_and2 ?_ ?_ | with_reducible refine' ev_or2 ?_ ?_ | with_reducible refine' ev_notV ?_ | with_reducible exact ru_I | with_reducible refine' ev_un ?_ ?_ | with_reducible exact rv_I0 | with_reducible exact rv_isN | with_reducible exact rv_notN | with_reducible refine' rv_I ?_ | with_reducible refine' rv_eq ?_ | with_reducible refine' rv_ne ?_ | with_reducible refine' ev_op ?_ ?_ ?_ | with_reducible refine' ev_chain2 ?_ ?_ ?_ ?_ ?_ | with_reducible refine' et_B ?_ | with_reducible refine' et_test ?_ | with_reducible refine' et_and2 ?_ ?_ | with_reducible refine' et_or2 ?_ ?_ | with_reducible refine' et_not ?_ | with_reducible refine' ev_call ?_ ?_ | with_reducible refine' ev_callS ?_ ?_ | with_reducible refine' ev_cb ?_ ?_ | with_reducible exact isi_bool (by assumption) | with_reducible exact isi_int (by assumption) | with_reducible exact isi_list (by assumption) | with_reducible exact rc_len (by assumption) | with_reducible exact rc_sum (by assumption) | with_reducible exact rc_abs | with_reducible exact isi_listL (by assumption) | with_reducible exact isi_intI | with_reducible exact isi_boolI | with_reducible exact rc_lenT (by assumption) | with_reducible exact isi_tup (by assumption) | with_reducible exact rv_eqL (by assumption) (by assumption) | with_reducible exact rv_neL (by assumption) (by assumption) | with_reducible exact rv_neT (by assumption) (by assumption) | with_reducible exact rv_ixL (by assumption) (by assumption) | with_reducible exact rv_ixT (by assumption) (by assumption) | with_reducible refine' ev_din ?_ ?_ (by assumption) | with_reducible refine' ev_dnotin ?_ ?_ (by assumption) | with_reducible refine' ev_dget ?_ ?_ (by assumption) (by assumption) | ((with_reducible show SpV _ _ _ _); assumption) | ((with_reducible show RV _ _ _ _ _); assumption) | ((with_reducible show RC _ _ _ _); assumption) | ((with_reducible show CDiv _ _); exact ⟨by omega, by omega⟩) | ((with_reducible show CMul _ _); first | exact .inl ⟨by omega, by omega⟩ | exact .inr ⟨by omega, by omega⟩) | ((with_reducible show CPow _ _); exact ⟨by omega, by omega, by first | decide | assumption | omega⟩) | ((with_reducible show (0 : Int) < _); omega) | ((with_reducible show (0 : Int) ≤ _); omega) | ((with_reducible show scal _ _ = true); rfl)))
      · rw [List.length_map, List.length_map, dec_int]
        show (!true || !((ns.length : Int) == (ms.length : Int))) = _
        rw [Bool.eq_iff_iff]
        simp
        omega
    · have z : decide (ns = ms) = false := by
        rw [Bool.not_eq_true', decide_eq_false_iff_not] at hb
        exact decide_eq_false fun e => hb (by rw [e])
      rw [z] at q
      exact s_ret (v := .bl false) (by (repeat' (first | with_reducible exact ev_c | ((with_reducible show Ev (tVar _) _ _ _); exact ev_var rfl) | with_reducible exact ea_nil | with_reducible exact eo_none | with_reducible refine' ea_cons ?_ ?_ | with_reducible refine' eo_some ?_ | with_reducible refine' ev_and2 ?_ ?_ | with_reducible refine' ev_or2 ?_ ?_ | with_reducible refine' ev_notV ?_ | with_reducible exact ru_I | with_reducible refine' ev_un ?_ ?_ | with_reducible exact rv_I0 | with_reducible exact rv_isN | with_reducible exact rv_notN | with_reducible refine' rv_I ?_ | with_reducible refine' rv_eq ?_ | with_reducible refine' rv_ne ?_ | with_reducible refine' ev_op ?_ ?_ ?_ | with_reducible refine' ev_chain2 ?_ ?_ ?_ ?_ ?_ | with_reducible refine' et_B ?_ | with_reducible refine' et_test ?_ | with_reducible refine' et_and2 ?_ ?_ | with_reducible refine' et_or2 ?_ ?_ | with_reducible refine' et_not ?_ | with_reducible refine' ev_call ?_ ?_ | with_reducible refine' ev_callS ?_ ?_ | with_reducible refine' ev_cb ?_ ?_ | with_reducible exact isi_bool (by assumption) | with_reducible exact isi_int (by assumption) | with_reducible exact isi_list (by assumption) | with_reducible exact rc_len (by assumption) | with_reducible exact rc_sum (by assumption) | with_reducible exact rc_abs | with_reducible exact isi_listL (by assumption) | with_reducible exact isi_intI | with_reducible exact isi_boolI | with_reducible exact rc_lenT (by assumption) | with_reducible exact isi_tup (by assumption) | with_reducible exact rv_eqL (by assumption) (by assumption) | with_reducible exact rv_neL (by assumption) (by assumption) | with_reducible exact rv_neT (by assumption) (by assumption) | with_reducible exact rv_ixL (by assumption) (by assumption) | with_reducible exact rv_ixT (by assumption) (by assumption) | with_reducible refine' ev_din ?_ ?_ (by assumption) | with_reducible refine' ev_dnotin ?_ ?_ (by assumption) | with_reducible refine' ev_dget ?_ ?_ (by assumption) (by assumption) | ((with_reducible show SpV _ _ _ _); assumption) | ((with_reducible show RV _ _ _ _ _); assumption) | ((with_reducible show RC _ _ _ _); assumption) | ((with_reducible show CDiv _ _); exact ⟨by omega, by omega⟩) | ((with_reducible show CMul _ _); first | exact .inl ⟨by omega, by omega⟩ | exact .inr ⟨by omega, by omega⟩) | ((with_reducible show CPow _ _); exact ⟨by omega, by omega, by first | decide | assumption | omega⟩) | ((with_reducible show (0 : Int) < _); omega) | ((with_reducible show (0 : Int) ≤ _); omega) | ((with_reducible show scal _ _ = true); rfl)))) fun H2 e2 => q H2 (e1.trans e2)
    · have hlen : ns.length = ms.length := by
        rw [Bool.not_eq_false', decide_eq_true_iff] at hb
        exact hb
      have hr1 := ex_l e1 hr
      refine q_forR1 (n := (ms.length : Int)) (by rw [← List.length_map (as := ms) (f := V.int)]; (repeat' (first | with_reducible exact ev_c | ((with_reducible show Ev (tVar _) _ _ _); exact ev_var rfl) | with_reducible exact ea_nil | with_reducible exact eo_none | with_reducible refine' ea_cons ?_ ?_ | with_reducible refine' eo_some ?_ | with_reducible refine' ev_and2 ?_ ?_ | with_reducible refine' ev_or2 ?_ ?_ | with_reducible refine' ev_notV ?_ | with_reducible exact ru_I | with_reducible refine' ev_un ?_ ?_ | with_reducible exact rv_I0 | with_reducible exact rv_isN | with_reducible exact rv_notN | with_reducible refine' rv_I ?_ | with_reducible refine' rv_eq ?_ | with_reducible refine' rv_ne ?_ | with_reducible refine' ev_op ?_ ?_ ?_ | with_reducible refine' ev_chain2 ?_ ?_ ?_ ?_ ?_ | with_reducible refine' et_B ?_ | with_reducible refine' et_test ?_ | with_reducible refine' et_and2 ?_ ?_ | with_reducible refine' et_or2 ?_ ?_ | with_reducible refine' et_not ?_ | with_reducible refine' ev_call ?_ ?_ | with_reducible refine' ev_callS ?_ ?_ | with_reducible refine' ev_cb ?_ ?_ | with_reducible exact isi_bool (by assumption) | with_reducible exact isi_int (by assumption) | with_reducible exact isi_list (by assumption) | with_reducible exact rc_len (by assumption) | with_reducible exact rc_sum (by assumption) | with_reducible exact rc_abs | with_reducible exact isi_listL (by assumption) | with_reducible exact isi_intI | with_reducible exact isi_boolI | with_reducible exact rc_lenT (by assumption) | with_reducible exact isi_tup (by assumption) | with_reducible exact rv_eqL (by assumption) (by assumption) | with_reducible exact rv_neL (by assumption) (by assumption) | with_reducible exact rv_neT (by assumption) (by assumption) | with_reducible exact rv_ixL (by assumption) (by assumption) | with_reducible exact rv_ixT (by assumption) (by assumption) | with_reducible refine' ev_din ?_ ?_ (by assumption) | with_reducible refine' ev_dnotin ?_ ?_ (by assumption) | with_reducible refine' ev_dget ?_ ?_ (by assumption) (by assumption) | ((with_reducible show SpV _ _ _ _); assumption) | ((with_reducible show RV _ _ _ _ _); assumption) | ((with_reducible show RC _ _ _ _); assumption) | ((with_reducible show CDiv _ _); exact ⟨by omega, by omega⟩) | ((with_reducible show CMul _ _); first | exact .inl ⟨by omega, by omega⟩ | exact .inr ⟨by omega, by omega⟩) | ((with_reducible show CPow _ _); exact ⟨by omega, by omega, by first | decide | assumption | omega⟩) | ((with_reducible show (0 : Int) < _); omega) | ((with_reducible show (0 : Int) ≤ _); omega) | ((with_reducible show scal _ _ = true); rfl)))) (by omega) (fun i σ' H' => ∃ y2, σ' = [some (V.ref p), some (V.ref r), y2] ∧ Ex H H' ∧ ns.take i = ms.take i) (fun H2 e2 => ⟨_, rfl, e1.trans e2, rfl⟩) ?_ ?_
      · rintro i σ' H' hi ⟨y2, rfl, e2, ht⟩
        have hi' : i < ms.length := by omega
        have sp2 := ex_l e2 sp
        have sr2 := ex_l e2 hr
        have gn := atI_int (ns := ns) (j := i) (by omega)
        have gm := atI_int (ns := ms) (j := i) hi'
        have gn2 : ns[i]? = some (ns.getD i 0) := by rw [List.getD_eq_getElem?_getD, List.getElem?_eq_getElem (by omega)]; rfl
        have gm2 : ms[i]? = some (ms.getD i 0) := by rw [List.getD_eq_getElem?_getD, List.getElem?_eq_getElem hi']; rfl
        refine s_when (b := !decide (ns.getD i 0 = ms.getD i 0)) ?_ (fun hb H3 e3 => ?_) (fun hb H3 e3 => ?_)
        · apply et_is
          · (repeat' (first | with_reducible exact ev_c | ((with_reducible show Ev (tVar _) _ _ _); exact ev_var rfl) | with_reducible exact ea_nil | with_reducible exact eo_none | with_reducible refine' ea_cons ?_ ?_ | with_reducible refine' eo_some ?_ | with_reducible refine' ev_and2 ?_ ?_ | with_reducible refine' ev_or2 ?_ ?_ | with_reducible refine' ev_notV ?_ | with_reducible exact ru_I | with_reducible refine' ev_un ?_ ?_ | with_reducible exact rv_I0 | with_reducible exact rv_isN | with_reducible exact rv_notN | with_reducible refine' rv_I ?_ | with_reducible refine' rv_eq ?_ | with_reducible refine' rv_ne ?_ | with_reducible refine' ev_op ?_ ?_ ?_ | with_reducible refine' ev_chain2 ?_ ?_ ?_ ?_ ?_ | with_reducible refine' et_B ?_ | with_reducible refine' et_test ?_ | with_reducible refine' et_and2 ?_ ?_ | with_reducible refine' et_or2 ?_ ?_ | with_reducible refine' et_not ?_ | with_reducible refine' ev_call ?_ ?_ | with_reducible refine' ev_callS ?_ ?_ | with_reducible refine' ev_cb ?_ ?_ | with_reducible exact isi_bool (by assumption) | with_reducible exact isi_int (by assumption) | with_reducible exact isi_list (by assumption) | with_reducible exact rc_len (by assumption) | with_reducible exact rc_sum (by assumption) | with_reducible exact rc_abs | with_reducible exact isi_listL (by assumption) | with_reducible exact isi_intI | with_reducible exact isi_boolI | with_reducible exact rc_lenT (by assumption) | with_reducible exact isi_tup (by assumption) | with_reducible exact rv_eqL (by assumption) (by assumption) | with_reducible exact rv_neL (by assumption) (by assumption) | with_reducible exact rv_neT (by assumption) (by assumption) | with_reducible exact rv_ixL (by assumption) (by assumption) | with_reducible exact rv_ixT (by assumption) (by assumption) | with_reducible refine' ev_din ?_ ?_ (by assumption) | with_reducible refine' ev_dnotin ?_ ?_ (by assumption) | with_reducible refine' ev_dget ?_ ?_ (by assumption) (by assumption) | ((with_reducible show SpV _ _ _ _); assumption) | ((with_reducible show RV _ _ _ _ _); assumption) | ((with_reducible show RC _ _ _ _); assumption) | ((with_reducible show CDiv _ _); exact ⟨by omega, by omega⟩) | ((with_reducible show CMul _ _); first | exact .inl ⟨by omega, by omega⟩ | exact .inr ⟨by omega, by omega⟩) | ((with_reducible show CPow _ _); exact ⟨by omega, by omega, by first | decide | assumption | omega⟩) | ((with_reducible show (0 : Int) < _); omega) | ((with_reducible show (0 : Int) ≤ _); omega) | ((with_reducible show scal _ _ = true); rfl)))
          · rw [dec_int]
            show (!true || (false || !(ns.getD i 0 == ms.getD i 0))) = _
            rw [Bool.eq_iff_iff]
            simp
        · have z : decide (ns = ms) = false := by
            rw [Bool.not_eq_true', decide_eq_false_iff_not] at hb
            exact decide_eq_false fun e => hb (by rw [e])
          rw [z] at q
          exact s_ret (v := .bl false) (by (repeat' (first | with_reducible exact ev_c | ((with_reducible show Ev (tVar _) _ _ _); exact ev_var rfl) | with_reducible exact ea_nil | with_reducible exact eo_none | with_reducible refine' ea_cons ?_ ?_ | with_reducible refine' eo_some ?_ | with_reducible refine' ev_and2 ?_ ?_ | with_reducible refine' ev_or2 ?_ ?_ | with_reducible refine' ev_notV ?_ | with_reducible exact ru_I | with_reducible refine' ev_un ?_ ?_ | with_reducible exact rv_I0 | with_reducible exact rv_isN | with_reducible exact rv_notN | with_reducible refine' rv_I ?_ | with_reducible refine' rv_eq ?_ | with_reducible refine' rv_ne ?_ | with_reducible refine' ev_op ?_ ?_ ?_ | with_reducible refine' ev_chain2 ?_ ?_ ?_ ?_ ?_ | with_reducible refine' et_B ?_ | with_reducible refine' et_test ?_ | with_reducible refine' et_and2 ?_ ?_ | with_reducible refine' et_or2 ?_ ?_ | with_reducible refine' et_not ?_ | with_reducible refine' ev_call ?_ ?_ | with_reducible refine' ev_callS ?_ ?_ | with_reducible refine' ev_cb ?_ ?_ | with_reducible exact isi_bool (by assumption) | with_reducible exact isi_int (by assumption) | with_reducible exact isi_list (by assumption) | with_reducible exact rc_len (by assumption) | with_reducible exact rc_sum (by assumption) | with_reducible exact rc_abs | with_reducible exact isi_listL (by assumption) | with_reducible exact isi_intI | with_reducible exact isi_boolI | with_reducible exact rc_lenT (by assumption) | with_reducible exact isi_tup (by assumption) | with_reducible exact rv_eqL (by assumption) (by assumption) | with_reducible exact rv_neL (by assumption) (by assumption) | with_reducible exact rv_neT (by assumption) (by assumption) | with_reducible exact rv_ixL (by assumption) (by assumption) | with_reducible exact rv_ixT (by assumption) (by assumption) | with_reducible refine' ev_din ?_ ?_ (by assumption) | with_reducible refine' ev_dnotin ?_ ?_ (by assumption) | with_reducible refine' ev_dget ?_ ?_ (by assumption) (by assumption) | ((with_reducible show SpV _ _ _ _); assumption) | ((with_reducible show RV _ _ _ _ _); assumption) | ((with_reducible show RC _ _ _ _); assumption) | ((with_reducible show CDiv _ _); exact ⟨by omega, by omega⟩) | ((with_reducible show CMul _ _); first | exact .inl ⟨by omega, by omega⟩ | exact .inr ⟨by omega, by omega⟩) | ((with_reducible show CPow _ _); exact ⟨by omega, by omega, by first | decide | assumption | omega⟩) | ((with_reducible show (0 : Int) < _); omega) | ((with_reducible show (0 : Int) ≤ _); omega) | ((with_reducible show scal _ _ = true); rfl)))) fun H4 e4 => q H4 ((e2.trans e3).trans e4)
        · rw [Bool.not_eq_false', decide_eq_true_iff] at hb
          refine ⟨_, rfl, e2.trans e3, ?_⟩
          rw [List.take_add_one, List.take_add_one, ht, gn2, gm2, hb]
      · rintro σ' H' ⟨y2, rfl, e2, ht⟩
        have ht : ns = ms := by
          rw [show (ms.length : Int).toNat = ms.length by omega, List.take_length, ← hlen, List.take_length] at ht
          exact ht
        rw [decide_eq_true ht] at q
        exact s_ret (v := .bl true) (by (repeat' (first | with_reducible exact ev_c | ((with_reducible show Ev (tVar _) _ _ _); exact ev_var rfl) | with_reducible exact ea_nil | with_reducible exact eo_none | with_reducible refine' ea_cons ?_ ?_ | with_reducible refine' eo_some ?_ | with_reducible refine' ev_and2 ?_ ?_ | with_reducible refine' ev_or2 ?_ ?_ | with_reducible refine' ev_notV ?_ | with_reducible exact ru_I | with_reducible refine' ev_un ?_ ?_ | with_reducible exact rv_I0 | with_reducible exact rv_isN | with_reducible exact rv_notN | with_reducible refine' rv_I ?_ | with_reducible refine' rv_eq ?_ | with_reducible refine' rv_ne ?_ | with_reducible refine' ev_op ?_ ?_ ?_ | with_reducible refine' ev_chain2 ?_ ?_ ?_ ?_ ?_ | with_reducible refine' et_B ?_ | with_reducible refine' et_test ?_ | with_reducible refine' et_and2 ?_ ?_ | with_reducible refine' et_or2 ?_ ?_ | with_reducible refine' et_not ?_ | with_reducible refine' ev_call ?_ ?_ | with_reducible refine' ev_callS ?_ ?_ | with_reducible refine' ev_cb ?_ ?_ | with_reducible exact isi_bool (by assumption) | with_reducible exact isi_int (by assumption) | with_reducible exact isi_list (by assumption) | with_reducible exact rc_len (by assumption) | with_reducible exact rc_sum (by assumption) | with_reducible exact rc_abs | with_reducible exact isi_listL (by assumption) | with_reducible exact isi_intI | with_reducible exact isi_boolI | with_reducible exact rc_lenT (by assumption) | with_reducible exact isi_tup (by assumption) | with_reducible exact rv_eqL (by assumption) (by assumption) | with_reducible exact rv_neL (by assumption) (by assumption) | with_reducible exact rv_neT (by assumption) (by assumption) | with_reducible exact rv_ixL (by assumption) (by assumption) | with_reducible exact rv_ixT (by assumption) (by assumption) | with_reducible refine' ev_din ?_ ?_ (by assumption) | with_reducible refine' ev_dnotin ?_ ?_ (by assumption) | with_reducible refine' ev_dget ?_ ?_ (by assumption) (by assumption) | ((with_reducible show SpV _ _ _ _); assumption) | ((with_reducible show RV _ _ _ _ _); assumption) | ((with_reducible show RC _ _ _ _); assumption) | ((with_reducible show CDiv _ _); exact ⟨by omega, by omega⟩) | ((with_reducible show CMul _ _); first | exact .inl ⟨by omega, by omega⟩ | exact .inr ⟨by omega, by omega⟩) | ((with_reducible show CPow _ _); exact ⟨by omega, by omega, by first | decide | assumption | omega⟩) | ((with_reducible show (0 : Int) < _); omega) | ((with_reducible show (0 : Int) ≤ _); omega) | ((with_reducible show scal _ _ = true); rfl)))) fun H4 e4 => q H4 (e2.trans e4)

def sp_number : Sp := fun vs H Q E => ∃ c, vs = [.int c] ∧ ∀ x, inM (.int x) = true → RetV (.int x) H Q
/-- two rows of whole numbers that agree everywhere -/
theorem ext_getD {l m : List Int} (h : l.length = m.length) (hg : ∀ i, i < l.length → l.getD i 0 = m.getD i 0) : l = m := by
  apply List.ext_getElem h
  intro i h1 h2
  have z := hg i h1
  rw [List.getD_eq_getElem?_getD, List.getElem?_eq_getElem h1, List.getD_eq_getElem?_getD, List.getElem?_eq_getElem h2] at z
  exact z
theorem getD_map {α : Type} (f : α → Int) (l : List α) (d : α) {i : Nat} (h : i < l.length) : (l.map f).getD i 0 = f (l.getD i d) := by
  rw [List.getD_eq_getElem?_getD, List.getElem?_map, List.getElem?_eq_getElem h, List.getD_eq_getElem?_getD, List.getElem?_eq_getElem h]
  rfl
theorem getD_rng (f : Nat → Int) {n i : Nat} (h : i < n) : ((List.range n).map f).getD i 0 = f i := by
  rw [List.getD_eq_getElem?_getD, List.getElem?_map, List.getElem?_range h]
  rfl
end TB

/-! ### plain mathematics: patterns after one another, back, mirrored, gaps -/
namespace TB
open PySem PySem.Spec PyProof.Rows L2 Evl
/-- a number between 0 and n by what it leaves -/
theorem emod_unique {n x y : Int} (h0 : 0 ≤ x) (h1 : x < n) (h2 : 0 ≤ y) (h3 : y < n) (h : x % n = y % n) : x = y := by
  rw [Int.emod_eq_of_lt h0 h1, Int.emod_eq_of_lt h2 h3] at h
  exact h
theorem land_inj {ns : List Int} (hc : clashOf ns = none) {i j : Nat} (hi : i < ns.length) (hj : j < ns.length) (e : land ns i = land ns j) : i = j := by
  rw [clash_none_iff] at hc
  rcases Nat.lt_trichotomy i j with h | h | h
  · exact absurd e (hc i j h hj)
  · exact h
  · exact absurd e.symm (hc j i h hi)
theorem clash_none_of {ns : List Int} (h : ∀ i j, i < ns.length → j < ns.length → land ns i = land ns j → i = j) : clashOf ns = none := by
  rw [clash_none_iff]
  intro i j hij hj e
  have := h i j (by omega) hj e
  omega
/-- where a beat lands, as a beat of the row -/
def ld (ns : List Int) (b : Nat) : Nat := (land ns b).toNat
theorem ld_cast {ns : List Int} (b : Nat) (h1 : 1 ≤ ns.length) : ((ld ns b : Nat) : Int) = land ns b := by
  have := land_nn (ns := ns) b h1
  unfold ld
  omega
theorem ld_lt {ns : List Int} (b : Nat) (h1 : 1 ≤ ns.length) : ld ns b < ns.length := by
  have := land_lt (ns := ns) b h1
  have := ld_cast (ns := ns) b h1
  omega
theorem ld_inj {ns : List Int} (h1 : 1 ≤ ns.length) (hc : clashOf ns = none) {i j : Nat} (hi : i < ns.length) (hj : j < ns.length) (e : ld ns i = ld ns j) : i = j := by
  refine land_inj hc hi hj ?_
  rw [← ld_cast i h1, ← ld_cast j h1, e]
/-- an injection of 0 .. n - 1 into itself is onto -/
theorem inj_perm {n : Nat} {f : Nat → Nat} (hb : ∀ i, i < n → f i < n) (hi : ∀ i j, i < n → j < n → f i = f j → i = j) : ((List.range n).map f).Perm (List.range n) := by
  refine perm_of_subset ?_ (fun x hx => ?_) (by simp)
  · rw [List.nodup_iff_pairwise_ne, List.pairwise_map, List.pairwise_iff_getElem]
    intro i j hi' hj' hij e
    rw [List.getElem_range, List.getElem_range] at e
    rw [List.length_range] at hi' hj'
    have := hi i j hi' hj' e
    omega
  · obtain ⟨i, h, rfl⟩ := List.mem_map.mp hx
    exact List.mem_range.mpr (hb i (List.mem_range.mp h))
theorem inj_onto {n : Nat} {f : Nat → Nat} (hb : ∀ i, i < n → f i < n) (hi : ∀ i j, i < n → j < n → f i = f j → i = j) {l : Nat} (hl : l < n) : ∃ b, b < n ∧ f b = l := by
  have h := (inj_perm hb hi).mem_iff.mpr (List.mem_range.mpr hl)
  obtain ⟨b, hb2, e⟩ := List.mem_map.mp h
  exact ⟨b, List.mem_range.mp hb2, e⟩
theorem sum_reindex {n : Nat} {f : Nat → Nat} (hb : ∀ i, i < n → f i < n) (hi : ∀ i j, i < n → j < n → f i = f j → i = j) (g : Nat → Int) : ((List.range n).map fun b => g (f b)).sum = ((List.range n).map g).sum := by
  have h := perm_sum ((inj_perm hb hi).map g)
  rw [List.map_map] at h
  exact h
theorem set_fold_get (f : Nat → Nat) (g : Nat → Int) (acc : List Int) : ∀ (m : Nat), (∀ i j, i < m → j < m → f i = f j → i = j) → (∀ i, i < m → f i < acc.length) → ∀ b, b < m → ((List.range m).foldl (fun (acc : List Int) (b : Nat) => acc.set (f b) (g b)) acc).getD (f b) 0 = g b
  | 0, _, _, b, hb => by omega
  | m + 1, hi, hl, b, hb => by
    rw [List.range_succ, List.foldl_append]
    show (((List.range m).foldl (fun (acc : List Int) (b : Nat) => acc.set (f b) (g b)) acc).set (f m) (g m)).getD (f b) 0 = g b
    rw [List.getD_eq_getElem?_getD, List.getElem?_set]
    by_cases e : f m = f b
    · have hmb := hi m b (by omega) hb e
      subst hmb
      rw [if_pos rfl, if_pos (by rw [set_fold_len]; exact hl m (by omega))]
      rfl
    · rw [if_neg e, ← List.getD_eq_getElem?_getD]
      refine set_fold_get f g acc m (fun i j h1 h2 => hi i j (by omega) (by omega)) (fun i h => hl i (by omega)) b ?_
      rcases Nat.lt_or_ge b m with h | h
      · exact h
      · have : b = m := by omega
        rw [this] at e
        exact absurd rfl e
/-! after -/
theorem afterI_len (ns ms : List Int) : (afterI ns ms).length = ns.length := by simp [afterI]
theorem afterI_get {ns : List Int} (ms : List Int) {b : Nat} (hb : b < ns.length) : (afterI ns ms).getD b 0 = ns.getD b 0 + ms.getD (ld ns b) 0 := getD_rng _ hb
theorem after_land {ns ms : List Int} (h1 : 1 ≤ ns.length) (hl : ms.length = ns.length) {b : Nat} (hb : b < ns.length) : land (afterI ns ms) b = land ms (ld ns b) := by
  unfold land
  rw [afterI_len, afterI_get ms hb, hl, ld_cast b h1]
  unfold land
  rw [show (b : Int) + (ns.getD b 0 + ms.getD (ld ns b) 0) = ((b : Int) + ns.getD b 0) + ms.getD (ld ns b) 0 by omega, Int.emod_add_emod]
theorem after_clash {ns ms : List Int} (h1 : 1 ≤ ns.length) (hl : ms.length = ns.length) (hc : clashOf ns = none) (hc2 : clashOf ms = none) : clashOf (afterI ns ms) = none := by
  refine clash_none_of fun i j hi hj e => ?_
  rw [afterI_len] at hi hj
  rw [after_land h1 hl hi, after_land h1 hl hj] at e
  exact ld_inj h1 hc hi hj (land_inj hc2 (by rw [hl]; exact ld_lt i h1) (by rw [hl]; exact ld_lt j h1) e)
theorem after_sum {ns ms : List Int} (h1 : 1 ≤ ns.length) (hl : ms.length = ns.length) (hc : clashOf ns = none) : (afterI ns ms).sum = ns.sum + ms.sum := by
  unfold afterI
  rw [sum_map_add (fun b : Nat => ns.getD b 0) (fun b : Nat => ms.getD (land ns b).toNat 0), getD_map_range]
  have z := sum_reindex (n := ns.length) (f := ld ns) (fun i _ => ld_lt i h1) (fun i j hi hj => ld_inj h1 hc hi hj) (fun l => ms.getD l 0)
  unfold ld at z
  rw [z, ← hl, getD_map_range]
theorem sum_div_add {n a b : Int} (hn : 0 < n) (ha : a / n * n = a) : (a + b) / n = a / n + b / n := by
  have e : a = n * (a / n) := by rw [Int.mul_comm]; exact ha.symm
  rw [show a + b = b + n * (a / n) by omega, Int.add_mul_ediv_left _ _ (by omega)]
  omega
/-! back -/
theorem backI_len (ns : List Int) : (backI ns).length = ns.length := by
  unfold backI
  rw [set_fold_len (fun b => (land ns b).toNat) (fun b => -(ns.getD b 0)), List.length_replicate]
theorem backI_get {ns : List Int} (h1 : 1 ≤ ns.length) (hc : clashOf ns = none) {b : Nat} (hb : b < ns.length) : (backI ns).getD (ld ns b) 0 = -(ns.getD b 0) :=
  set_fold_get (ld ns) (fun b => -(ns.getD b 0)) (List.replicate ns.length 0) ns.length (fun i j hi hj => ld_inj h1 hc hi hj) (fun i _ => by rw [List.length_replicate]; exact ld_lt i h1) b hb
theorem ld_onto {ns : List Int} (h1 : 1 ≤ ns.length) (hc : clashOf ns = none) {l : Nat} (hl : l < ns.length) : ∃ b, b < ns.length ∧ ld ns b = l :=
  inj_onto (fun i _ => ld_lt i h1) (fun _ _ hi hj => ld_inj h1 hc hi hj) hl
theorem back_land {ns : List Int} (h1 : 1 ≤ ns.length) (hc : clashOf ns = none) {b : Nat} (hb : b < ns.length) : land (backI ns) (ld ns b) = (b : Int) := by
  have e0 : land (backI ns) (ld ns b) = (((ld ns b : Nat) : Int) + (backI ns).getD (ld ns b) 0) % (ns.length : Int) := by
    unfold land
    rw [backI_len]
  rw [e0, backI_get h1 hc hb, ld_cast b h1]
  unfold land
  rw [Int.emod_add_emod, show (b : Int) + ns.getD b 0 + -ns.getD b 0 = (b : Int) by omega]
  exact Int.emod_eq_of_lt (by omega) (by omega)
theorem back_clash {ns : List Int} (h1 : 1 ≤ ns.length) (hc : clashOf ns = none) : clashOf (backI ns) = none := by
  refine clash_none_of fun i j hi hj e => ?_
  rw [backI_len] at hi hj
  obtain ⟨b, hb, rfl⟩ := ld_onto h1 hc hi
  obtain ⟨c, hcc, rfl⟩ := ld_onto h1 hc hj
  rw [back_land h1 hc hb, back_land h1 hc hcc] at e
  have : b = c := by omega
  rw [this]
theorem back_ld {ns : List Int} (h1 : 1 ≤ ns.length) (hc : clashOf ns = none) {b : Nat} (hb : b < ns.length) : ld (backI ns) (ld ns b) = b := by
  have := back_land h1 hc hb
  unfold ld at this ⊢
  rw [this]
  omega
theorem mem_getD {ns : List Int} {x : Int} (h : x ∈ ns) : ∃ i, i < ns.length ∧ ns.getD i 0 = x := by
  obtain ⟨i, hi, e⟩ := List.mem_iff_getElem.mp h
  exact ⟨i, hi, by rw [List.getD_eq_getElem?_getD, List.getElem?_eq_getElem hi]; exact e⟩
theorem back_row {ns : List Int} (hr : RowI ns) (hc : clashOf ns = none) : RowI (backI ns) := by
  obtain ⟨h1, h2, h3⟩ := hr
  refine ⟨by rw [backI_len]; exact h1, by rw [backI_len]; exact h2, fun x hx => ?_⟩
  obtain ⟨i, hi, rfl⟩ := mem_getD hx
  rw [backI_len] at hi
  obtain ⟨b, hb, rfl⟩ := ld_onto h1 hc hi
  rw [backI_get h1 hc hb]
  have := h3 _ (getD_mem hb)
  omega
theorem rep_getD (n i : Nat) : (List.replicate n (0 : Int)).getD i 0 = 0 := by
  rw [List.getD_eq_getElem?_getD, List.getElem?_replicate]
  by_cases h : i < n
  · rw [if_pos h]; rfl
  · rw [if_neg h]; rfl
theorem after_back {ns : List Int} (h1 : 1 ≤ ns.length) (hc : clashOf ns = none) : afterI ns (backI ns) = List.replicate ns.length 0 := by
  apply ext_getD (by rw [afterI_len, List.length_replicate])
  intro i hi
  rw [afterI_len] at hi
  rw [afterI_get _ hi, backI_get h1 hc hi, rep_getD]
  omega
theorem back_after {ns : List Int} (h1 : 1 ≤ ns.length) (hc : clashOf ns = none) : afterI (backI ns) ns = List.replicate ns.length 0 := by
  apply ext_getD (by rw [afterI_len, List.length_replicate, backI_len])
  intro i hi
  rw [afterI_len] at hi
  rw [afterI_get _ hi]
  rw [backI_len] at hi
  obtain ⟨b, hb, rfl⟩ := ld_onto h1 hc hi
  rw [back_ld h1 hc hb, backI_get h1 hc hb, rep_getD]
  omega
theorem back_back {ns : List Int} (h1 : 1 ≤ ns.length) (hc : clashOf ns = none) : backI (backI ns) = ns := by
  apply ext_getD (by rw [backI_len, backI_len])
  intro i hi
  rw [backI_len, backI_len] at hi
  have hlt : ld ns i < (backI ns).length := by rw [backI_len]; exact ld_lt i h1
  have z := backI_get (ns := backI ns) (by rw [backI_len]; exact h1) (back_clash h1 hc) hlt
  rw [back_ld h1 hc hi, backI_get h1 hc hi] at z
  rw [z]
  omega
/-! opposites -/
theorem opp_cast (n : Nat) (x : Int) (hn : 1 ≤ n) : ((opp n x : Nat) : Int) = (-x) % (n : Int) := by
  have := Int.emod_nonneg (-x) (show (n : Int) ≠ 0 by omega)
  unfold opp
  omega
theorem opp_lt (n : Nat) (x : Int) (hn : 1 ≤ n) : opp n x < n := by
  have := Int.emod_lt_of_pos (-x) (show (0 : Int) < (n : Int) by omega)
  have := opp_cast n x hn
  omega
theorem neg_emod_inj {n x y : Int} (h : (-x) % n = (-y) % n) : x % n = y % n := by
  have z := Int.emod_eq_emod_iff_emod_sub_eq_zero.mp h
  rw [show -x - -y = -(x - y) by omega] at z
  refine Int.emod_eq_emod_iff_emod_sub_eq_zero.mpr ?_
  exact Int.emod_eq_zero_of_dvd ((Int.dvd_neg).mp (Int.dvd_of_emod_eq_zero z))
theorem neg_emod {n x : Int} : (-(x % n)) % n = (-x) % n := by
  have h : (-(x % n)) % n = (-x) % n ↔ _ := Int.emod_eq_emod_iff_emod_sub_eq_zero
  rw [h, show -(x % n) - -x = x - x % n by omega]
  exact Int.emod_eq_emod_iff_emod_sub_eq_zero.mp (Int.emod_emod_of_dvd x (Int.dvd_refl n)).symm
theorem opp_opp {n b : Nat} (hb : b < n) : opp n ((opp n (b : Int) : Nat) : Int) = b := by
  have h1 := opp_cast n ((opp n (b : Int) : Nat) : Int) (by omega)
  have h2 := opp_cast n (b : Int) (by omega)
  have e : (-((-(b : Int)) % (n : Int))) % (n : Int) = (b : Int) := by
    rw [neg_emod, Int.neg_neg, Int.emod_eq_of_lt (by omega) (by omega)]
  rw [← h2] at e
  omega
theorem opp_inj {n : Nat} {i j : Nat} (hi : i < n) (hj : j < n) (e : opp n (i : Int) = opp n (j : Int)) : i = j := by
  have z := opp_opp hi
  rw [e, opp_opp hj] at z
  omega
/-! mirrored -/
def ml (ns : List Int) (b : Nat) : Nat := opp ns.length ((b : Int) + ns.getD b 0)
theorem ml_lt {ns : List Int} (b : Nat) (h1 : 1 ≤ ns.length) : ml ns b < ns.length := opp_lt _ _ h1
theorem ml_inj {ns : List Int} (h1 : 1 ≤ ns.length) (hc : clashOf ns = none) {i j : Nat} (hi : i < ns.length) (hj : j < ns.length) (e : ml ns i = ml ns j) : i = j := by
  refine land_inj hc hi hj ?_
  have h2 := opp_cast ns.length ((i : Int) + ns.getD i 0) h1
  have h3 := opp_cast ns.length ((j : Int) + ns.getD j 0) h1
  unfold ml at e
  rw [e, h3] at h2
  exact (neg_emod_inj h2).symm
theorem ml_onto {ns : List Int} (h1 : 1 ≤ ns.length) (hc : clashOf ns = none) {l : Nat} (hl : l < ns.length) : ∃ b, b < ns.length ∧ ml ns b = l :=
  inj_onto (fun i _ => ml_lt i h1) (fun _ _ hi hj => ml_inj h1 hc hi hj) hl
theorem mirrorI_len (ns : List Int) : (mirrorI ns).length = ns.length := by
  unfold mirrorI
  rw [set_fold_len (fun b => opp ns.length ((b : Int) + ns.getD b 0)) (fun b => ns.getD b 0), List.length_replicate]
theorem mirrorI_get {ns : List Int} (h1 : 1 ≤ ns.length) (hc : clashOf ns = none) {b : Nat} (hb : b < ns.length) : (mirrorI ns).getD (ml ns b) 0 = ns.getD b 0 :=
  set_fold_get (ml ns) (fun b => ns.getD b 0) (List.replicate ns.length 0) ns.length (fun i j hi hj => ml_inj h1 hc hi hj) (fun i _ => by rw [List.length_replicate]; exact ml_lt i h1) b hb
theorem mirror_land {ns : List Int} (h1 : 1 ≤ ns.length) (hc : clashOf ns = none) {b : Nat} (hb : b < ns.length) : land (mirrorI ns) (ml ns b) = (-(b : Int)) % (ns.length : Int) := by
  have e0 : land (mirrorI ns) (ml ns b) = (((ml ns b : Nat) : Int) + (mirrorI ns).getD (ml ns b) 0) % (ns.length : Int) := by
    unfold land
    rw [mirrorI_len]
  rw [e0, mirrorI_get h1 hc hb]
  unfold ml
  rw [opp_cast _ _ h1, Int.emod_add_emod, show -((b : Int) + ns.getD b 0) + ns.getD b 0 = -(b : Int) by omega]
theorem mirror_clash {ns : List Int} (h1 : 1 ≤ ns.length) (hc : clashOf ns = none) : clashOf (mirrorI ns) = none := by
  refine clash_none_of fun i j hi hj e => ?_
  rw [mirrorI_len] at hi hj
  obtain ⟨b, hb, rfl⟩ := ml_onto h1 hc hi
  obtain ⟨c, hcc, rfl⟩ := ml_onto h1 hc hj
  rw [mirror_land h1 hc hb, mirror_land h1 hc hcc] at e
  have := emod_unique (n := (ns.length : Int)) (x := (b : Int)) (y := (c : Int)) (by omega) (by omega) (by omega) (by omega) (neg_emod_inj e)
  have : b = c := by omega
  rw [this]
theorem mirror_row {ns : List Int} (hr : RowI ns) (hc : clashOf ns = none) : RowI (mirrorI ns) := by
  obtain ⟨h1, h2, h3⟩ := hr
  refine ⟨by rw [mirrorI_len]; exact h1, by rw [mirrorI_len]; exact h2, fun x hx => ?_⟩
  obtain ⟨i, hi, rfl⟩ := mem_getD hx
  rw [mirrorI_len] at hi
  obtain ⟨b, hb, rfl⟩ := ml_onto h1 hc hi
  rw [mirrorI_get h1 hc hb]
  exact h3 _ (getD_mem hb)
theorem mirror_ml {ns : List Int} (h1 : 1 ≤ ns.length) (hc : clashOf ns = none) {b : Nat} (hb : b < ns.length) : ml (mirrorI ns) (ml ns b) = b := by
  unfold ml
  rw [mirrorI_len]
  have z := mirrorI_get h1 hc hb
  unfold ml at z
  rw [z]
  have h2 := opp_cast ns.length (((opp ns.length ((b : Int) + ns.getD b 0) : Nat) : Int) + ns.getD b 0) h1
  have h3 : (-(((opp ns.length ((b : Int) + ns.getD b 0) : Nat) : Int) + ns.getD b 0)) % (ns.length : Int) = (b : Int) := by
    rw [opp_cast _ _ h1, ← neg_emod, Int.emod_add_emod, show -((b : Int) + ns.getD b 0) + ns.getD b 0 = -(b : Int) by omega, neg_emod, Int.neg_neg]
    exact Int.emod_eq_of_lt (by omega) (by omega)
  omega
theorem mirror_mirror {ns : List Int} (h1 : 1 ≤ ns.length) (hc : clashOf ns = none) : mirrorI (mirrorI ns) = ns := by
  apply ext_getD (by rw [mirrorI_len, mirrorI_len])
  intro i hi
  rw [mirrorI_len, mirrorI_len] at hi
  have hlt : ml ns i < (mirrorI ns).length := by rw [mirrorI_len]; exact ml_lt i h1
  have z := mirrorI_get (ns := mirrorI ns) (by rw [mirrorI_len]; exact h1) (mirror_clash h1 hc) hlt
  rw [mirror_ml h1 hc hi, mirrorI_get h1 hc hi] at z
  exact z
theorem mirror_sum {ns : List Int} (h1 : 1 ≤ ns.length) (hc : clashOf ns = none) : (mirrorI ns).sum = ns.sum := by
  have z := sum_reindex (n := ns.length) (f := ml ns) (fun i _ => ml_lt i h1) (fun i j hi hj => ml_inj h1 hc hi hj) (fun l => (mirrorI ns).getD l 0)
  have e : ((List.range ns.length).map fun b => (mirrorI ns).getD (ml ns b) 0) = (List.range ns.length).map fun b => ns.getD b 0 := by
    apply List.map_congr_left
    intro b hb
    exact mirrorI_get h1 hc (List.mem_range.mp hb)
  rw [e, getD_map_range] at z
  rw [z, ← mirrorI_len ns, getD_map_range]
/-! gaps -/
theorem gapsI_len (ns : List Int) (h : Int) : (gapsI ns h).length = ns.length := by simp [gapsI]
theorem gapsI_get {ns : List Int} (h : Int) {b : Nat} (hb : b < ns.length) : (gapsI ns h).getD b 0 = h - ns.getD (opp ns.length (b : Int)) 0 := getD_rng _ hb
theorem gaps_clash {ns : List Int} (h : Int) (h1 : 1 ≤ ns.length) (hc : clashOf ns = none) : clashOf (gapsI ns h) = none := by
  have key : ∀ b, b < ns.length → land (gapsI ns h) b = (h - ((opp ns.length (b : Int) : Nat) : Int) - ns.getD (opp ns.length (b : Int)) 0) % (ns.length : Int) := fun b hb => by
    have e0 : land (gapsI ns h) b = ((b : Int) + (gapsI ns h).getD b 0) % (ns.length : Int) := by
      unfold land
      rw [gapsI_len]
    rw [e0, gapsI_get h hb]
    refine Int.emod_eq_emod_iff_emod_sub_eq_zero.mpr ?_
    rw [show (b : Int) + (h - ns.getD (opp ns.length (b : Int)) 0) - (h - ((opp ns.length (b : Int) : Nat) : Int) - ns.getD (opp ns.length (b : Int)) 0) = ((opp ns.length (b : Int) : Nat) : Int) + (b : Int) by omega, opp_cast _ _ h1, Int.emod_add_emod, show -(b : Int) + (b : Int) = 0 by omega]
    rfl
  refine clash_none_of fun i j hi hj e => ?_
  rw [gapsI_len] at hi hj
  rw [key i hi, key j hj] at e
  refine opp_inj hi hj (land_inj hc (opp_lt _ _ h1) (opp_lt _ _ h1) ?_)
  unfold land
  have z := Int.emod_eq_emod_iff_emod_sub_eq_zero.mp e
  refine Int.emod_eq_emod_iff_emod_sub_eq_zero.mpr (Int.emod_eq_zero_of_dvd ?_)
  have z2 := Int.dvd_of_emod_eq_zero z
  rw [← Int.dvd_neg] at z2
  refine (by rw [show (((opp ns.length (i : Int) : Nat) : Int) + ns.getD (opp ns.length (i : Int)) 0 - (((opp ns.length (j : Int) : Nat) : Int) + ns.getD (opp ns.length (j : Int)) 0)) = -((h - ((opp ns.length (i : Int) : Nat) : Int) - ns.getD (opp ns.length (i : Int)) 0) - (h - ((opp ns.length (j : Int) : Nat) : Int) - ns.getD (opp ns.length (j : Int)) 0)) by omega]; exact z2)
theorem sum_map_neg {α : Type} (f : α → Int) (l : List α) : (l.map fun x => -(f x)).sum = -(l.map f).sum := by
  induction l with
  | nil => rfl
  | cons a r ih =>
    rw [List.map_cons, List.map_cons, List.sum_cons, List.sum_cons, ih]
    omega
theorem sum_const (n : Nat) (c : Int) : ((List.range n).map fun _ => c).sum = (n : Int) * c := by
  induction n with
  | zero => simp
  | succ n ih =>
    rw [List.range_succ, List.map_append, List.sum_append, ih]
    simp
    rw [Int.add_mul]
    omega
theorem gaps_sum {ns : List Int} (h : Int) (h1 : 1 ≤ ns.length) : (gapsI ns h).sum = (ns.length : Int) * h - ns.sum := by
  unfold gapsI
  have e : ((List.range ns.length).map fun b : Nat => h - ns.getD (opp ns.length (b : Int)) 0) = (List.range ns.length).map fun b : Nat => h + -(ns.getD (opp ns.length (b : Int)) 0) := by
    apply List.map_congr_left
    intro b _
    omega
  rw [e, sum_map_add (fun _ : Nat => h) (fun b : Nat => -(ns.getD (opp ns.length (b : Int)) 0)), sum_const, sum_map_neg]
  have z := sum_reindex (n := ns.length) (f := fun b => opp ns.length (b : Int)) (fun i _ => opp_lt _ _ h1) (fun i j hi hj => opp_inj hi hj) (fun l => ns.getD l 0)
  rw [z, getD_map_range]
  omega
theorem gaps_balls {ns : List Int} (h : Int) (h1 : 1 ≤ ns.length) (hc : clashOf ns = none) : (gapsI ns h).sum / ((gapsI ns h).length : Int) = h - ns.sum / (ns.length : Int) := by
  rw [gaps_sum h h1, gapsI_len]
  have d := pat_dvd h1 hc
  have e : (ns.length : Int) * h - ns.sum = (ns.length : Int) * (h - ns.sum / (ns.length : Int)) := by
    rw [Int.mul_sub, Int.mul_comm (ns.length : Int) (ns.sum / (ns.length : Int)), d]
  rw [e, Int.mul_ediv_cancel_left _ (by omega)]
theorem gaps_gaps {ns : List Int} (h : Int) (h1 : 1 ≤ ns.length) : gapsI (gapsI ns h) h = ns := by
  apply ext_getD (by rw [gapsI_len, gapsI_len])
  intro i hi
  rw [gapsI_len, gapsI_len] at hi
  rw [gapsI_get h (by rw [gapsI_len]; exact hi), gapsI_len, gapsI_get h (opp_lt _ _ h1), opp_opp hi]
  omega
end TB

/-! ### plain mathematics: turned and lifted patterns -/
namespace TB
open PySem PySem.Spec PyProof.Rows L2 Evl
theorem allM_iff {ns : List Int} : allM ns = true ↔ ∀ n ∈ ns, -1000000 ≤ n ∧ n ≤ 1000000 := by
  unfold allM
  rw [List.all_eq_true]
  constructor
  · intro h n hn
    have := h n hn
    simpa using this
  · intro h n hn
    have := h n hn
    simpa using this
theorem rowI_of {ns : List Int} (h1 : 1 ≤ ns.length) (h2 : ns.length ≤ 60) (h : allM ns = true) : RowI ns := ⟨h1, h2, allM_iff.mp h⟩
theorem lift_clash {ns : List Int} (k : Int) (h : clashOf ns = none) : clashOf (ns.map (· + k)) = none := by
  rw [clash_none_iff] at h ⊢
  intro i j hij hj e
  rw [List.length_map] at hj
  refine h i j hij hj ?_
  unfold land at e ⊢
  rw [List.length_map, getD_map (fun x => x + k) ns 0 (by omega), getD_map (fun x => x + k) ns 0 hj] at e
  rw [show (i : Int) + (ns.getD i 0 + k) = (i : Int) + ns.getD i 0 + k by omega, show (j : Int) + (ns.getD j 0 + k) = (j : Int) + ns.getD j 0 + k by omega] at e
  exact (Int.emod_add_cancel_right k).mp e
theorem lift_sum (ns : List Int) (k : Int) : (ns.map (· + k)).sum = ns.sum + (ns.length : Int) * k := by
  induction ns with
  | nil => simp
  | cons a r ih =>
    rw [List.map_cons, List.sum_cons, List.sum_cons, ih, List.length_cons, Int.natCast_add, Int.add_mul]
    omega
theorem lift_balls {ns : List Int} (k : Int) (h1 : 1 ≤ ns.length) : (ns.map (· + k)).sum / ((ns.map (· + k)).length : Int) = ns.sum / (ns.length : Int) + k := by
  rw [lift_sum, List.length_map, Int.add_mul_ediv_left _ _ (show (ns.length : Int) ≠ 0 by omega)]
theorem turn_get {ns : List Int} (k : Int) (h1 : 1 ≤ ns.length) : turnI ns k = (List.range ns.length).map fun b : Nat => ns.getD ((k + (b : Int)) % (ns.length : Int)).toNat 0 := by
  have s0 : 0 ≤ k % (ns.length : Int) := Int.emod_nonneg _ (by omega)
  have s1 : k % (ns.length : Int) < (ns.length : Int) := Int.emod_lt_of_pos _ (by omega)
  have hs : ∀ b : Int, (k + b) % (ns.length : Int) = (k % (ns.length : Int) + b) % (ns.length : Int) := fun b => by rw [Int.emod_add_emod]
  have tl : (turnI ns k).length = ns.length := by
    unfold turnI
    rw [List.length_append, List.length_drop, List.length_take]
    omega
  apply ext_getD (by rw [tl]; simp)
  intro i hi
  rw [tl] at hi
  rw [getD_rng _ hi, hs]
  unfold turnI
  generalize k % (ns.length : Int) = s at s0 s1
  have es : ((s.toNat : Nat) : Int) = s := by omega
  by_cases hc : i < ns.length - s.toNat
  · rw [List.getD_eq_getElem?_getD, List.getElem?_append_left (by rw [List.length_drop]; omega), List.getElem?_drop, ← List.getD_eq_getElem?_getD, Int.emod_eq_of_lt (by omega) (by omega)]
    congr 1
    omega
  · rw [List.getD_eq_getElem?_getD, List.getElem?_append_right (by rw [List.length_drop]; omega), List.length_drop, List.getElem?_take_of_lt (by omega), ← List.getD_eq_getElem?_getD]
    have e : (s + (i : Int)) % (ns.length : Int) = s + (i : Int) - (ns.length : Int) := by
      rw [← Int.sub_emod_right]
      exact Int.emod_eq_of_lt (by omega) (by omega)
    rw [e]
    congr 1
    omega
end TB

/-! ### what the laws have in common -/
namespace TB
open PySem PySem.Spec PyProof.Rows L2 Evl
section
variable {K : PySem.W.Frag} {σ : L2.St} {H H' : Hp} {t1 t2 : TE} {tz : TS} {D : Ends} {sp : Sp} {dvs xs ys zs : List V} {E : XK} {ES : L2.St → XK} {v z : V}
theorem el_cLV (h1 : EvL t1 σ H xs) (h2 : Ev t2 σ H v) (hs : ∀ p H1, H1 p = some (.lst xs) → Ex H H1 → SpL sp ([.ref p, v] ++ dvs) H1 zs) : EvL (tCall sp dvs E (tCons t1 (tCons t2 tNil))) σ H zs := fun H1 e Q q =>
  h1 H1 e _ fun p H2 _ e2 g1 => h2 H2 (e.trans e2) _ fun H3 e3 => hs p H3 (e3 _ _ g1) ((e.trans e2).trans e3) H3 (Ex.refl H3) Q (fun r H4 hr e4 => q r H4 (fresh_back (e2.trans e3) hr) ((e2.trans e3).trans e4)) E
theorem el_cL (h1 : EvL t1 σ H xs) (hs : ∀ p H1, H1 p = some (.lst xs) → Ex H H1 → SpL sp ([.ref p] ++ dvs) H1 zs) : EvL (tCall sp dvs E (tCons t1 tNil)) σ H zs := fun H1 e Q q =>
  h1 H1 e _ fun p H2 _ e2 g1 => hs p H2 g1 (e.trans e2) H2 (Ex.refl H2) Q (fun r H4 hr e4 => q r H4 (fresh_back e2 hr) (e2.trans e4)) E
theorem el_cLVS (h1 : EvL t1 σ H xs) (h2 : Ev t2 σ H v) (hs : ∀ p H1, H1 p = some (.lst xs) → Ex H H1 → SpL sp [.ref p, v] H1 zs) : EvL (tCallS sp ES (tCons t1 (tCons t2 tNil))) σ H zs := fun H1 e Q q =>
  h1 H1 e _ fun p H2 _ e2 g1 => h2 H2 (e.trans e2) _ fun H3 e3 => hs p H3 (e3 _ _ g1) ((e.trans e2).trans e3) H3 (Ex.refl H3) Q (fun r H4 hr e4 => q r H4 (fresh_back (e2.trans e3) hr) ((e2.trans e3).trans e4)) (ES σ)
theorem rz_cLVS (h1 : EvL t1 σ H xs) (h2 : Ev t2 σ H v) (hs : ∀ p H1, H1 p = some (.lst xs) → Ex H H1 → ∀ Q : VK, sp [.ref p, v] H1 Q (ES σ)) : Rz (tCallS sp ES (tCons t1 (tCons t2 tNil))) σ H := fun H1 e Q =>
  h1 H1 e _ fun p H2 _ e2 g1 => h2 H2 (e.trans e2) _ fun H3 e3 => hs p H3 (e3 _ _ g1) ((e.trans e2).trans e3) Q
theorem rz_cLV (h1 : EvL t1 σ H xs) (h2 : Ev t2 σ H v) (hs : ∀ p H1, H1 p = some (.lst xs) → Ex H H1 → ∀ Q : VK, sp ([.ref p, v] ++ dvs) H1 Q E) : Rz (tCall sp dvs E (tCons t1 (tCons t2 tNil))) σ H := fun H1 e Q =>
  h1 H1 e _ fun p H2 _ e2 g1 => h2 H2 (e.trans e2) _ fun H3 e3 => hs p H3 (e3 _ _ g1) ((e.trans e2).trans e3) Q
end
theorem cut_one (ns : List Int) (s : Nat) (h : s < ns.length) : cutV (ns.map V.int) (some (s : Int)) (some ((s : Int) + 1)) = [ns.getD s 0].map V.int := by
  unfold cutV
  rw [show (s : Int) + 1 = ((s + 1 : Nat) : Int) by omega, HT.sIx_nat, HT.sIx_nat, List.length_map, Nat.min_eq_left (by omega), Nat.min_eq_left (by omega), show s + 1 - s = 1 by omega, ← List.map_drop, ← List.map_take]
  congr 1
  rw [List.drop_eq_getElem_cons h, List.take_succ_cons, List.take_zero, List.getD_eq_getElem?_getD, List.getElem?_eq_getElem h]
  rfl
theorem cut_first (ns : List Int) (s : Nat) (h : s < ns.length) : cutV ((ns.drop s).map V.int) none (some (1 : Int)) = [ns.getD s 0].map V.int := by
  have z := cut_to ((ns.drop s).map V.int) 1
  rw [show (((1 : Nat) : Int)) = (1 : Int) from rfl] at z
  rw [z, ← List.map_take]
  congr 1
  rw [List.drop_eq_getElem_cons h, List.take_succ_cons, List.take_zero, List.getD_eq_getElem?_getD, List.getElem?_eq_getElem h]
  rfl
theorem sv_balls_of {K : PySem.W.Frag} {H : Hp} {a : Addr} {rs : List Int} (h : H a = some (.lst (rs.map V.int))) (hr : RowI rs) (hc : clashOf rs = none) : SpV (sp_balls_of K) [.ref a] H (.int (rs.sum / (rs.length : Int))) := spv_of fun H1 e Q E k => ⟨_, _, rfl, Row.of (e _ _ h), by
  unfold doorRe patRe
  rw [rowOk_of hr, if_pos rfl, rowsOf_some, hc]
  exact k⟩
theorem door_pat {f : List Int → Re} {ns : List Int} (hr : RowI ns) (hc : clashOf ns = none) : doorRe (some (ns.map V.int)) f = f ns := by
  unfold doorRe patRe
  rw [rowOk_of hr, if_pos rfl, rowsOf_some, hc]
theorem num_is {k : Int} {f : Int → Re} (h : inM (.int k) = true) : numRe (.int k) f = f k := by
  show (if inM (.int k) then f k else .err "OutOfBounds") = _
  rw [h, if_pos rfl]
theorem kept_is {ns : List Int} (h : allM ns = true) : keptRe ns = .lst (ns.map V.int) := by
  unfold keptRe
  rw [h, if_pos rfl]
theorem kept_no {ns : List Int} (h : allM ns = false) : keptRe ns = .err "OutOfBounds" := by
  unfold keptRe
  rw [h]
  rfl
def sp_law (K : PySem.W.Frag) : Sp := fun vs H Q E => ∃ (a : Addr) (ns : List Int), vs = [.ref a] ∧ SqL K H a (ns.map V.int) ∧ ∀ H', Q (.bl true) H'
theorem law_true {K : PySem.W.Frag} (H : Hp) (a : Addr) (ns : List Int) (_ : ns.length ≤ 63) (hS : SqL K H a (ns.map V.int)) : sp_law K [.ref a] H (fun v _ => v = .bl true) (fun _ _ _ => False) := ⟨a, ns, rfl, hS, fun _ => rfl⟩
end TB

/-! ### plain mathematics: landings exchanged -/
namespace TB
open PySem PySem.Spec PyProof.Rows L2 Evl
def swapI (ns : List Int) (i : Nat) (j : Int) (j2 : Nat) : List Int := (ns.set i (j + ns.getD j2 0 - (i : Int))).set j2 ((i : Int) + ns.getD i 0 - j)
theorem getD_set (l : List Int) (i k : Nat) (x : Int) (hi : i < l.length) : (l.set i x).getD k 0 = if i = k then x else l.getD k 0 := by
  rw [List.getD_eq_getElem?_getD, List.getElem?_set]
  by_cases e : i = k
  · rw [if_pos e, if_pos e, if_pos hi]
    rfl
  · rw [if_neg e, if_neg e, List.getD_eq_getElem?_getD]
theorem swap_len (ns : List Int) (i : Nat) (j : Int) (j2 : Nat) : (swapI ns i j j2).length = ns.length := by simp [swapI]
theorem swap_get {ns : List Int} {i : Nat} {j : Int} {j2 : Nat} (hi : i < ns.length) (hj : j2 < ns.length) (k : Nat) : (swapI ns i j j2).getD k 0 = if j2 = k then (i : Int) + ns.getD i 0 - j else if i = k then j + ns.getD j2 0 - (i : Int) else ns.getD k 0 := by
  unfold swapI
  rw [getD_set _ _ _ _ (by rw [List.length_set]; exact hj), getD_set _ _ _ _ hi]
def trI (i j2 k : Nat) : Nat := if j2 = k then i else if i = k then j2 else k
theorem swap_land {ns : List Int} {i : Nat} {j : Int} {j2 : Nat} (hi : i < ns.length) (hj : j2 < ns.length) (e : j % (ns.length : Int) = (j2 : Int)) (k : Nat) : land (swapI ns i j j2) k = land ns (trI i j2 k) := by
  have h1 : j = (j2 : Int) + (ns.length : Int) * (j / (ns.length : Int)) := by
    have := Int.emod_add_mul_ediv j (ns.length : Int)
    omega
  unfold land trI
  rw [swap_len, swap_get hi hj]
  by_cases h : j2 = k
  · rw [if_pos h, if_pos h, ← h]
    rw [show (j2 : Int) + ((i : Int) + ns.getD i 0 - j) = ((i : Int) + ns.getD i 0) + (ns.length : Int) * (-(j / (ns.length : Int))) by rw [Int.mul_neg]; omega, Int.add_mul_emod_self_left]
  · rw [if_neg h, if_neg h]
    by_cases h2 : i = k
    · rw [if_pos h2, if_pos h2, ← h2]
      rw [show (i : Int) + (j + ns.getD j2 0 - (i : Int)) = ((j2 : Int) + ns.getD j2 0) + (ns.length : Int) * (j / (ns.length : Int)) by omega, Int.add_mul_emod_self_left]
    · rw [if_neg h2, if_neg h2]
theorem swap_clash {ns : List Int} {i : Nat} {j : Int} {j2 : Nat} (hi : i < ns.length) (hj : j2 < ns.length) (e : j % (ns.length : Int) = (j2 : Int)) (hc : clashOf ns = none) : clashOf (swapI ns i j j2) = none := by
  refine clash_none_of fun a b ha hb ee => ?_
  rw [swap_len] at ha hb
  rw [swap_land hi hj e, swap_land hi hj e] at ee
  have z : trI i j2 a < ns.length := by unfold trI; split; exact hi; split; exact hj; exact ha
  have z2 : trI i j2 b < ns.length := by unfold trI; split; exact hi; split; exact hj; exact hb
  have w := land_inj hc z z2 ee
  unfold trI at w
  split at w <;> split at w <;> (try split at w) <;> (try split at w) <;> omega
theorem sum_set : ∀ (l : List Int) (i : Nat) (x : Int), i < l.length → (l.set i x).sum = l.sum - l.getD i 0 + x
  | [], _, _, h => absurd h (by simp)
  | a :: r, 0, x, _ => by
    rw [List.set_cons_zero, List.sum_cons, List.sum_cons]
    show x + r.sum = a + r.sum - a + x
    omega
  | a :: r, i + 1, x, h => by
    rw [List.set_cons_succ, List.sum_cons, List.sum_cons, sum_set r i x (by simpa using h)]
    show a + (r.sum - r.getD i 0 + x) = a + r.sum - r.getD i 0 + x
    omega
theorem swap_sum {ns : List Int} {i : Nat} {j : Int} {j2 : Nat} (hi : i < ns.length) (hj : j2 < ns.length) (hn : i ≠ j2) : (swapI ns i j j2).sum = ns.sum := by
  unfold swapI
  rw [sum_set _ _ _ (by rw [List.length_set]; exact hj), sum_set _ _ _ hi, getD_set _ _ _ _ hi, if_neg hn]
  omega
theorem swap_swap {ns : List Int} {i : Nat} {j : Int} {j2 : Nat} (hi : i < ns.length) (hj : j2 < ns.length) (hn : i ≠ j2) : swapI (swapI ns i j j2) i j j2 = ns := by
  apply ext_getD (by rw [swap_len, swap_len])
  intro k hk
  have gi : (swapI ns i j j2).getD i 0 = j + ns.getD j2 0 - (i : Int) := by
    rw [swap_get hi hj, if_neg (fun h => hn h.symm), if_pos rfl]
  have gj : (swapI ns i j j2).getD j2 0 = (i : Int) + ns.getD i 0 - j := by rw [swap_get hi hj, if_pos rfl]
  rw [swap_get (by rw [swap_len]; exact hi) (by rw [swap_len]; exact hj), gi, gj, swap_get hi hj]
  by_cases h : j2 = k
  · rw [if_pos h, ← h]; omega
  · rw [if_neg h, if_neg h]
    by_cases h2 : i = k
    · rw [if_pos h2, ← h2]; omega
    · rw [if_neg h2, if_neg h2]
def exI (ns : List Int) (k : Nat) : List Int := (ns.set k (ns.getD ((k + 1) % ns.length) 0 + 1)).set ((k + 1) % ns.length) (ns.getD k 0 - 1)
theorem exI_swap (ns : List Int) (k : Nat) : exI ns k = swapI ns k ((k : Int) + 1) ((k + 1) % ns.length) := by
  unfold exI swapI
  rw [show (k : Int) + 1 + ns.getD ((k + 1) % ns.length) 0 - (k : Int) = ns.getD ((k + 1) % ns.length) 0 + 1 by omega, show (k : Int) + ns.getD k 0 - ((k : Int) + 1) = ns.getD k 0 - 1 by omega]
end TB

/-! ### swapped, exchange, neighbours -/
namespace TB
open PySem PySem.Spec PyProof.Rows L2 Evl
def swapRe (i j : V) (ns : List Int) : Re := match i, j with
  | .int x, .int y => if 0 ≤ x ∧ x < y ∧ y < (ns.length : Int) then keptRe (swapI ns x.toNat y y.toNat) else .err "OutOfBounds"
  | _, _ => .err "OutOfBounds"
def swapOk (i j : V) (ns : List Int) : Prop := ∃ x y : Nat, i = .int (x : Int) ∧ j = .int (y : Int) ∧ x < y ∧ y < ns.length
theorem swap_bad {i j : V} {ns : List Int} (h : ¬ swapOk i j ns) : swapRe i j ns = .err "OutOfBounds" := by
  unfold swapRe
  split
  · rename_i x y
    rw [if_neg]
    rintro ⟨h0, h1, h2⟩
    exact h ⟨x.toNat, y.toNat, congrArg V.int (by omega), congrArg V.int (by omega), by omega, by omega⟩
  · rfl
theorem swap_good {x y : Nat} {ns : List Int} (h1 : x < y) (h2 : y < ns.length) : swapRe (.int (x : Int)) (.int (y : Int)) ns = keptRe (swapI ns x (y : Int) y) := by
  show (if 0 ≤ (x : Int) ∧ (x : Int) < (y : Int) ∧ (y : Int) < (ns.length : Int) then keptRe (swapI ns (x : Int).toNat (y : Int) (y : Int).toNat) else .err "OutOfBounds") = _
  rw [if_pos ⟨by omega, by omega, by omega⟩]
  rfl
theorem inB_int {v : V} {lo hi : Int} (h : inB v lo hi = true) : ∃ x, v = .int x ∧ lo ≤ x ∧ x ≤ hi := by
  cases v with
  | int x =>
    refine ⟨x, rfl, ?_⟩
    simpa [inB] using h
  | _ => cases h
theorem inB_is {x lo hi : Int} : inB (.int x) lo hi = (decide (lo ≤ x) && decide (x ≤ hi)) := rfl
def sp_swapped (K : PySem.W.Frag) : Sp := fun vs H Q E => ∃ v o i j, vs = [v, i, j] ∧ Row H v o ∧ Kd H i ∧ Kd H j ∧ Give K (doorRe o fun ns => swapRe i j ns) H Q E
theorem s_retK {K : PySem.W.Frag} {σ : L2.St} {H H0 : Hp} {te : TE} {p : Addr} {ns : List Int} {E : XK} {Q : VK} {D : Ends} (h : Ev te σ H (.ref p)) (hp : H p = some (.lst (ns.map V.int))) (e0 : Ex H0 H) (hf : H0 p = none) (q : Give K (keptRe ns) H0 Q E) (hD : D.rt = Q) : tRet (tCall (sp_kept K) [] E (tCons te tNil)) D σ H := by
  unfold keptRe at q
  by_cases ha : allM ns = true
  · rw [if_pos ha] at q
    refine s_ret (v := .ref p) (ev_call (vs := [.ref p]) (ea_cons h ea_nil) (spv_of fun H1 e1 Q1 E1 k => ⟨p, ns, rfl, e1 _ _ hp, ?_⟩)) fun H1 e1 => ?_
    · rw [if_pos ha]
      exact k
    · rw [hD]
      exact q p H1 hf (e0.trans e1) (e1 _ _ hp)
  · have ha' : allM ns = false := by simpa using ha
    rw [if_neg ha] at q
    refine x_ret (rz_call (vs := [.ref p]) (ea_cons h ea_nil) fun H1 e1 Q1 => ⟨p, ns, rfl, e1 _ _ hp, ?_⟩)
    rw [if_neg ha]
    exact fun H2 e2 => q H2 ((e0.trans e1).trans e2)
theorem sc_swapped : FnScope ["pattern", "i", "j", "made"] ["pattern", "i", "j"] (defScope s_swapped) := ⟨rfl, rfl, rfl, by decide +kernel, rfl, by decide +kernel, by decide +kernel⟩
theorem ok_swapped {P : Program} {w : World} {K : PySem.W.Frag} {mg : Str → Option Value} {base : Heap} (T : TXT K mg) : OK P w K mg base "swapped" ["pattern", "i", "j"] 6 (sp_swapped K) := by
  have O_check_pattern := ok_check_pattern (P := P) (w := w) (base := base) T
  have O_within := ok_within (P := P) (w := w) (base := base) T
  have O_kept := ok_kept (P := P) (w := w) (base := base) T
  obtain ⟨fd, F⟩ := T.def_ 13
  refine ⟨_, fd, T.glo 12, F.kp, F.bindsN (fun _ _ _ _ _ _ us hl => match us, hl with | [_, _, _], _ => rfl), F.ok sc_swapped (fun vs H Q E h => ?_) (fun cdv A outer s H vs Q E hr h => ?_), F.bindsA (fun _ _ _ _ _ _ us hl => match us, hl with | [_, _, _], _ => rfl)⟩
  · first | (obtain ⟨rfl, _⟩ := h; rfl) | (obtain ⟨_, rfl, _⟩ := h; rfl) | (obtain ⟨_, _, rfl, _⟩ := h; rfl) | (obtain ⟨_, _, _, rfl, _⟩ := h; rfl) | (obtain ⟨_, _, _, _, rfl, _⟩ := h; rfl) | (obtain ⟨_, _, _, _, _, rfl, _⟩ := h; rfl) | (obtain ⟨_, _, _, _, _, _, rfl, _⟩ := h; rfl) | (obtain ⟨_, _, _, _, _, _, _, rfl, _⟩ := h; rfl) | (obtain ⟨_, _, _, _, _, _, _, _, rfl, _⟩ := h; rfl)
  · replace F : FunD K "swapped" "swapped" (defArgs s_swapped) (defBody s_swapped) (defScope s_swapped) [] [] (He.ga K "swapped") fd := F
    refine ⟨_, (pss_cons (ps_expr (pe_own O_check_pattern (hr.mono (by decide)) (by rfl) (passes_call (takes_of rfl rfl rfl rfl) (fun _ _ _ _ h => h)) (pa_cons (pv 0) pa_nil)))
      (pss_cons (ps_if (PW.pt (pw_or (pt_not (pt_val (pe_own O_within (hr.mono (by decide)) (by rfl) (passes_call (takes_of rfl rfl rfl rfl) (fun _ _ _ _ h => h)) (pa_cons (pv 1) (pa_cons pe_int (pa_cons (pe_op op_sub (pe_callB (id := "len") (k_len K) (by rfl) (T.free 43) (by decide +kernel) (pa_cons (pv 0) pa_nil)) pe_int) pa_nil)))))) (pw_or (pt_not (pt_val (pe_own O_within (hr.mono (by decide)) (by rfl) (passes_call (takes_of rfl rfl rfl rfl) (fun _ _ _ _ h => h)) (pa_cons (pv 2) (pa_cons pe_int (pa_cons (pe_op op_sub (pe_callB (id := "len") (k_len K) (by rfl) (T.free 43) (by decide +kernel) (pa_cons (pv 0) pa_nil)) pe_int) pa_nil)))))) (pw_or1 (pt_not (pt_cmpR op_lt (pv 1) (pv 2) (nomark _)))))))
        (pss_one (ps_raise rfl (takes_of rfl rfl rfl rfl) (pmk_ex (T.fact 51) (T.glo 29))))
        pss_nil)
      (pss_cons (ps_set (i := 3) sc_swapped.nd rfl (Or.inl rfl) (pe_callTy (T := "list") (k_list K) (by rfl) (T.free 44) (by decide +kernel) (pa_cons (pv 0) pa_nil)))
      (pss_cons (ps_asg (pe_op op_sub (pe_op op_add (pe_ix (k_ixL K) (pv 0) (pv 2) (fun _ _ => rfl)) (pv 2)) (pv 1)) (pg_sub (pv 3) (pv 1) set_list))
      (pss_cons (ps_asg (pe_op op_sub (pe_op op_add (pe_ix (k_ixL K) (pv 0) (pv 1) (fun _ _ => rfl)) (pv 1)) (pv 2)) (pg_sub (pv 3) (pv 2) set_list))
      (pss_one (ps_ret (pe_own O_kept (hr.mono (by decide)) (by rfl) (passes_call (takes_of rfl rfl rfl rfl) (fun _ _ _ _ h => h)) (pa_cons (pv 3) pa_nil))))))))), ?_⟩
    obtain ⟨v, o, i, j, rfl, hk, hki, hkj, q⟩ := h
    dsimp only [cxOf, L2.start, List.map_cons, List.map_nil, List.length_cons, List.length_nil, Nat.reduceAdd, Nat.reduceSub, List.replicate_succ, List.replicate_zero, List.cons_append, List.nil_append, Nat.zero_add, List.reduceReplicate, List.map]
    by_cases hg : rowOk o = true ∧ clashOf (rowsOf o) = none
    case neg => exact xq_drop (rz_call (by (repeat' (first | with_reducible exact ev_c | ((with_reducible show Ev (tVar _) _ _ _); exact ev_var rfl) | with_reducible exact ea_nil | with_reducible exact eo_none | with_reducible refine' ea_cons ?_ ?_ | with_reducible refine' eo_some ?_ | with_reducible refine' ev_and2 ?_ ?_ | with_reducible refine' ev_or2 ?_ ?_ | with_reducible refine' ev_notV ?_ | with_reducible exact ru_I | with_reducible refine' ev_un ?_ ?_ | with_reducible exact rv_I0 | with_reducible exact rv_isN | with_reducible exact rv_notN | with_reducible refine' rv_I ?_ | with_reducible refine' rv_eq ?_ | with_reducible refine' rv_ne ?_ | with_reducible refine' ev_op ?_ ?_ ?_ | with_reducible refine' ev_chain2 ?_ ?_ ?_ ?_ ?_ | with_reducible refine' et_B ?_ | with_reducible refine' et_test ?_ | with_reducible refine' et_and2 ?_ ?_ | with_reducible refine' et_or2 ?_ ?_ | with_reducible refine' et_not ?_ | with_reducible refine' ev_call ?_ ?_ | with_reducible refine' ev_callS ?_ ?_ | with_reducible refine' ev_cb ?_ ?_ | with_reducible exact isi_bool (by assumption) | with_reducible exact isi_int (by assumption) | with_reducible exact isi_list (by assumption) | with_reducible exact rc_len (by assumption) | with_reducible exact rc_sum (by assumption) | with_reducible exact rc_abs | with_reducible exact isi_listL (by assumption) | with_reducible exact isi_intI | with_reducible exact isi_boolI | with_reducible exact rc_lenT (by assumption) | with_reducible exact isi_tup (by assumption) | with_reducible exact rv_eqL (by assumption) (by assumption) | with_reducible exact rv_neL (by assumption) (by assumption) | with_reducible exact rv_neT (by assumption) (by assumption) | with_reducible exact rv_ixL (by assumption) (by assumption) | with_reducible exact rv_ixT (by assumption) (by assumption) | with_reducible refine' ev_din ?_ ?_ (by assumption) | with_reducible refine' ev_dnotin ?_ ?_ (by assumption) | with_reducible refine' ev_dget ?_ ?_ (by assumption) (by assumption) | ((with_reducible show SpV _ _ _ _); assumption) | ((with_reducible show RV _ _ _ _ _); assumption) | ((with_reducible show RC _ _ _ _); assumption) | ((with_reducible show CDiv _ _); exact ⟨by omega, by omega⟩) | ((with_reducible show CMul _ _); first | exact .inl ⟨by omega, by omega⟩ | exact .inr ⟨by omega, by omega⟩) | ((with_reducible show CPow _ _); exact ⟨by omega, by omega, by first | decide | assumption | omega⟩) | ((with_reducible show (0 : Int) < _); omega) | ((with_reducible show (0 : Int) ≤ _); omega) | ((with_reducible show scal _ _ = true); rfl)))) (sx_check_pattern hk q hg))
    have hcp := sv_check_pattern (K := K) hk hg.1 hg.2
    obtain ⟨a, ns, rfl, rfl, ha, ⟨h1, h2, h3⟩, hc, q⟩ := door_go hk q hg
    refine q_drop (v := .non) (by (repeat' (first | with_reducible exact ev_c | ((with_reducible show Ev (tVar _) _ _ _); exact ev_var rfl) | with_reducible exact ea_nil | with_reducible exact eo_none | with_reducible refine' ea_cons ?_ ?_ | with_reducible refine' eo_some ?_ | with_reducible refine' ev_and2 ?_ ?_ | with_reducible refine' ev_or2 ?_ ?_ | with_reducible refine' ev_notV ?_ | with_reducible exact ru_I | with_reducible refine' ev_un ?_ ?_ | with_reducible exact rv_I0 | with_reducible exact rv_isN | with_reducible exact rv_notN | with_reducible refine' rv_I ?_ | with_reducible refine' rv_eq ?_ | with_reducible refine' rv_ne ?_ | with_reducible refine' ev_op ?_ ?_ ?_ | with_reducible refine' ev_chain2 ?_ ?_ ?_ ?_ ?_ | with_reducible refine' et_B ?_ | with_reducible refine' et_test ?_ | with_reducible refine' et_and2 ?_ ?_ | with_reducible refine' et_or2 ?_ ?_ | with_reducible refine' et_not ?_ | with_reducible refine' ev_call ?_ ?_ | with_reducible refine' ev_callS ?_ ?_ | with_reducible refine' ev_cb ?_ ?_ | with_reducible exact isi_bool (by assumption) | with_reducible exact isi_int (by assumption) | with_reducible exact isi_list (by assumption) | with_reducible exact rc_len (by assumption) | with_reducible exact rc_sum (by assumption) | with_reducible exact rc_abs | with_reducible exact isi_listL (by assumption) | with_reducible exact isi_intI | with_reducible exact isi_boolI | with_reducible exact rc_lenT (by assumption) | with_reducible exact isi_tup (by assumption) | with_reducible exact rv_eqL (by assumption) (by assumption) | with_reducible exact rv_neL (by assumption) (by assumption) | with_reducible exact rv_neT (by assumption) (by assumption) | with_reducible exact rv_ixL (by assumption) (by assumption) | with_reducible exact rv_ixT (by assumption) (by assumption) | with_reducible refine' ev_din ?_ ?_ (by assumption) | with_reducible refine' ev_dnotin ?_ ?_ (by assumption) | with_reducible refine' ev_dget ?_ ?_ (by assumption) (by assumption) | ((with_reducible show SpV _ _ _ _); assumption) | ((with_reducible show RV _ _ _ _ _); assumption) | ((with_reducible show RC _ _ _ _); assumption) | ((with_reducible show CDiv _ _); exact ⟨by omega, by omega⟩) | ((with_reducible show CMul _ _); first | exact .inl ⟨by omega, by omega⟩ | exact .inr ⟨by omega, by omega⟩) | ((with_reducible show CPow _ _); exact ⟨by omega, by omega, by first | decide | assumption | omega⟩) | ((with_reducible show (0 : Int) < _); omega) | ((with_reducible show (0 : Int) ≤ _); omega) | ((with_reducible show scal _ _ = true); rfl)))) fun H1 e1 => ?_
    have s1 : SqL K H1 a (ns.map V.int) := ex_l e1 (sq_of ha)
    have hki1 := hki.mono e1
    have hkj1 := hkj.mono e1
    have wi := sv_within (lo := 0) (hi := ((ns.map V.int).length : Int) - 1) hki1
    have wj := sv_within (lo := 0) (hi := ((ns.map V.int).length : Int) - 1) hkj1
    have hl := List.length_map (as := ns) V.int
    by_cases hgood : swapOk i j ns
    case neg =>
      rw [swap_bad hgood] at q
      refine q_when (b := true) ?_ (fun _ H2 e2 => q H2 (e1.trans e2)) (fun h => by cases h)
      by_cases wi0 : inB i 0 (((ns.map V.int).length : Int) - 1) = true
      · by_cases wj0 : inB j 0 (((ns.map V.int).length : Int) - 1) = true
        · obtain ⟨x, rfl, x0, x1⟩ := inB_int wi0
          obtain ⟨y, rfl, y0, y1⟩ := inB_int wj0
          have hxy : ¬ x < y := fun h => hgood ⟨x.toNat, y.toNat, congrArg V.int (by omega), congrArg V.int (by omega), by omega, by omega⟩
          apply et_is
          · (repeat' (first | with_reducible exact ev_c | ((with_reducible show Ev (tVar _) _ _ _); exact ev_var rfl) | with_reducible exact ea_nil | with_reducible exact eo_none | with_reducible refine' ea_cons ?_ ?_ | with_reducible refine' eo_some ?_ | with_reducible refine' ev_and2 ?_ ?_ | with_reducible refine' ev_or2 ?_ ?_ | with_reducible refine' ev_notV ?_ | with_reducible exact ru_I | with_reducible refine' ev_un ?_ ?_ | with_reducible exact rv_I0 | with_reducible exact rv_isN | with_reducible exact rv_notN | with_reducible refine' rv_I ?_ | with_reducible refine' rv_eq ?_ | with_reducible refine' rv_ne ?_ | with_reducible refine' ev_op ?_ ?_ ?_ | with_reducible refine' ev_chain2 ?_ ?_ ?_ ?_ ?_ | with_reducible refine' et_B ?_ | with_reducible refine' et_test ?_ | with_reducible refine' et_and2 ?_ ?_ | with_reducible refine' et_or2 ?_ ?_ | with_reducible refine' et_not ?_ | with_reducible refine' ev_call ?_ ?_ | with_reducible refine' ev_callS ?_ ?_ | with_reducible refine' ev_cb ?_ ?_ | with_reducible exact isi_bool (by assumption) | with_reducible exact isi_int (by assumption) | with_reducible exact isi_list (by assumption) | with_reducible exact rc_len (by assumption) | with_reducible exact rc_sum (by assumption) | with_reducible exact rc_abs | with_reducible exact isi_listL (by assumption) | with_reducible exact isi_intI | with_reducible exact isi_boolI | with_reducible exact rc_lenT (by assumption) | with_reducible exact isi_tup (by assumption) | with_reducible exact rv_eqL (by assumption) (by assumption) | with_reducible exact rv_neL (by assumption) (by assumption) | with_reducible exact rv_neT (by assumption) (by assumption) | with_reducible exact rv_ixL (by assumption) (by assumption) | with_reducible exact rv_ixT (by assumption) (by assumption) | with_reducible refine' ev_din ?_ ?_ (by assumption) | with_reducible refine' ev_dnotin ?_ ?_ (by assumption) | with_reducible refine' ev_dget ?_ ?_ (by assumption) (by assumption) | ((with_reducible show SpV _ _ _ _); assumption) | ((with_reducible show RV _ _ _ _ _); assumption) | ((with_reducible show RC _ _ _ _); assumption) | ((with_reducible show CDiv _ _); exact ⟨by omega, by omega⟩) | ((with_reducible show CMul _ _); first | exact .inl ⟨by omega, by omega⟩ | exact .inr ⟨by omega, by omega⟩) | ((with_reducible show CPow _ _); exact ⟨by omega, by omega, by first | decide | assumption | omega⟩) | ((with_reducible show (0 : Int) < _); omega) | ((with_reducible show (0 : Int) ≤ _); omega) | ((with_reducible show scal _ _ = true); rfl)))
          · rw [wi0, wj0]
            show (false || (false || !decide (x < y))) = true
            rw [decide_eq_false hxy]
            rfl
        · refine et_is (et_or (a := !inB i 0 (((ns.map V.int).length : Int) - 1)) (b := true) (by (repeat' (first | with_reducible exact ev_c | ((with_reducible show Ev (tVar _) _ _ _); exact ev_var rfl) | with_reducible exact ea_nil | with_reducible exact eo_none | with_reducible refine' ea_cons ?_ ?_ | with_reducible refine' eo_some ?_ | with_reducible refine' ev_and2 ?_ ?_ | with_reducible refine' ev_or2 ?_ ?_ | with_reducible refine' ev_notV ?_ | with_reducible exact ru_I | with_reducible refine' ev_un ?_ ?_ | with_reducible exact rv_I0 | with_reducible exact rv_isN | with_reducible exact rv_notN | with_reducible refine' rv_I ?_ | with_reducible refine' rv_eq ?_ | with_reducible refine' rv_ne ?_ | with_reducible refine' ev_op ?_ ?_ ?_ | with_reducible refine' ev_chain2 ?_ ?_ ?_ ?_ ?_ | with_reducible refine' et_B ?_ | with_reducible refine' et_test ?_ | with_reducible refine' et_and2 ?_ ?_ | with_reducible refine' et_or2 ?_ ?_ | with_reducible refine' et_not ?_ | with_reducible refine' ev_call ?_ ?_ | with_reducible refine' ev_callS ?_ ?_ | with_reducible refine' ev_cb ?_ ?_ | with_reducible exact isi_bool (by assumption) | with_reducible exact isi_int (by assumption) | with_reducible exact isi_list (by assumption) | with_reducible exact rc_len (by assumption) | with_reducible exact rc_sum (by assumption) | with_reducible exact rc_abs | with_reducible exact isi_listL (by assumption) | with_reducible exact isi_intI | with_reducible exact isi_boolI | with_reducible exact rc_lenT (by assumption) | with_reducible exact isi_tup (by assumption) | with_reducible exact rv_eqL (by assumption) (by assumption) | with_reducible exact rv_neL (by assumption) (by assumption) | with_reducible exact rv_neT (by assumption) (by assumption) | with_reducible exact rv_ixL (by assumption) (by assumption) | with_reducible exact rv_ixT (by assumption) (by assumption) | with_reducible refine' ev_din ?_ ?_ (by assumption) | with_reducible refine' ev_dnotin ?_ ?_ (by assumption) | with_reducible refine' ev_dget ?_ ?_ (by assumption) (by assumption) | ((with_reducible show SpV _ _ _ _); assumption) | ((with_reducible show RV _ _ _ _ _); assumption) | ((with_reducible show RC _ _ _ _); assumption) | ((with_reducible show CDiv _ _); exact ⟨by omega, by omega⟩) | ((with_reducible show CMul _ _); first | exact .inl ⟨by omega, by omega⟩ | exact .inr ⟨by omega, by omega⟩) | ((with_reducible show CPow _ _); exact ⟨by omega, by omega, by first | decide | assumption | omega⟩) | ((with_reducible show (0 : Int) < _); omega) | ((with_reducible show (0 : Int) ≤ _); omega) | ((with_reducible show scal _ _ = true); rfl)))) fun _ => et_is (et_or (a := !inB j 0 (((ns.map V.int).length : Int) - 1)) (b := false) (by (repeat' (first | with_reducible exact ev_c | ((with_reducible show Ev (tVar _) _ _ _); exact ev_var rfl) | with_reducible exact ea_nil | with_reducible exact eo_none | with_reducible refine' ea_cons ?_ ?_ | with_reducible refine' eo_some ?_ | with_reducible refine' ev_and2 ?_ ?_ | with_reducible refine' ev_or2 ?_ ?_ | with_reducible refine' ev_notV ?_ | with_reducible exact ru_I | with_reducible refine' ev_un ?_ ?_ | with_reducible exact rv_I0 | with_reducible exact rv_isN | with_reducible exact rv_notN | with_reducible refine' rv_I ?_ | with_reducible refine' rv_eq ?_ | with_reducible refine' rv_ne ?_ | with_reducible refine' ev_op ?_ ?_ ?_ | with_reducible refine' ev_chain2 ?_ ?_ ?_ ?_ ?_ | with_reducible refine' et_B ?_ | with_reducible refine' et_test ?_ | with_reducible refine' et_and2 ?_ ?_ | with_reducible refine' et_or2 ?_ ?_ | with_reducible refine' et_not ?_ | with_reducible refine' ev_call ?_ ?_ | with_reducible refine' ev_callS ?_ ?_ | with_reducible refine' ev_cb ?_ ?_ | with_reducible exact isi_bool (by assumption) | with_reducible exact isi_int (by assumption) | with_reducible exact isi_list (by assumption) | with_reducible exact rc_len (by assumption) | with_reducible exact rc_sum (by assumption) | with_reducible exact rc_abs | with_reducible exact isi_listL (by assumption) | with_reducible exact isi_intI | with_reducible exact isi_boolI | with_reducible exact rc_lenT (by assumption) | with_reducible exact isi_tup (by assumption) | with_reducible exact rv_eqL (by assumption) (by assumption) | with_reducible exact rv_neL (by assumption) (by assumption) | with_reducible exact rv_neT (by assumption) (by assumption) | with_reducible exact rv_ixL (by assumption) (by assumption) | with_reducible exact rv_ixT (by assumption) (by assumption) | with_reducible refine' ev_din ?_ ?_ (by assumption) | with_reducible refine' ev_dnotin ?_ ?_ (by assumption) | with_reducible refine' ev_dget ?_ ?_ (by assumption) (by assumption) | ((with_reducible show SpV _ _ _ _); assumption) | ((with_reducible show RV _ _ _ _ _); assumption) | ((with_reducible show RC _ _ _ _); assumption) | ((with_reducible show CDiv _ _); exact ⟨by omega, by omega⟩) | ((with_reducible show CMul _ _); first | exact .inl ⟨by omega, by omega⟩ | exact .inr ⟨by omega, by omega⟩) | ((with_reducible show CPow _ _); exact ⟨by omega, by omega, by first | decide | assumption | omega⟩) | ((with_reducible show (0 : Int) < _); omega) | ((with_reducible show (0 : Int) ≤ _); omega) | ((with_reducible show scal _ _ = true); rfl)))) (fun h => by rw [Bool.not_eq_false'] at h; exact absurd h wj0)) (by simpa using wj0)) (by simp)
      · refine et_is (et_or (a := !inB i 0 (((ns.map V.int).length : Int) - 1)) (b := false) (by (repeat' (first | with_reducible exact ev_c | ((with_reducible show Ev (tVar _) _ _ _); exact ev_var rfl) | with_reducible exact ea_nil | with_reducible exact eo_none | with_reducible refine' ea_cons ?_ ?_ | with_reducible refine' eo_some ?_ | with_reducible refine' ev_and2 ?_ ?_ | with_reducible refine' ev_or2 ?_ ?_ | with_reducible refine' ev_notV ?_ | with_reducible exact ru_I | with_reducible refine' ev_un ?_ ?_ | with_reducible exact rv_I0 | with_reducible exact rv_isN | with_reducible exact rv_notN | with_reducible refine' rv_I ?_ | with_reducible refine' rv_eq ?_ | with_reducible refine' rv_ne ?_ | with_reducible refine' ev_op ?_ ?_ ?_ | with_reducible refine' ev_chain2 ?_ ?_ ?_ ?_ ?_ | with_reducible refine' et_B ?_ | with_reducible refine' et_test ?_ | with_reducible refine' et_and2 ?_ ?_ | with_reducible refine' et_or2 ?_ ?_ | with_reducible refine' et_not ?_ | with_reducible refine' ev_call ?_ ?_ | with_reducible refine' ev_callS ?_ ?_ | with_reducible refine' ev_cb ?_ ?_ | with_reducible exact isi_bool (by assumption) | with_reducible exact isi_int (by assumption) | with_reducible exact isi_list (by assumption) | with_reducible exact rc_len (by assumption) | with_reducible exact rc_sum (by assumption) | with_reducible exact rc_abs | with_reducible exact isi_listL (by assumption) | with_reducible exact isi_intI | with_reducible exact isi_boolI | with_reducible exact rc_lenT (by assumption) | with_reducible exact isi_tup (by assumption) | with_reducible exact rv_eqL (by assumption) (by assumption) | with_reducible exact rv_neL (by assumption) (by assumption) | with_reducible exact rv_neT (by assumption) (by assumption) | with_reducible exact rv_ixL (by assumption) (by assumption) | with_reducible exact rv_ixT (by assumption) (by assumption) | with_reducible refine' ev_din ?_ ?_ (by assumption) | with_reducible refine' ev_dnotin ?_ ?_ (by assumption) | with_reducible refine' ev_dget ?_ ?_ (by assumption) (by assumption) | ((with_reducible show SpV _ _ _ _); assumption) | ((with_reducible show RV _ _ _ _ _); assumption) | ((with_reducible show RC _ _ _ _); assumption) | ((with_reducible show CDiv _ _); exact ⟨by omega, by omega⟩) | ((with_reducible show CMul _ _); first | exact .inl ⟨by omega, by omega⟩ | exact .inr ⟨by omega, by omega⟩) | ((with_reducible show CPow _ _); exact ⟨by omega, by omega, by first | decide | assumption | omega⟩) | ((with_reducible show (0 : Int) < _); omega) | ((with_reducible show (0 : Int) ≤ _); omega) | ((with_reducible show scal _ _ = true); rfl)))) (fun h => by rw [Bool.not_eq_false'] at h; exact absurd h wi0)) (by simpa using wi0)
    obtain ⟨x, y, rfl, rfl, hxy, hyn⟩ := hgood
    rw [swap_good hxy hyn] at q
    refine q_when (b := false) ?_ (fun h => by cases h) (fun _ H2 e2 => ?_)
    · apply et_is
      · (repeat' (first | with_reducible exact ev_c | ((with_reducible show Ev (tVar _) _ _ _); exact ev_var rfl) | with_reducible exact ea_nil | with_reducible exact eo_none | with_reducible refine' ea_cons ?_ ?_ | with_reducible refine' eo_some ?_ | with_reducible refine' ev_and2 ?_ ?_ | with_reducible refine' ev_or2 ?_ ?_ | with_reducible refine' ev_notV ?_ | with_reducible exact ru_I | with_reducible refine' ev_un ?_ ?_ | with_reducible exact rv_I0 | with_reducible exact rv_isN | with_reducible exact rv_notN | with_reducible refine' rv_I ?_ | with_reducible refine' rv_eq ?_ | with_reducible refine' rv_ne ?_ | with_reducible refine' ev_op ?_ ?_ ?_ | with_reducible refine' ev_chain2 ?_ ?_ ?_ ?_ ?_ | with_reducible refine' et_B ?_ | with_reducible refine' et_test ?_ | with_reducible refine' et_and2 ?_ ?_ | with_reducible refine' et_or2 ?_ ?_ | with_reducible refine' et_not ?_ | with_reducible refine' ev_call ?_ ?_ | with_reducible refine' ev_callS ?_ ?_ | with_reducible refine' ev_cb ?_ ?_ | with_reducible exact isi_bool (by assumption) | with_reducible exact isi_int (by assumption) | with_reducible exact isi_list (by assumption) | with_reducible exact rc_len (by assumption) | with_reducible exact rc_sum (by assumption) | with_reducible exact rc_abs | with_reducible exact isi_listL (by assumption) | with_reducible exact isi_intI | with_reducible exact isi_boolI | with_reducible exact rc_lenT (by assumption) | with_reducible exact isi_tup (by assumption) | with_reducible exact rv_eqL (by assumption) (by assumption) | with_reducible exact rv_neL (by assumption) (by assumption) | with_reducible exact rv_neT (by assumption) (by assumption) | with_reducible exact rv_ixL (by assumption) (by assumption) | with_reducible exact rv_ixT (by assumption) (by assumption) | with_reducible refine' ev_din ?_ ?_ (by assumption) | with_reducible refine' ev_dnotin ?_ ?_ (by assumption) | with_reducible refine' ev_dget ?_ ?_ (by assumption) (by assumption) | ((with_reducible show SpV _ _ _ _); assumption) | ((with_reducible show RV _ _ _ _ _); assumption) | ((with_reducible show RC _ _ _ _); assumption) | ((with_reducible show CDiv _ _); exact ⟨by omega, by omega⟩) | ((with_reducible show CMul _ _); first | exact .inl ⟨by omega, by omega⟩ | exact .inr ⟨by omega, by omega⟩) | ((with_reducible show CPow _ _); exact ⟨by omega, by omega, by first | decide | assumption | omega⟩) | ((with_reducible show (0 : Int) < _); omega) | ((with_reducible show (0 : Int) ≤ _); omega) | ((with_reducible show scal _ _ = true); rfl)))
      · rw [inB_is, inB_is, decide_eq_true (show (0 : Int) ≤ (x : Int) by omega), decide_eq_true (show (0 : Int) ≤ (y : Int) by omega), decide_eq_true (show (x : Int) ≤ ((ns.map V.int).length : Int) - 1 by omega), decide_eq_true (show (y : Int) ≤ ((ns.map V.int).length : Int) - 1 by omega)]
        show (false || (false || !decide ((x : Int) < (y : Int)))) = false
        rw [decide_eq_true (by omega)]
        rfl
    have s2 := ex_l e2 s1
    refine q_asgL (xs := ns.map V.int) (el_cb (by (repeat' (first | with_reducible exact ev_c | ((with_reducible show Ev (tVar _) _ _ _); exact ev_var rfl) | with_reducible exact ea_nil | with_reducible exact eo_none | with_reducible refine' ea_cons ?_ ?_ | with_reducible refine' eo_some ?_ | with_reducible refine' ev_and2 ?_ ?_ | with_reducible refine' ev_or2 ?_ ?_ | with_reducible refine' ev_notV ?_ | with_reducible exact ru_I | with_reducible refine' ev_un ?_ ?_ | with_reducible exact rv_I0 | with_reducible exact rv_isN | with_reducible exact rv_notN | with_reducible refine' rv_I ?_ | with_reducible refine' rv_eq ?_ | with_reducible refine' rv_ne ?_ | with_reducible refine' ev_op ?_ ?_ ?_ | with_reducible refine' ev_chain2 ?_ ?_ ?_ ?_ ?_ | with_reducible refine' et_B ?_ | with_reducible refine' et_test ?_ | with_reducible refine' et_and2 ?_ ?_ | with_reducible refine' et_or2 ?_ ?_ | with_reducible refine' et_not ?_ | with_reducible refine' ev_call ?_ ?_ | with_reducible refine' ev_callS ?_ ?_ | with_reducible refine' ev_cb ?_ ?_ | with_reducible exact isi_bool (by assumption) | with_reducible exact isi_int (by assumption) | with_reducible exact isi_list (by assumption) | with_reducible exact rc_len (by assumption) | with_reducible exact rc_sum (by assumption) | with_reducible exact rc_abs | with_reducible exact isi_listL (by assumption) | with_reducible exact isi_intI | with_reducible exact isi_boolI | with_reducible exact rc_lenT (by assumption) | with_reducible exact isi_tup (by assumption) | with_reducible exact rv_eqL (by assumption) (by assumption) | with_reducible exact rv_neL (by assumption) (by assumption) | with_reducible exact rv_neT (by assumption) (by assumption) | with_reducible exact rv_ixL (by assumption) (by assumption) | with_reducible exact rv_ixT (by assumption) (by assumption) | with_reducible refine' ev_din ?_ ?_ (by assumption) | with_reducible refine' ev_dnotin ?_ ?_ (by assumption) | with_reducible refine' ev_dget ?_ ?_ (by assumption) (by assumption) | ((with_reducible show SpV _ _ _ _); assumption) | ((with_reducible show RV _ _ _ _ _); assumption) | ((with_reducible show RC _ _ _ _); assumption) | ((with_reducible show CDiv _ _); exact ⟨by omega, by omega⟩) | ((with_reducible show CMul _ _); first | exact .inl ⟨by omega, by omega⟩ | exact .inr ⟨by omega, by omega⟩) | ((with_reducible show CPow _ _); exact ⟨by omega, by omega, by first | decide | assumption | omega⟩) | ((with_reducible show (0 : Int) < _); omega) | ((with_reducible show (0 : Int) ≤ _); omega) | ((with_reducible show scal _ _ = true); rfl)))) (rcl_list s2)) fun p H3 hp e3 h3' => ?_
    have s3 := ex_l e3 s2
    have gx := atI_int (ns := ns) (j := x) (by omega)
    have gy := atI_int (ns := ns) (j := y) (by omega)
    have p1 : H1 p = none := fresh_back e2 hp
    refine q_setL (j := x) (v := .int ((y : Int) + ns.getD y 0 - (x : Int))) h3' (ev_is (v := .int (ns.getD y 0 + (y : Int) - (x : Int))) (by (repeat' (first | with_reducible exact ev_c | ((with_reducible show Ev (tVar _) _ _ _); exact ev_var rfl) | with_reducible exact ea_nil | with_reducible exact eo_none | with_reducible refine' ea_cons ?_ ?_ | with_reducible refine' eo_some ?_ | with_reducible refine' ev_and2 ?_ ?_ | with_reducible refine' ev_or2 ?_ ?_ | with_reducible refine' ev_notV ?_ | with_reducible exact ru_I | with_reducible refine' ev_un ?_ ?_ | with_reducible exact rv_I0 | with_reducible exact rv_isN | with_reducible exact rv_notN | with_reducible refine' rv_I ?_ | with_reducible refine' rv_eq ?_ | with_reducible refine' rv_ne ?_ | with_reducible refine' ev_op ?_ ?_ ?_ | with_reducible refine' ev_chain2 ?_ ?_ ?_ ?_ ?_ | with_reducible refine' et_B ?_ | with_reducible refine' et_test ?_ | with_reducible refine' et_and2 ?_ ?_ | with_reducible refine' et_or2 ?_ ?_ | with_reducible refine' et_not ?_ | with_reducible refine' ev_call ?_ ?_ | with_reducible refine' ev_callS ?_ ?_ | with_reducible refine' ev_cb ?_ ?_ | with_reducible exact isi_bool (by assumption) | with_reducible exact isi_int (by assumption) | with_reducible exact isi_list (by assumption) | with_reducible exact rc_len (by assumption) | with_reducible exact rc_sum (by assumption) | with_reducible exact rc_abs | with_reducible exact isi_listL (by assumption) | with_reducible exact isi_intI | with_reducible exact isi_boolI | with_reducible exact rc_lenT (by assumption) | with_reducible exact isi_tup (by assumption) | with_reducible exact rv_eqL (by assumption) (by assumption) | with_reducible exact rv_neL (by assumption) (by assumption) | with_reducible exact rv_neT (by assumption) (by assumption) | with_reducible exact rv_ixL (by assumption) (by assumption) | with_reducible exact rv_ixT (by assumption) (by assumption) | with_reducible refine' ev_din ?_ ?_ (by assumption) | with_reducible refine' ev_dnotin ?_ ?_ (by assumption) | with_reducible refine' ev_dget ?_ ?_ (by assumption) (by assumption) | ((with_reducible show SpV _ _ _ _); assumption) | ((with_reducible show RV _ _ _ _ _); assumption) | ((with_reducible show RC _ _ _ _); assumption) | ((with_reducible show CDiv _ _); exact ⟨by omega, by omega⟩) | ((with_reducible show CMul _ _); first | exact .inl ⟨by omega, by omega⟩ | exact .inr ⟨by omega, by omega⟩) | ((with_reducible show CPow _ _); exact ⟨by omega, by omega, by first | decide | assumption | omega⟩) | ((with_reducible show (0 : Int) < _); omega) | ((with_reducible show (0 : Int) ≤ _); omega) | ((with_reducible show scal _ _ = true); rfl)))) (congrArg V.int (by omega))) (by (repeat' (first | with_reducible exact ev_c | ((with_reducible show Ev (tVar _) _ _ _); exact ev_var rfl) | with_reducible exact ea_nil | with_reducible exact eo_none | with_reducible refine' ea_cons ?_ ?_ | with_reducible refine' eo_some ?_ | with_reducible refine' ev_and2 ?_ ?_ | with_reducible refine' ev_or2 ?_ ?_ | with_reducible refine' ev_notV ?_ | with_reducible exact ru_I | with_reducible refine' ev_un ?_ ?_ | with_reducible exact rv_I0 | with_reducible exact rv_isN | with_reducible exact rv_notN | with_reducible refine' rv_I ?_ | with_reducible refine' rv_eq ?_ | with_reducible refine' rv_ne ?_ | with_reducible refine' ev_op ?_ ?_ ?_ | with_reducible refine' ev_chain2 ?_ ?_ ?_ ?_ ?_ | with_reducible refine' et_B ?_ | with_reducible refine' et_test ?_ | with_reducible refine' et_and2 ?_ ?_ | with_reducible refine' et_or2 ?_ ?_ | with_reducible refine' et_not ?_ | with_reducible refine' ev_call ?_ ?_ | with_reducible refine' ev_callS ?_ ?_ | with_reducible refine' ev_cb ?_ ?_ | with_reducible exact isi_bool (by assumption) | with_reducible exact isi_int (by assumption) | with_reducible exact isi_list (by assumption) | with_reducible exact rc_len (by assumption) | with_reducible exact rc_sum (by assumption) | with_reducible exact rc_abs | with_reducible exact isi_listL (by assumption) | with_reducible exact isi_intI | with_reducible exact isi_boolI | with_reducible exact rc_lenT (by assumption) | with_reducible exact isi_tup (by assumption) | with_reducible exact rv_eqL (by assumption) (by assumption) | with_reducible exact rv_neL (by assumption) (by assumption) | with_reducible exact rv_neT (by assumption) (by assumption) | with_reducible exact rv_ixL (by assumption) (by assumption) | with_reducible exact rv_ixT (by assumption) (by assumption) | with_reducible refine' ev_din ?_ ?_ (by assumption) | with_reducible refine' ev_dnotin ?_ ?_ (by assumption) | with_reducible refine' ev_dget ?_ ?_ (by assumption) (by assumption) | ((with_reducible show SpV _ _ _ _); assumption) | ((with_reducible show RV _ _ _ _ _); assumption) | ((with_reducible show RC _ _ _ _); assumption) | ((with_reducible show CDiv _ _); exact ⟨by omega, by omega⟩) | ((with_reducible show CMul _ _); first | exact .inl ⟨by omega, by omega⟩ | exact .inr ⟨by omega, by omega⟩) | ((with_reducible show CPow _ _); exact ⟨by omega, by omega, by first | decide | assumption | omega⟩) | ((with_reducible show (0 : Int) < _); omega) | ((with_reducible show (0 : Int) ≤ _); omega) | ((with_reducible show scal _ _ = true); rfl)))) (by (repeat' (first | with_reducible exact ev_c | ((with_reducible show Ev (tVar _) _ _ _); exact ev_var rfl) | with_reducible exact ea_nil | with_reducible exact eo_none | with_reducible refine' ea_cons ?_ ?_ | with_reducible refine' eo_some ?_ | with_reducible refine' ev_and2 ?_ ?_ | with_reducible refine' ev_or2 ?_ ?_ | with_reducible refine' ev_notV ?_ | with_reducible exact ru_I | with_reducible refine' ev_un ?_ ?_ | with_reducible exact rv_I0 | with_reducible exact rv_isN | with_reducible exact rv_notN | with_reducible refine' rv_I ?_ | with_reducible refine' rv_eq ?_ | with_reducible refine' rv_ne ?_ | with_reducible refine' ev_op ?_ ?_ ?_ | with_reducible refine' ev_chain2 ?_ ?_ ?_ ?_ ?_ | with_reducible refine' et_B ?_ | with_reducible refine' et_test ?_ | with_reducible refine' et_and2 ?_ ?_ | with_reducible refine' et_or2 ?_ ?_ | with_reducible refine' et_not ?_ | with_reducible refine' ev_call ?_ ?_ | with_reducible refine' ev_callS ?_ ?_ | with_reducible refine' ev_cb ?_ ?_ | with_reducible exact isi_bool (by assumption) | with_reducible exact isi_int (by assumption) | with_reducible exact isi_list (by assumption) | with_reducible exact rc_len (by assumption) | with_reducible exact rc_sum (by assumption) | with_reducible exact rc_abs | with_reducible exact isi_listL (by assumption) | with_reducible exact isi_intI | with_reducible exact isi_boolI | with_reducible exact rc_lenT (by assumption) | with_reducible exact isi_tup (by assumption) | with_reducible exact rv_eqL (by assumption) (by assumption) | with_reducible exact rv_neL (by assumption) (by assumption) | with_reducible exact rv_neT (by assumption) (by assumption) | with_reducible exact rv_ixL (by assumption) (by assumption) | with_reducible exact rv_ixT (by assumption) (by assumption) | with_reducible refine' ev_din ?_ ?_ (by assumption) | with_reducible refine' ev_dnotin ?_ ?_ (by assumption) | with_reducible refine' ev_dget ?_ ?_ (by assumption) (by assumption) | ((with_reducible show SpV _ _ _ _); assumption) | ((with_reducible show RV _ _ _ _ _); assumption) | ((with_reducible show RC _ _ _ _); assumption) | ((with_reducible show CDiv _ _); exact ⟨by omega, by omega⟩) | ((with_reducible show CMul _ _); first | exact .inl ⟨by omega, by omega⟩ | exact .inr ⟨by omega, by omega⟩) | ((with_reducible show CPow _ _); exact ⟨by omega, by omega, by first | decide | assumption | omega⟩) | ((with_reducible show (0 : Int) < _); omega) | ((with_reducible show (0 : Int) ≤ _); omega) | ((with_reducible show scal _ _ = true); rfl)))) (by rw [hl]; omega) fun H4 e4 => ?_
    have e14 : Ex H1 (upd H4 p (.lst ((ns.map V.int).set x (.int ((y : Int) + ns.getD y 0 - (x : Int)))))) := Ex.mut ((e2.trans e3).trans e4) p1
    have h4 : (upd H4 p (.lst ((ns.map V.int).set x (.int ((y : Int) + ns.getD y 0 - (x : Int)))))) p = some (.lst ((ns.set x ((y : Int) + ns.getD y 0 - (x : Int))).map V.int)) := by
      rw [upd_same, List.map_set]
    generalize upd H4 p (.lst ((ns.map V.int).set x (.int ((y : Int) + ns.getD y 0 - (x : Int))))) = H5 at *
    have s5 := ex_l e14 s1
    refine q_setL (j := y) (v := .int ((x : Int) + ns.getD x 0 - (y : Int))) h4 (ev_is (v := .int (ns.getD x 0 + (x : Int) - (y : Int))) (by (repeat' (first | with_reducible exact ev_c | ((with_reducible show Ev (tVar _) _ _ _); exact ev_var rfl) | with_reducible exact ea_nil | with_reducible exact eo_none | with_reducible refine' ea_cons ?_ ?_ | with_reducible refine' eo_some ?_ | with_reducible refine' ev_and2 ?_ ?_ | with_reducible refine' ev_or2 ?_ ?_ | with_reducible refine' ev_notV ?_ | with_reducible exact ru_I | with_reducible refine' ev_un ?_ ?_ | with_reducible exact rv_I0 | with_reducible exact rv_isN | with_reducible exact rv_notN | with_reducible refine' rv_I ?_ | with_reducible refine' rv_eq ?_ | with_reducible refine' rv_ne ?_ | with_reducible refine' ev_op ?_ ?_ ?_ | with_reducible refine' ev_chain2 ?_ ?_ ?_ ?_ ?_ | with_reducible refine' et_B ?_ | with_reducible refine' et_test ?_ | with_reducible refine' et_and2 ?_ ?_ | with_reducible refine' et_or2 ?_ ?_ | with_reducible refine' et_not ?_ | with_reducible refine' ev_call ?_ ?_ | with_reducible refine' ev_callS ?_ ?_ | with_reducible refine' ev_cb ?_ ?_ | with_reducible exact isi_bool (by assumption) | with_reducible exact isi_int (by assumption) | with_reducible exact isi_list (by assumption) | with_reducible exact rc_len (by assumption) | with_reducible exact rc_sum (by assumption) | with_reducible exact rc_abs | with_reducible exact isi_listL (by assumption) | with_reducible exact isi_intI | with_reducible exact isi_boolI | with_reducible exact rc_lenT (by assumption) | with_reducible exact isi_tup (by assumption) | with_reducible exact rv_eqL (by assumption) (by assumption) | with_reducible exact rv_neL (by assumption) (by assumption) | with_reducible exact rv_neT (by assumption) (by assumption) | with_reducible exact rv_ixL (by assumption) (by assumption) | with_reducible exact rv_ixT (by assumption) (by assumption) | with_reducible refine' ev_din ?_ ?_ (by assumption) | with_reducible refine' ev_dnotin ?_ ?_ (by assumption) | with_reducible refine' ev_dget ?_ ?_ (by assumption) (by assumption) | ((with_reducible show SpV _ _ _ _); assumption) | ((with_reducible show RV _ _ _ _ _); assumption) | ((with_reducible show RC _ _ _ _); assumption) | ((with_reducible show CDiv _ _); exact ⟨by omega, by omega⟩) | ((with_reducible show CMul _ _); first | exact .inl ⟨by omega, by omega⟩ | exact .inr ⟨by omega, by omega⟩) | ((with_reducible show CPow _ _); exact ⟨by omega, by omega, by first | decide | assumption | omega⟩) | ((with_reducible show (0 : Int) < _); omega) | ((with_reducible show (0 : Int) ≤ _); omega) | ((with_reducible show scal _ _ = true); rfl)))) (congrArg V.int (by omega))) (by (repeat' (first | with_reducible exact ev_c | ((with_reducible show Ev (tVar _) _ _ _); exact ev_var rfl) | with_reducible exact ea_nil | with_reducible exact eo_none | with_reducible refine' ea_cons ?_ ?_ | with_reducible refine' eo_some ?_ | with_reducible refine' ev_and2 ?_ ?_ | with_reducible refine' ev_or2 ?_ ?_ | with_reducible refine' ev_notV ?_ | with_reducible exact ru_I | with_reducible refine' ev_un ?_ ?_ | with_reducible exact rv_I0 | with_reducible exact rv_isN | with_reducible exact rv_notN | with_reducible refine' rv_I ?_ | with_reducible refine' rv_eq ?_ | with_reducible refine' rv_ne ?_ | with_reducible refine' ev_op ?_ ?_ ?_ | with_reducible refine' ev_chain2 ?_ ?_ ?_ ?_ ?_ | with_reducible refine' et_B ?_ | with_reducible refine' et_test ?_ | with_reducible refine' et_and2 ?_ ?_ | with_reducible refine' et_or2 ?_ ?_ | with_reducible refine' et_not ?_ | with_reducible refine' ev_call ?_ ?_ | with_reducible refine' ev_callS ?_ ?_ | with_reducible refine' ev_cb ?_ ?_ | with_reducible exact isi_bool (by assumption) | with_reducible exact isi_int (by assumption) | with_reducible exact isi_list (by assumption) | with_reducible exact rc_len (by assumption) | with_reducible exact rc_sum (by assumption) | with_reducible exact rc_abs | with_reducible exact isi_listL (by assumption) | with_reducible exact isi_intI | with_reducible exact isi_boolI | with_reducible exact rc_lenT (by assumption) | with_reducible exact isi_tup (by assumption) | with_reducible exact rv_eqL (by assumption) (by assumption) | with_reducible exact rv_neL (by assumption) (by assumption) | with_reducible exact rv_neT (by assumption) (by assumption) | with_reducible exact rv_ixL (by assumption) (by assumption) | with_reducible exact rv_ixT (by assumption) (by assumption) | with_reducible refine' ev_din ?_ ?_ (by assumption) | with_reducible refine' ev_dnotin ?_ ?_ (by assumption) | with_reducible refine' ev_dget ?_ ?_ (by assumption) (by assumption) | ((with_reducible show SpV _ _ _ _); assumption) | ((with_reducible show RV _ _ _ _ _); assumption) | ((with_reducible show RC _ _ _ _); assumption) | ((with_reducible show CDiv _ _); exact ⟨by omega, by omega⟩) | ((with_reducible show CMul _ _); first | exact .inl ⟨by omega, by omega⟩ | exact .inr ⟨by omega, by omega⟩) | ((with_reducible show CPow _ _); exact ⟨by omega, by omega, by first | decide | assumption | omega⟩) | ((with_reducible show (0 : Int) < _); omega) | ((with_reducible show (0 : Int) ≤ _); omega) | ((with_reducible show scal _ _ = true); rfl)))) (by (repeat' (first | with_reducible exact ev_c | ((with_reducible show Ev (tVar _) _ _ _); exact ev_var rfl) | with_reducible exact ea_nil | with_reducible exact eo_none | with_reducible refine' ea_cons ?_ ?_ | with_reducible refine' eo_some ?_ | with_reducible refine' ev_and2 ?_ ?_ | with_reducible refine' ev_or2 ?_ ?_ | with_reducible refine' ev_notV ?_ | with_reducible exact ru_I | with_reducible refine' ev_un ?_ ?_ | with_reducible exact rv_I0 | with_reducible exact rv_isN | with_reducible exact rv_notN | with_reducible refine' rv_I ?_ | with_reducible refine' rv_eq ?_ | with_reducible refine' rv_ne ?_ | with_reducible refine' ev_op ?_ ?_ ?_ | with_reducible refine' ev_chain2 ?_ ?_ ?_ ?_ ?_ | with_reducible refine' et_B ?_ | with_reducible refine' et_test ?_ | with_reducible refine' et_and2 ?_ ?_ | with_reducible refine' et_or2 ?_ ?_ | with_reducible refine' et_not ?_ | with_reducible refine' ev_call ?_ ?_ | with_reducible refine' ev_callS ?_ ?_ | with_reducible refine' ev_cb ?_ ?_ | with_reducible exact isi_bool (by assumption) | with_reducible exact isi_int (by assumption) | with_reducible exact isi_list (by assumption) | with_reducible exact rc_len (by assumption) | with_reducible exact rc_sum (by assumption) | with_reducible exact rc_abs | with_reducible exact isi_listL (by assumption) | with_reducible exact isi_intI | with_reducible exact isi_boolI | with_reducible exact rc_lenT (by assumption) | with_reducible exact isi_tup (by assumption) | with_reducible exact rv_eqL (by assumption) (by assumption) | with_reducible exact rv_neL (by assumption) (by assumption) | with_reducible exact rv_neT (by assumption) (by assumption) | with_reducible exact rv_ixL (by assumption) (by assumption) | with_reducible exact rv_ixT (by assumption) (by assumption) | with_reducible refine' ev_din ?_ ?_ (by assumption) | with_reducible refine' ev_dnotin ?_ ?_ (by assumption) | with_reducible refine' ev_dget ?_ ?_ (by assumption) (by assumption) | ((with_reducible show SpV _ _ _ _); assumption) | ((with_reducible show RV _ _ _ _ _); assumption) | ((with_reducible show RC _ _ _ _); assumption) | ((with_reducible show CDiv _ _); exact ⟨by omega, by omega⟩) | ((with_reducible show CMul _ _); first | exact .inl ⟨by omega, by omega⟩ | exact .inr ⟨by omega, by omega⟩) | ((with_reducible show CPow _ _); exact ⟨by omega, by omega, by first | decide | assumption | omega⟩) | ((with_reducible show (0 : Int) < _); omega) | ((with_reducible show (0 : Int) ≤ _); omega) | ((with_reducible show scal _ _ = true); rfl)))) (by rw [List.length_map, List.length_set]; omega) fun H6 e6 => ?_
    refine s_retK (p := p) (ns := swapI ns x (y : Int) y) (by (repeat' (first | with_reducible exact ev_c | ((with_reducible show Ev (tVar _) _ _ _); exact ev_var rfl) | with_reducible exact ea_nil | with_reducible exact eo_none | with_reducible refine' ea_cons ?_ ?_ | with_reducible refine' eo_some ?_ | with_reducible refine' ev_and2 ?_ ?_ | with_reducible refine' ev_or2 ?_ ?_ | with_reducible refine' ev_notV ?_ | with_reducible exact ru_I | with_reducible refine' ev_un ?_ ?_ | with_reducible exact rv_I0 | with_reducible exact rv_isN | with_reducible exact rv_notN | with_reducible refine' rv_I ?_ | with_reducible refine' rv_eq ?_ | with_reducible refine' rv_ne ?_ | with_reducible refine' ev_op ?_ ?_ ?_ | with_reducible refine' ev_chain2 ?_ ?_ ?_ ?_ ?_ | with_reducible refine' et_B ?_ | with_reducible refine' et_test ?_ | with_reducible refine' et_and2 ?_ ?_ | with_reducible refine' et_or2 ?_ ?_ | with_reducible refine' et_not ?_ | with_reducible refine' ev_call ?_ ?_ | with_reducible refine' ev_callS ?_ ?_ | with_reducible refine' ev_cb ?_ ?_ | with_reducible exact isi_bool (by assumption) | with_reducible exact isi_int (by assumption) | with_reducible exact isi_list (by assumption) | with_reducible exact rc_len (by assumption) | with_reducible exact rc_sum (by assumption) | with_reducible exact rc_abs | with_reducible exact isi_listL (by assumption) | with_reducible exact isi_intI | with_reducible exact isi_boolI | with_reducible exact rc_lenT (by assumption) | with_reducible exact isi_tup (by assumption) | with_reducible exact rv_eqL (by assumption) (by assumption) | with_reducible exact rv_neL (by assumption) (by assumption) | with_reducible exact rv_neT (by assumption) (by assumption) | with_reducible exact rv_ixL (by assumption) (by assumption) | with_reducible exact rv_ixT (by assumption) (by assumption) | with_reducible refine' ev_din ?_ ?_ (by assumption) | with_reducible refine' ev_dnotin ?_ ?_ (by assumption) | with_reducible refine' ev_dget ?_ ?_ (by assumption) (by assumption) | ((with_reducible show SpV _ _ _ _); assumption) | ((with_reducible show RV _ _ _ _ _); assumption) | ((with_reducible show RC _ _ _ _); assumption) | ((with_reducible show CDiv _ _); exact ⟨by omega, by omega⟩) | ((with_reducible show CMul _ _); first | exact .inl ⟨by omega, by omega⟩ | exact .inr ⟨by omega, by omega⟩) | ((with_reducible show CPow _ _); exact ⟨by omega, by omega, by first | decide | assumption | omega⟩) | ((with_reducible show (0 : Int) < _); omega) | ((with_reducible show (0 : Int) ≤ _); omega) | ((with_reducible show scal _ _ = true); rfl)))) ?_ (e1.trans (Ex.mut (e14.trans e6) p1)) (fresh_back e1 p1) q rfl
    rw [upd_same, ← List.map_set]
    rfl

def sp_exchange (K : PySem.W.Frag) : Sp := fun vs H Q E => ∃ (p : Addr) (ns : List Int) (k : Nat), vs = [.ref p, .int (k : Int)] ∧ H p = some (.lst (ns.map V.int)) ∧ k < ns.length ∧ ns.length ≤ 1000 ∧ ∀ H2, H2 p = some (.lst ((exI ns k).map V.int)) → (∀ H0, Ex H0 H → H0 p = none → Ex H0 H2) → Q .non H2
theorem sc_exchange : FnScope ["row", "k", "beside", "first"] ["row", "k"] (defScope s_exchange) := ⟨rfl, rfl, rfl, by decide +kernel, rfl, by decide +kernel, by decide +kernel⟩
theorem ok_exchange {P : Program} {w : World} {K : PySem.W.Frag} {mg : Str → Option Value} {base : Heap} (T : TXT K mg) : OK P w K mg base "exchange" ["row", "k"] 1 (sp_exchange K) := by
  obtain ⟨fd, F⟩ := T.def_ 14
  refine ⟨_, fd, T.glo 13, F.kp, F.bindsN (fun _ _ _ _ _ _ us hl => match us, hl with | [_, _], _ => rfl), F.ok sc_exchange (fun vs H Q E h => ?_) (fun cdv A outer s H vs Q E hr h => ?_), F.bindsA (fun _ _ _ _ _ _ us hl => match us, hl with | [_, _], _ => rfl)⟩
  · first | (obtain ⟨rfl, _⟩ := h; rfl) | (obtain ⟨_, rfl, _⟩ := h; rfl) | (obtain ⟨_, _, rfl, _⟩ := h; rfl) | (obtain ⟨_, _, _, rfl, _⟩ := h; rfl) | (obtain ⟨_, _, _, _, rfl, _⟩ := h; rfl) | (obtain ⟨_, _, _, _, _, rfl, _⟩ := h; rfl) | (obtain ⟨_, _, _, _, _, _, rfl, _⟩ := h; rfl) | (obtain ⟨_, _, _, _, _, _, _, rfl, _⟩ := h; rfl) | (obtain ⟨_, _, _, _, _, _, _, _, rfl, _⟩ := h; rfl)
  · replace F : FunD K "exchange" "exchange" (defArgs s_exchange) (defBody s_exchange) (defScope s_exchange) [] [] (He.ga K "exchange") fd := F
    refine ⟨_, (pss_cons (ps_set (i := 2) sc_exchange.nd rfl (Or.inl rfl) (pe_op op_mod (pe_op op_add (pv 1) pe_int) (pe_callB (id := "len") (k_len K) (by rfl) (T.free 43) (by decide +kernel) (pa_cons (pv 0) pa_nil))))
      (pss_cons (ps_set (i := 3) sc_exchange.nd rfl (Or.inl rfl) (pe_ix (k_ixL K) (pv 0) (pv 1) (fun _ _ => rfl)))
      (pss_cons (ps_asg (pe_op op_add (pe_ix (k_ixL K) (pv 0) (pv 2) (fun _ _ => rfl)) pe_int) (pg_sub (pv 0) (pv 1) set_list))
      (pss_one (ps_asg (pe_op op_sub (pv 3) pe_int) (pg_sub (pv 0) (pv 2) set_list)))))), ?_⟩
    obtain ⟨p, ns, k, rfl, hp, hk, hn, q⟩ := h
    dsimp only [cxOf, L2.start, List.map_cons, List.map_nil, List.length_cons, List.length_nil, Nat.reduceAdd, Nat.reduceSub, List.replicate_succ, List.replicate_zero, List.cons_append, List.nil_append, Nat.zero_add, List.reduceReplicate, List.map]
    have s0 : SqL K H p (ns.map V.int) := sq_of hp
    have hl := List.length_map (as := ns) V.int
    have eb : (((k : Int) + 1) % ((ns.map V.int).length : Int)) = (((k + 1) % ns.length : Nat) : Int) := by
      rw [hl, Int.natCast_emod, Int.natCast_add]
      rfl
    have hb : (k + 1) % ns.length < ns.length := Nat.mod_lt _ (by omega)
    refine q_asg (v := .int (((k + 1) % ns.length : Nat) : Int)) (ev_is (v := .int (((k : Int) + 1) % ((ns.map V.int).length : Int))) (by (repeat' (first | with_reducible exact ev_c | ((with_reducible show Ev (tVar _) _ _ _); exact ev_var rfl) | with_reducible exact ea_nil | with_reducible exact eo_none | with_reducible refine' ea_cons ?_ ?_ | with_reducible refine' eo_some ?_ | with_reducible refine' ev_and2 ?_ ?_ | with_reducible refine' ev_or2 ?_ ?_ | with_reducible refine' ev_notV ?_ | with_reducible exact ru_I | with_reducible refine' ev_un ?_ ?_ | with_reducible exact rv_I0 | with_reducible exact rv_isN | with_reducible exact rv_notN | with_reducible refine' rv_I ?_ | with_reducible refine' rv_eq ?_ | with_reducible refine' rv_ne ?_ | with_reducible refine' ev_op ?_ ?_ ?_ | with_reducible refine' ev_chain2 ?_ ?_ ?_ ?_ ?_ | with_reducible refine' et_B ?_ | with_reducible refine' et_test ?_ | with_reducible refine' et_and2 ?_ ?_ | with_reducible refine' et_or2 ?_ ?_ | with_reducible refine' et_not ?_ | with_reducible refine' ev_call ?_ ?_ | with_reducible refine' ev_callS ?_ ?_ | with_reducible refine' ev_cb ?_ ?_ | with_reducible exact isi_bool (by assumption) | with_reducible exact isi_int (by assumption) | with_reducible exact isi_list (by assumption) | with_reducible exact rc_len (by assumption) | with_reducible exact rc_sum (by assumption) | with_reducible exact rc_abs | with_reducible exact isi_listL (by assumption) | with_reducible exact isi_intI | with_reducible exact isi_boolI | with_reducible exact rc_lenT (by assumption) | with_reducible exact isi_tup (by assumption) | with_reducible exact rv_eqL (by assumption) (by assumption) | with_reducible exact rv_neL (by assumption) (by assumption) | with_reducible exact rv_neT (by assumption) (by assumption) | with_reducible exact rv_ixL (by assumption) (by assumption) | with_reducible exact rv_ixT (by assumption) (by assumption) | with_reducible refine' ev_din ?_ ?_ (by assumption) | with_reducible refine' ev_dnotin ?_ ?_ (by assumption) | with_reducible refine' ev_dget ?_ ?_ (by assumption) (by assumption) | ((with_reducible show SpV _ _ _ _); assumption) | ((with_reducible show RV _ _ _ _ _); assumption) | ((with_reducible show RC _ _ _ _); assumption) | ((with_reducible show CDiv _ _); exact ⟨by omega, by omega⟩) | ((with_reducible show CMul _ _); first | exact .inl ⟨by omega, by omega⟩ | exact .inr ⟨by omega, by omega⟩) | ((with_reducible show CPow _ _); exact ⟨by omega, by omega, by first | decide | assumption | omega⟩) | ((with_reducible show (0 : Int) < _); omega) | ((with_reducible show (0 : Int) ≤ _); omega) | ((with_reducible show scal _ _ = true); rfl)))) (congrArg V.int eb)) fun H1 e1 => ?_
    have s1 := ex_l e1 s0
    have gk := atI_int hk
    have gb := atI_int hb
    refine q_asg (v := .int (ns.getD k 0)) (by (repeat' (first | with_reducible exact ev_c | ((with_reducible show Ev (tVar _) _ _ _); exact ev_var rfl) | with_reducible exact ea_nil | with_reducible exact eo_none | with_reducible refine' ea_cons ?_ ?_ | with_reducible refine' eo_some ?_ | with_reducible refine' ev_and2 ?_ ?_ | with_reducible refine' ev_or2 ?_ ?_ | with_reducible refine' ev_notV ?_ | with_reducible exact ru_I | with_reducible refine' ev_un ?_ ?_ | with_reducible exact rv_I0 | with_reducible exact rv_isN | with_reducible exact rv_notN | with_reducible refine' rv_I ?_ | with_reducible refine' rv_eq ?_ | with_reducible refine' rv_ne ?_ | with_reducible refine' ev_op ?_ ?_ ?_ | with_reducible refine' ev_chain2 ?_ ?_ ?_ ?_ ?_ | with_reducible refine' et_B ?_ | with_reducible refine' et_test ?_ | with_reducible refine' et_and2 ?_ ?_ | with_reducible refine' et_or2 ?_ ?_ | with_reducible refine' et_not ?_ | with_reducible refine' ev_call ?_ ?_ | with_reducible refine' ev_callS ?_ ?_ | with_reducible refine' ev_cb ?_ ?_ | with_reducible exact isi_bool (by assumption) | with_reducible exact isi_int (by assumption) | with_reducible exact isi_list (by assumption) | with_reducible exact rc_len (by assumption) | with_reducible exact rc_sum (by assumption) | with_reducible exact rc_abs | with_reducible exact isi_listL (by assumption) | with_reducible exact isi_intI | with_reducible exact isi_boolI | with_reducible exact rc_lenT (by assumption) | with_reducible exact isi_tup (by assumption) | with_reducible exact rv_eqL (by assumption) (by assumption) | with_reducible exact rv_neL (by assumption) (by assumption) | with_reducible exact rv_neT (by assumption) (by assumption) | with_reducible exact rv_ixL (by assumption) (by assumption) | with_reducible exact rv_ixT (by assumption) (by assumption) | with_reducible refine' ev_din ?_ ?_ (by assumption) | with_reducible refine' ev_dnotin ?_ ?_ (by assumption) | with_reducible refine' ev_dget ?_ ?_ (by assumption) (by assumption) | ((with_reducible show SpV _ _ _ _); assumption) | ((with_reducible show RV _ _ _ _ _); assumption) | ((with_reducible show RC _ _ _ _); assumption) | ((with_reducible show CDiv _ _); exact ⟨by omega, by omega⟩) | ((with_reducible show CMul _ _); first | exact .inl ⟨by omega, by omega⟩ | exact .inr ⟨by omega, by omega⟩) | ((with_reducible show CPow _ _); exact ⟨by omega, by omega, by first | decide | assumption | omega⟩) | ((with_reducible show (0 : Int) < _); omega) | ((with_reducible show (0 : Int) ≤ _); omega) | ((with_reducible show scal _ _ = true); rfl)))) fun H2 e2 => ?_
    have s2 := ex_l e2 s1
    have h2 := (e1.trans e2) _ _ hp
    refine q_setL (j := k) (v := .int (ns.getD ((k + 1) % ns.length) 0 + 1)) h2 (by (repeat' (first | with_reducible exact ev_c | ((with_reducible show Ev (tVar _) _ _ _); exact ev_var rfl) | with_reducible exact ea_nil | with_reducible exact eo_none | with_reducible refine' ea_cons ?_ ?_ | with_reducible refine' eo_some ?_ | with_reducible refine' ev_and2 ?_ ?_ | with_reducible refine' ev_or2 ?_ ?_ | with_reducible refine' ev_notV ?_ | with_reducible exact ru_I | with_reducible refine' ev_un ?_ ?_ | with_reducible exact rv_I0 | with_reducible exact rv_isN | with_reducible exact rv_notN | with_reducible refine' rv_I ?_ | with_reducible refine' rv_eq ?_ | with_reducible refine' rv_ne ?_ | with_reducible refine' ev_op ?_ ?_ ?_ | with_reducible refine' ev_chain2 ?_ ?_ ?_ ?_ ?_ | with_reducible refine' et_B ?_ | with_reducible refine' et_test ?_ | with_reducible refine' et_and2 ?_ ?_ | with_reducible refine' et_or2 ?_ ?_ | with_reducible refine' et_not ?_ | with_reducible refine' ev_call ?_ ?_ | with_reducible refine' ev_callS ?_ ?_ | with_reducible refine' ev_cb ?_ ?_ | with_reducible exact isi_bool (by assumption) | with_reducible exact isi_int (by assumption) | with_reducible exact isi_list (by assumption) | with_reducible exact rc_len (by assumption) | with_reducible exact rc_sum (by assumption) | with_reducible exact rc_abs | with_reducible exact isi_listL (by assumption) | with_reducible exact isi_intI | with_reducible exact isi_boolI | with_reducible exact rc_lenT (by assumption) | with_reducible exact isi_tup (by assumption) | with_reducible exact rv_eqL (by assumption) (by assumption) | with_reducible exact rv_neL (by assumption) (by assumption) | with_reducible exact rv_neT (by assumption) (by assumption) | with_reducible exact rv_ixL (by assumption) (by assumption) | with_reducible exact rv_ixT (by assumption) (by assumption) | with_reducible refine' ev_din ?_ ?_ (by assumption) | with_reducible refine' ev_dnotin ?_ ?_ (by assumption) | with_reducible refine' ev_dget ?_ ?_ (by assumption) (by assumption) | ((with_reducible show SpV _ _ _ _); assumption) | ((with_reducible show RV _ _ _ _ _); assumption) | ((with_reducible show RC _ _ _ _); assumption) | ((with_reducible show CDiv _ _); exact ⟨by omega, by omega⟩) | ((with_reducible show CMul _ _); first | exact .inl ⟨by omega, by omega⟩ | exact .inr ⟨by omega, by omega⟩) | ((with_reducible show CPow _ _); exact ⟨by omega, by omega, by first | decide | assumption | omega⟩) | ((with_reducible show (0 : Int) < _); omega) | ((with_reducible show (0 : Int) ≤ _); omega) | ((with_reducible show scal _ _ = true); rfl)))) (by (repeat' (first | with_reducible exact ev_c | ((with_reducible show Ev (tVar _) _ _ _); exact ev_var rfl) | with_reducible exact ea_nil | with_reducible exact eo_none | with_reducible refine' ea_cons ?_ ?_ | with_reducible refine' eo_some ?_ | with_reducible refine' ev_and2 ?_ ?_ | with_reducible refine' ev_or2 ?_ ?_ | with_reducible refine' ev_notV ?_ | with_reducible exact ru_I | with_reducible refine' ev_un ?_ ?_ | with_reducible exact rv_I0 | with_reducible exact rv_isN | with_reducible exact rv_notN | with_reducible refine' rv_I ?_ | with_reducible refine' rv_eq ?_ | with_reducible refine' rv_ne ?_ | with_reducible refine' ev_op ?_ ?_ ?_ | with_reducible refine' ev_chain2 ?_ ?_ ?_ ?_ ?_ | with_reducible refine' et_B ?_ | with_reducible refine' et_test ?_ | with_reducible refine' et_and2 ?_ ?_ | with_reducible refine' et_or2 ?_ ?_ | with_reducible refine' et_not ?_ | with_reducible refine' ev_call ?_ ?_ | with_reducible refine' ev_callS ?_ ?_ | with_reducible refine' ev_cb ?_ ?_ | with_reducible exact isi_bool (by assumption) | with_reducible exact isi_int (by assumption) | with_reducible exact isi_list (by assumption) | with_reducible exact rc_len (by assumption) | with_reducible exact rc_sum (by assumption) | with_reducible exact rc_abs | with_reducible exact isi_listL (by assumption) | with_reducible exact isi_intI | with_reducible exact isi_boolI | with_reducible exact rc_lenT (by assumption) | with_reducible exact isi_tup (by assumption) | with_reducible exact rv_eqL (by assumption) (by assumption) | with_reducible exact rv_neL (by assumption) (by assumption) | with_reducible exact rv_neT (by assumption) (by assumption) | with_reducible exact rv_ixL (by assumption) (by assumption) | with_reducible exact rv_ixT (by assumption) (by assumption) | with_reducible refine' ev_din ?_ ?_ (by assumption) | with_reducible refine' ev_dnotin ?_ ?_ (by assumption) | with_reducible refine' ev_dget ?_ ?_ (by assumption) (by assumption) | ((with_reducible show SpV _ _ _ _); assumption) | ((with_reducible show RV _ _ _ _ _); assumption) | ((with_reducible show RC _ _ _ _); assumption) | ((with_reducible show CDiv _ _); exact ⟨by omega, by omega⟩) | ((with_reducible show CMul _ _); first | exact .inl ⟨by omega, by omega⟩ | exact .inr ⟨by omega, by omega⟩) | ((with_reducible show CPow _ _); exact ⟨by omega, by omega, by first | decide | assumption | omega⟩) | ((with_reducible show (0 : Int) < _); omega) | ((with_reducible show (0 : Int) ≤ _); omega) | ((with_reducible show scal _ _ = true); rfl)))) (by (repeat' (first | with_reducible exact ev_c | ((with_reducible show Ev (tVar _) _ _ _); exact ev_var rfl) | with_reducible exact ea_nil | with_reducible exact eo_none | with_reducible refine' ea_cons ?_ ?_ | with_reducible refine' eo_some ?_ | with_reducible refine' ev_and2 ?_ ?_ | with_reducible refine' ev_or2 ?_ ?_ | with_reducible refine' ev_notV ?_ | with_reducible exact ru_I | with_reducible refine' ev_un ?_ ?_ | with_reducible exact rv_I0 | with_reducible exact rv_isN | with_reducible exact rv_notN | with_reducible refine' rv_I ?_ | with_reducible refine' rv_eq ?_ | with_reducible refine' rv_ne ?_ | with_reducible refine' ev_op ?_ ?_ ?_ | with_reducible refine' ev_chain2 ?_ ?_ ?_ ?_ ?_ | with_reducible refine' et_B ?_ | with_reducible refine' et_test ?_ | with_reducible refine' et_and2 ?_ ?_ | with_reducible refine' et_or2 ?_ ?_ | with_reducible refine' et_not ?_ | with_reducible refine' ev_call ?_ ?_ | with_reducible refine' ev_callS ?_ ?_ | with_reducible refine' ev_cb ?_ ?_ | with_reducible exact isi_bool (by assumption) | with_reducible exact isi_int (by assumption) | with_reducible exact isi_list (by assumption) | with_reducible exact rc_len (by assumption) | with_reducible exact rc_sum (by assumption) | with_reducible exact rc_abs | with_reducible exact isi_listL (by assumption) | with_reducible exact isi_intI | with_reducible exact isi_boolI | with_reducible exact rc_lenT (by assumption) | with_reducible exact isi_tup (by assumption) | with_reducible exact rv_eqL (by assumption) (by assumption) | with_reducible exact rv_neL (by assumption) (by assumption) | with_reducible exact rv_neT (by assumption) (by assumption) | with_reducible exact rv_ixL (by assumption) (by assumption) | with_reducible exact rv_ixT (by assumption) (by assumption) | with_reducible refine' ev_din ?_ ?_ (by assumption) | with_reducible refine' ev_dnotin ?_ ?_ (by assumption) | with_reducible refine' ev_dget ?_ ?_ (by assumption) (by assumption) | ((with_reducible show SpV _ _ _ _); assumption) | ((with_reducible show RV _ _ _ _ _); assumption) | ((with_reducible show RC _ _ _ _); assumption) | ((with_reducible show CDiv _ _); exact ⟨by omega, by omega⟩) | ((with_reducible show CMul _ _); first | exact .inl ⟨by omega, by omega⟩ | exact .inr ⟨by omega, by omega⟩) | ((with_reducible show CPow _ _); exact ⟨by omega, by omega, by first | decide | assumption | omega⟩) | ((with_reducible show (0 : Int) < _); omega) | ((with_reducible show (0 : Int) ≤ _); omega) | ((with_reducible show scal _ _ = true); rfl)))) (by rw [hl]; exact hk) fun H3 e3 => ?_
    refine s_setL (j := (k + 1) % ns.length) (xs := (ns.set k (ns.getD ((k + 1) % ns.length) 0 + 1)).map V.int) (v := .int (ns.getD k 0 - 1)) (by rw [upd_same, List.map_set]) (by (repeat' (first | with_reducible exact ev_c | ((with_reducible show Ev (tVar _) _ _ _); exact ev_var rfl) | with_reducible exact ea_nil | with_reducible exact eo_none | with_reducible refine' ea_cons ?_ ?_ | with_reducible refine' eo_some ?_ | with_reducible refine' ev_and2 ?_ ?_ | with_reducible refine' ev_or2 ?_ ?_ | with_reducible refine' ev_notV ?_ | with_reducible exact ru_I | with_reducible refine' ev_un ?_ ?_ | with_reducible exact rv_I0 | with_reducible exact rv_isN | with_reducible exact rv_notN | with_reducible refine' rv_I ?_ | with_reducible refine' rv_eq ?_ | with_reducible refine' rv_ne ?_ | with_reducible refine' ev_op ?_ ?_ ?_ | with_reducible refine' ev_chain2 ?_ ?_ ?_ ?_ ?_ | with_reducible refine' et_B ?_ | with_reducible refine' et_test ?_ | with_reducible refine' et_and2 ?_ ?_ | with_reducible refine' et_or2 ?_ ?_ | with_reducible refine' et_not ?_ | with_reducible refine' ev_call ?_ ?_ | with_reducible refine' ev_callS ?_ ?_ | with_reducible refine' ev_cb ?_ ?_ | with_reducible exact isi_bool (by assumption) | with_reducible exact isi_int (by assumption) | with_reducible exact isi_list (by assumption) | with_reducible exact rc_len (by assumption) | with_reducible exact rc_sum (by assumption) | with_reducible exact rc_abs | with_reducible exact isi_listL (by assumption) | with_reducible exact isi_intI | with_reducible exact isi_boolI | with_reducible exact rc_lenT (by assumption) | with_reducible exact isi_tup (by assumption) | with_reducible exact rv_eqL (by assumption) (by assumption) | with_reducible exact rv_neL (by assumption) (by assumption) | with_reducible exact rv_neT (by assumption) (by assumption) | with_reducible exact rv_ixL (by assumption) (by assumption) | with_reducible exact rv_ixT (by assumption) (by assumption) | with_reducible refine' ev_din ?_ ?_ (by assumption) | with_reducible refine' ev_dnotin ?_ ?_ (by assumption) | with_reducible refine' ev_dget ?_ ?_ (by assumption) (by assumption) | ((with_reducible show SpV _ _ _ _); assumption) | ((with_reducible show RV _ _ _ _ _); assumption) | ((with_reducible show RC _ _ _ _); assumption) | ((with_reducible show CDiv _ _); exact ⟨by omega, by omega⟩) | ((with_reducible show CMul _ _); first | exact .inl ⟨by omega, by omega⟩ | exact .inr ⟨by omega, by omega⟩) | ((with_reducible show CPow _ _); exact ⟨by omega, by omega, by first | decide | assumption | omega⟩) | ((with_reducible show (0 : Int) < _); omega) | ((with_reducible show (0 : Int) ≤ _); omega) | ((with_reducible show scal _ _ = true); rfl)))) (by (repeat' (first | with_reducible exact ev_c | ((with_reducible show Ev (tVar _) _ _ _); exact ev_var rfl) | with_reducible exact ea_nil | with_reducible exact eo_none | with_reducible refine' ea_cons ?_ ?_ | with_reducible refine' eo_some ?_ | with_reducible refine' ev_and2 ?_ ?_ | with_reducible refine' ev_or2 ?_ ?_ | with_reducible refine' ev_notV ?_ | with_reducible exact ru_I | with_reducible refine' ev_un ?_ ?_ | with_reducible exact rv_I0 | with_reducible exact rv_isN | with_reducible exact rv_notN | with_reducible refine' rv_I ?_ | with_reducible refine' rv_eq ?_ | with_reducible refine' rv_ne ?_ | with_reducible refine' ev_op ?_ ?_ ?_ | with_reducible refine' ev_chain2 ?_ ?_ ?_ ?_ ?_ | with_reducible refine' et_B ?_ | with_reducible refine' et_test ?_ | with_reducible refine' et_and2 ?_ ?_ | with_reducible refine' et_or2 ?_ ?_ | with_reducible refine' et_not ?_ | with_reducible refine' ev_call ?_ ?_ | with_reducible refine' ev_callS ?_ ?_ | with_reducible refine' ev_cb ?_ ?_ | with_reducible exact isi_bool (by assumption) | with_reducible exact isi_int (by assumption) | with_reducible exact isi_list (by assumption) | with_reducible exact rc_len (by assumption) | with_reducible exact rc_sum (by assumption) | with_reducible exact rc_abs | with_reducible exact isi_listL (by assumption) | with_reducible exact isi_intI | with_reducible exact isi_boolI | with_reducible exact rc_lenT (by assumption) | with_reducible exact isi_tup (by assumption) | with_reducible exact rv_eqL (by assumption) (by assumption) | with_reducible exact rv_neL (by assumption) (by assumption) | with_reducible exact rv_neT (by assumption) (by assumption) | with_reducible exact rv_ixL (by assumption) (by assumption) | with_reducible exact rv_ixT (by assumption) (by assumption) | with_reducible refine' ev_din ?_ ?_ (by assumption) | with_reducible refine' ev_dnotin ?_ ?_ (by assumption) | with_reducible refine' ev_dget ?_ ?_ (by assumption) (by assumption) | ((with_reducible show SpV _ _ _ _); assumption) | ((with_reducible show RV _ _ _ _ _); assumption) | ((with_reducible show RC _ _ _ _); assumption) | ((with_reducible show CDiv _ _); exact ⟨by omega, by omega⟩) | ((with_reducible show CMul _ _); first | exact .inl ⟨by omega, by omega⟩ | exact .inr ⟨by omega, by omega⟩) | ((with_reducible show CPow _ _); exact ⟨by omega, by omega, by first | decide | assumption | omega⟩) | ((with_reducible show (0 : Int) < _); omega) | ((with_reducible show (0 : Int) ≤ _); omega) | ((with_reducible show scal _ _ = true); rfl)))) (by (repeat' (first | with_reducible exact ev_c | ((with_reducible show Ev (tVar _) _ _ _); exact ev_var rfl) | with_reducible exact ea_nil | with_reducible exact eo_none | with_reducible refine' ea_cons ?_ ?_ | with_reducible refine' eo_some ?_ | with_reducible refine' ev_and2 ?_ ?_ | with_reducible refine' ev_or2 ?_ ?_ | with_reducible refine' ev_notV ?_ | with_reducible exact ru_I | with_reducible refine' ev_un ?_ ?_ | with_reducible exact rv_I0 | with_reducible exact rv_isN | with_reducible exact rv_notN | with_reducible refine' rv_I ?_ | with_reducible refine' rv_eq ?_ | with_reducible refine' rv_ne ?_ | with_reducible refine' ev_op ?_ ?_ ?_ | with_reducible refine' ev_chain2 ?_ ?_ ?_ ?_ ?_ | with_reducible refine' et_B ?_ | with_reducible refine' et_test ?_ | with_reducible refine' et_and2 ?_ ?_ | with_reducible refine' et_or2 ?_ ?_ | with_reducible refine' et_not ?_ | with_reducible refine' ev_call ?_ ?_ | with_reducible refine' ev_callS ?_ ?_ | with_reducible refine' ev_cb ?_ ?_ | with_reducible exact isi_bool (by assumption) | with_reducible exact isi_int (by assumption) | with_reducible exact isi_list (by assumption) | with_reducible exact rc_len (by assumption) | with_reducible exact rc_sum (by assumption) | with_reducible exact rc_abs | with_reducible exact isi_listL (by assumption) | with_reducible exact isi_intI | with_reducible exact isi_boolI | with_reducible exact rc_lenT (by assumption) | with_reducible exact isi_tup (by assumption) | with_reducible exact rv_eqL (by assumption) (by assumption) | with_reducible exact rv_neL (by assumption) (by assumption) | with_reducible exact rv_neT (by assumption) (by assumption) | with_reducible exact rv_ixL (by assumption) (by assumption) | with_reducible exact rv_ixT (by assumption) (by assumption) | with_reducible refine' ev_din ?_ ?_ (by assumption) | with_reducible refine' ev_dnotin ?_ ?_ (by assumption) | with_reducible refine' ev_dget ?_ ?_ (by assumption) (by assumption) | ((with_reducible show SpV _ _ _ _); assumption) | ((with_reducible show RV _ _ _ _ _); assumption) | ((with_reducible show RC _ _ _ _); assumption) | ((with_reducible show CDiv _ _); exact ⟨by omega, by omega⟩) | ((with_reducible show CMul _ _); first | exact .inl ⟨by omega, by omega⟩ | exact .inr ⟨by omega, by omega⟩) | ((with_reducible show CPow _ _); exact ⟨by omega, by omega, by first | decide | assumption | omega⟩) | ((with_reducible show (0 : Int) < _); omega) | ((with_reducible show (0 : Int) ≤ _); omega) | ((with_reducible show scal _ _ = true); rfl)))) (by rw [List.length_map, List.length_set]; exact hb) fun H4 e4 => ?_
    refine q _ ?_ fun H0 e0 h0 => Ex.mut ((Ex.mut ((e0.trans (e1.trans e2)).trans e3) h0).trans e4) h0
    rw [upd_same, ← List.map_set]
    rfl

def nbRe (k : V) (ns : List Int) : Re := match k with
  | .int x => if 1 < ns.length ∧ 0 ≤ x ∧ x < (ns.length : Int) then keptRe (exI ns x.toNat) else .err "OutOfBounds"
  | _ => .err "OutOfBounds"
def nbOk (k : V) (ns : List Int) : Prop := ∃ x : Nat, k = .int (x : Int) ∧ 1 < ns.length ∧ x < ns.length
theorem nb_bad {k : V} {ns : List Int} (h : ¬ nbOk k ns) : nbRe k ns = .err "OutOfBounds" := by
  unfold nbRe
  split
  · rename_i x
    rw [if_neg]
    rintro ⟨h0, h1, h2⟩
    exact h ⟨x.toNat, congrArg V.int (by omega), by omega, by omega⟩
  · rfl
theorem nb_good {x : Nat} {ns : List Int} (h1 : 1 < ns.length) (h2 : x < ns.length) : nbRe (.int (x : Int)) ns = keptRe (exI ns x) := by
  show (if 1 < ns.length ∧ 0 ≤ (x : Int) ∧ (x : Int) < (ns.length : Int) then keptRe (exI ns (x : Int).toNat) else .err "OutOfBounds") = _
  rw [if_pos ⟨by omega, by omega, by omega⟩]
  rfl
def sp_neighbours (K : PySem.W.Frag) : Sp := fun vs H Q E => ∃ v o k, vs = [v, k] ∧ Row H v o ∧ Kd H k ∧ Give K (doorRe o fun ns => nbRe k ns) H Q E
theorem sc_neighbours : FnScope ["pattern", "k", "made"] ["pattern", "k"] (defScope s_neighbours) := ⟨rfl, rfl, rfl, by decide +kernel, rfl, by decide +kernel, by decide +kernel⟩
theorem ok_neighbours {P : Program} {w : World} {K : PySem.W.Frag} {mg : Str → Option Value} {base : Heap} (T : TXT K mg) : OK P w K mg base "neighbours" ["pattern", "k"] 6 (sp_neighbours K) := by
  have O_check_pattern := ok_check_pattern (P := P) (w := w) (base := base) T
  have O_within := ok_within (P := P) (w := w) (base := base) T
  have O_exchange := ok_exchange (P := P) (w := w) (base := base) T
  have O_kept := ok_kept (P := P) (w := w) (base := base) T
  obtain ⟨fd, F⟩ := T.def_ 15
  refine ⟨_, fd, T.glo 14, F.kp, F.bindsN (fun _ _ _ _ _ _ us hl => match us, hl with | [_, _], _ => rfl), F.ok sc_neighbours (fun vs H Q E h => ?_) (fun cdv A outer s H vs Q E hr h => ?_), F.bindsA (fun _ _ _ _ _ _ us hl => match us, hl with | [_, _], _ => rfl)⟩
  · first | (obtain ⟨rfl, _⟩ := h; rfl) | (obtain ⟨_, rfl, _⟩ := h; rfl) | (obtain ⟨_, _, rfl, _⟩ := h; rfl) | (obtain ⟨_, _, _, rfl, _⟩ := h; rfl) | (obtain ⟨_, _, _, _, rfl, _⟩ := h; rfl) | (obtain ⟨_, _, _, _, _, rfl, _⟩ := h; rfl) | (obtain ⟨_, _, _, _, _, _, rfl, _⟩ := h; rfl) | (obtain ⟨_, _, _, _, _, _, _, rfl, _⟩ := h; rfl) | (obtain ⟨_, _, _, _, _, _, _, _, rfl, _⟩ := h; rfl)
  · replace F : FunD K "neighbours" "neighbours" (defArgs s_neighbours) (defBody s_neighbours) (defScope s_neighbours) [] [] (He.ga K "neighbours") fd := F
    refine ⟨_, (pss_cons (ps_expr (pe_own O_check_pattern (hr.mono (by decide)) (by rfl) (passes_call (takes_of rfl rfl rfl rfl) (fun _ _ _ _ h => h)) (pa_cons (pv 0) pa_nil)))
      (pss_cons (ps_if (PW.pt (pw_or (pt_cmpR op_lt (pe_callB (id := "len") (k_len K) (by rfl) (T.free 43) (by decide +kernel) (pa_cons (pv 0) pa_nil)) pe_int (nomark _)) (pw_or1 (pt_not (pt_val (pe_own O_within (hr.mono (by decide)) (by rfl) (passes_call (takes_of rfl rfl rfl rfl) (fun _ _ _ _ h => h)) (pa_cons (pv 1) (pa_cons pe_int (pa_cons (pe_op op_sub (pe_callB (id := "len") (k_len K) (by rfl) (T.free 43) (by decide +kernel) (pa_cons (pv 0) pa_nil)) pe_int) pa_nil)))))))))
        (pss_one (ps_raise rfl (takes_of rfl rfl rfl rfl) (pmk_ex (T.fact 51) (T.glo 29))))
        pss_nil)
      (pss_cons (ps_set (i := 2) sc_neighbours.nd rfl (Or.inl rfl) (pe_callTy (T := "list") (k_list K) (by rfl) (T.free 44) (by decide +kernel) (pa_cons (pv 0) pa_nil)))
      (pss_cons (ps_expr (pe_own O_exchange (hr.mono (by decide)) (by rfl) (passes_call (takes_of rfl rfl rfl rfl) (fun _ _ _ _ h => h)) (pa_cons (pv 2) (pa_cons (pv 1) pa_nil))))
      (pss_one (ps_ret (pe_own O_kept (hr.mono (by decide)) (by rfl) (passes_call (takes_of rfl rfl rfl rfl) (fun _ _ _ _ h => h)) (pa_cons (pv 2) pa_nil)))))))), ?_⟩
    obtain ⟨v, o, k, rfl, hk, hkk, q⟩ := h
    dsimp only [cxOf, L2.start, List.map_cons, List.map_nil, List.length_cons, List.length_nil, Nat.reduceAdd, Nat.reduceSub, List.replicate_succ, List.replicate_zero, List.cons_append, List.nil_append, Nat.zero_add, List.reduceReplicate, List.map]
    by_cases hg : rowOk o = true ∧ clashOf (rowsOf o) = none
    case neg => exact xq_drop (rz_call (by (repeat' (first | with_reducible exact ev_c | ((with_reducible show Ev (tVar _) _ _ _); exact ev_var rfl) | with_reducible exact ea_nil | with_reducible exact eo_none | with_reducible refine' ea_cons ?_ ?_ | with_reducible refine' eo_some ?_ | with_reducible refine' ev_and2 ?_ ?_ | with_reducible refine' ev_or2 ?_ ?_ | with_reducible refine' ev_notV ?_ | with_reducible exact ru_I | with_reducible refine' ev_un ?_ ?_ | with_reducible exact rv_I0 | with_reducible exact rv_isN | with_reducible exact rv_notN | with_reducible refine' rv_I ?_ | with_reducible refine' rv_eq ?_ | with_reducible refine' rv_ne ?_ | with_reducible refine' ev_op ?_ ?_ ?_ | with_reducible refine' ev_chain2 ?_ ?_ ?_ ?_ ?_ | with_reducible refine' et_B ?_ | with_reducible refine' et_test ?_ | with_reducible refine' et_and2 ?_ ?_ | with_reducible refine' et_or2 ?_ ?_ | with_reducible refine' et_not ?_ | with_reducible refine' ev_call ?_ ?_ | with_reducible refine' ev_callS ?_ ?_ | with_reducible refine' ev_cb ?_ ?_ | with_reducible exact isi_bool (by assumption) | with_reducible exact isi_int (by assumption) | with_reducible exact isi_list (by assumption) | with_reducible exact rc_len (by assumption) | with_reducible exact rc_sum (by assumption) | with_reducible exact rc_abs | with_reducible exact isi_listL (by assumption) | with_reducible exact isi_intI | with_reducible exact isi_boolI | with_reducible exact rc_lenT (by assumption) | with_reducible exact isi_tup (by assumption) | with_reducible exact rv_eqL (by assumption) (by assumption) | with_reducible exact rv_neL (by assumption) (by assumption) | with_reducible exact rv_neT (by assumption) (by assumption) | with_reducible exact rv_ixL (by assumption) (by assumption) | with_reducible exact rv_ixT (by assumption) (by assumption) | with_reducible refine' ev_din ?_ ?_ (by assumption) | with_reducible refine' ev_dnotin ?_ ?_ (by assumption) | with_reducible refine' ev_dget ?_ ?_ (by assumption) (by assumption) | ((with_reducible show SpV _ _ _ _); assumption) | ((with_reducible show RV _ _ _ _ _); assumption) | ((with_reducible show RC _ _ _ _); assumption) | ((with_reducible show CDiv _ _); exact ⟨by omega, by omega⟩) | ((with_reducible show CMul _ _); first | exact .inl ⟨by omega, by omega⟩ | exact .inr ⟨by omega, by omega⟩) | ((with_reducible show CPow _ _); exact ⟨by omega, by omega, by first | decide | assumption | omega⟩) | ((with_reducible show (0 : Int) < _); omega) | ((with_reducible show (0 : Int) ≤ _); omega) | ((with_reducible show scal _ _ = true); rfl)))) (sx_check_pattern hk q hg))
    have hcp := sv_check_pattern (K := K) hk hg.1 hg.2
    obtain ⟨a, ns, rfl, rfl, ha, ⟨h1, h2, h3⟩, hc, q⟩ := door_go hk q hg
    refine q_drop (v := .non) (by (repeat' (first | with_reducible exact ev_c | ((with_reducible show Ev (tVar _) _ _ _); exact ev_var rfl) | with_reducible exact ea_nil | with_reducible exact eo_none | with_reducible refine' ea_cons ?_ ?_ | with_reducible refine' eo_some ?_ | with_reducible refine' ev_and2 ?_ ?_ | with_reducible refine' ev_or2 ?_ ?_ | with_reducible refine' ev_notV ?_ | with_reducible exact ru_I | with_reducible refine' ev_un ?_ ?_ | with_reducible exact rv_I0 | with_reducible exact rv_isN | with_reducible exact rv_notN | with_reducible refine' rv_I ?_ | with_reducible refine' rv_eq ?_ | with_reducible refine' rv_ne ?_ | with_reducible refine' ev_op ?_ ?_ ?_ | with_reducible refine' ev_chain2 ?_ ?_ ?_ ?_ ?_ | with_reducible refine' et_B ?_ | with_reducible refine' et_test ?_ | with_reducible refine' et_and2 ?_ ?_ | with_reducible refine' et_or2 ?_ ?_ | with_reducible refine' et_not ?_ | with_reducible refine' ev_call ?_ ?_ | with_reducible refine' ev_callS ?_ ?_ | with_reducible refine' ev_cb ?_ ?_ | with_reducible exact isi_bool (by assumption) | with_reducible exact isi_int (by assumption) | with_reducible exact isi_list (by assumption) | with_reducible exact rc_len (by assumption) | with_reducible exact rc_sum (by assumption) | with_reducible exact rc_abs | with_reducible exact isi_listL (by assumption) | with_reducible exact isi_intI | with_reducible exact isi_boolI | with_reducible exact rc_lenT (by assumption) | with_reducible exact isi_tup (by assumption) | with_reducible exact rv_eqL (by assumption) (by assumption) | with_reducible exact rv_neL (by assumption) (by assumption) | with_reducible exact rv_neT (by assumption) (by assumption) | with_reducible exact rv_ixL (by assumption) (by assumption) | with_reducible exact rv_ixT (by assumption) (by assumption) | with_reducible refine' ev_din ?_ ?_ (by assumption) | with_reducible refine' ev_dnotin ?_ ?_ (by assumption) | with_reducible refine' ev_dget ?_ ?_ (by assumption) (by assumption) | ((with_reducible show SpV _ _ _ _); assumption) | ((with_reducible show RV _ _ _ _ _); assumption) | ((with_reducible show RC _ _ _ _); assumption) | ((with_reducible show CDiv _ _); exact ⟨by omega, by omega⟩) | ((with_reducible show CMul _ _); first | exact .inl ⟨by omega, by omega⟩ | exact .inr ⟨by omega, by omega⟩) | ((with_reducible show CPow _ _); exact ⟨by omega, by omega, by first | decide | assumption | omega⟩) | ((with_reducible show (0 : Int) < _); omega) | ((with_reducible show (0 : Int) ≤ _); omega) | ((with_reducible show scal _ _ = true); rfl)))) fun H1 e1 => ?_
    have s1 : SqL K H1 a (ns.map V.int) := ex_l e1 (sq_of ha)
    have wk := sv_within (lo := 0) (hi := ((ns.map V.int).length : Int) - 1) (hkk.mono e1)
    have hl := List.length_map (as := ns) V.int
    by_cases hgood : nbOk k ns
    case neg =>
      rw [nb_bad hgood] at q
      refine q_when (b := true) ?_ (fun _ H2 e2 => q H2 (e1.trans e2)) (fun h => by cases h)
      apply et_is
      · (repeat' (first | with_reducible exact ev_c | ((with_reducible show Ev (tVar _) _ _ _); exact ev_var rfl) | with_reducible exact ea_nil | with_reducible exact eo_none | with_reducible refine' ea_cons ?_ ?_ | with_reducible refine' eo_some ?_ | with_reducible refine' ev_and2 ?_ ?_ | with_reducible refine' ev_or2 ?_ ?_ | with_reducible refine' ev_notV ?_ | with_reducible exact ru_I | with_reducible refine' ev_un ?_ ?_ | with_reducible exact rv_I0 | with_reducible exact rv_isN | with_reducible exact rv_notN | with_reducible refine' rv_I ?_ | with_reducible refine' rv_eq ?_ | with_reducible refine' rv_ne ?_ | with_reducible refine' ev_op ?_ ?_ ?_ | with_reducible refine' ev_chain2 ?_ ?_ ?_ ?_ ?_ | with_reducible refine' et_B ?_ | with_reducible refine' et_test ?_ | with_reducible refine' et_and2 ?_ ?_ | with_reducible refine' et_or2 ?_ ?_ | with_reducible refine' et_not ?_ | with_reducible refine' ev_call ?_ ?_ | with_reducible refine' ev_callS ?_ ?_ | with_reducible refine' ev_cb ?_ ?_ | with_reducible exact isi_bool (by assumption) | with_reducible exact isi_int (by assumption) | with_reducible exact isi_list (by assumption) | with_reducible exact rc_len (by assumption) | with_reducible exact rc_sum (by assumption) | with_reducible exact rc_abs | with_reducible exact isi_listL (by assumption) | with_reducible exact isi_intI | with_reducible exact isi_boolI | with_reducible exact rc_lenT (by assumption) | with_reducible exact isi_tup (by assumption) | with_reducible exact rv_eqL (by assumption) (by assumption) | with_reducible exact rv_neL (by assumption) (by assumption) | with_reducible exact rv_neT (by assumption) (by assumption) | with_reducible exact rv_ixL (by assumption) (by assumption) | with_reducible exact rv_ixT (by assumption) (by assumption) | with_reducible refine' ev_din ?_ ?_ (by assumption) | with_reducible refine' ev_dnotin ?_ ?_ (by assumption) | with_reducible refine' ev_dget ?_ ?_ (by assumption) (by assumption) | ((with_reducible show SpV _ _ _ _); assumption) | ((with_reducible show RV _ _ _ _ _); assumption) | ((with_reducible show RC _ _ _ _); assumption) | ((with_reducible show CDiv _ _); exact ⟨by omega, by omega⟩) | ((with_reducible show CMul _ _); first | exact .inl ⟨by omega, by omega⟩ | exact .inr ⟨by omega, by omega⟩) | ((with_reducible show CPow _ _); exact ⟨by omega, by omega, by first | decide | assumption | omega⟩) | ((with_reducible show (0 : Int) < _); omega) | ((with_reducible show (0 : Int) ≤ _); omega) | ((with_reducible show scal _ _ = true); rfl)))
      · by_cases wk0 : inB k 0 (((ns.map V.int).length : Int) - 1) = true
        · obtain ⟨x, rfl, x0, x1⟩ := inB_int wk0
          have : ¬ 1 < ns.length := fun h => hgood ⟨x.toNat, congrArg V.int (by omega), h, by omega⟩
          rw [wk0, decide_eq_true (show ((ns.map V.int).length : Int) < 2 by omega)]
          rfl
        · have wk1 : inB k 0 (((ns.map V.int).length : Int) - 1) = false := by simpa using wk0
          rw [wk1]
          simp
    obtain ⟨x, rfl, hn, hx⟩ := hgood
    rw [nb_good hn hx] at q
    refine q_when (b := false) ?_ (fun h => by cases h) (fun _ H2 e2 => ?_)
    · apply et_is
      · (repeat' (first | with_reducible exact ev_c | ((with_reducible show Ev (tVar _) _ _ _); exact ev_var rfl) | with_reducible exact ea_nil | with_reducible exact eo_none | with_reducible refine' ea_cons ?_ ?_ | with_reducible refine' eo_some ?_ | with_reducible refine' ev_and2 ?_ ?_ | with_reducible refine' ev_or2 ?_ ?_ | with_reducible refine' ev_notV ?_ | with_reducible exact ru_I | with_reducible refine' ev_un ?_ ?_ | with_reducible exact rv_I0 | with_reducible exact rv_isN | with_reducible exact rv_notN | with_reducible refine' rv_I ?_ | with_reducible refine' rv_eq ?_ | with_reducible refine' rv_ne ?_ | with_reducible refine' ev_op ?_ ?_ ?_ | with_reducible refine' ev_chain2 ?_ ?_ ?_ ?_ ?_ | with_reducible refine' et_B ?_ | with_reducible refine' et_test ?_ | with_reducible refine' et_and2 ?_ ?_ | with_reducible refine' et_or2 ?_ ?_ | with_reducible refine' et_not ?_ | with_reducible refine' ev_call ?_ ?_ | with_reducible refine' ev_callS ?_ ?_ | with_reducible refine' ev_cb ?_ ?_ | with_reducible exact isi_bool (by assumption) | with_reducible exact isi_int (by assumption) | with_reducible exact isi_list (by assumption) | with_reducible exact rc_len (by assumption) | with_reducible exact rc_sum (by assumption) | with_reducible exact rc_abs | with_reducible exact isi_listL (by assumption) | with_reducible exact isi_intI | with_reducible exact isi_boolI | with_reducible exact rc_lenT (by assumption) | with_reducible exact isi_tup (by assumption) | with_reducible exact rv_eqL (by assumption) (by assumption) | with_reducible exact rv_neL (by assumption) (by assumption) | with_reducible exact rv_neT (by assumption) (by assumption) | with_reducible exact rv_ixL (by assumption) (by assumption) | with_reducible exact rv_ixT (by assumption) (by assumption) | with_reducible refine' ev_din ?_ ?_ (by assumption) | with_reducible refine' ev_dnotin ?_ ?_ (by assumption) | with_reducible refine' ev_dget ?_ ?_ (by assumption) (by assumption) | ((with_reducible show SpV _ _ _ _); assumption) | ((with_reducible show RV _ _ _ _ _); assumption) | ((with_reducible show RC _ _ _ _); assumption) | ((with_reducible show CDiv _ _); exact ⟨by omega, by omega⟩) | ((with_reducible show CMul _ _); first | exact .inl ⟨by omega, by omega⟩ | exact .inr ⟨by omega, by omega⟩) | ((with_reducible show CPow _ _); exact ⟨by omega, by omega, by first | decide | assumption | omega⟩) | ((with_reducible show (0 : Int) < _); omega) | ((with_reducible show (0 : Int) ≤ _); omega) | ((with_reducible show scal _ _ = true); rfl)))
      · rw [inB_is, decide_eq_true (show (0 : Int) ≤ (x : Int) by omega), decide_eq_true (show (x : Int) ≤ ((ns.map V.int).length : Int) - 1 by omega), decide_eq_false (show ¬ ((ns.map V.int).length : Int) < 2 by omega)]
        rfl
    have s2 := ex_l e2 s1
    refine q_asgL (xs := ns.map V.int) (el_cb (by (repeat' (first | with_reducible exact ev_c | ((with_reducible show Ev (tVar _) _ _ _); exact ev_var rfl) | with_reducible exact ea_nil | with_reducible exact eo_none | with_reducible refine' ea_cons ?_ ?_ | with_reducible refine' eo_some ?_ | with_reducible refine' ev_and2 ?_ ?_ | with_reducible refine' ev_or2 ?_ ?_ | with_reducible refine' ev_notV ?_ | with_reducible exact ru_I | with_reducible refine' ev_un ?_ ?_ | with_reducible exact rv_I0 | with_reducible exact rv_isN | with_reducible exact rv_notN | with_reducible refine' rv_I ?_ | with_reducible refine' rv_eq ?_ | with_reducible refine' rv_ne ?_ | with_reducible refine' ev_op ?_ ?_ ?_ | with_reducible refine' ev_chain2 ?_ ?_ ?_ ?_ ?_ | with_reducible refine' et_B ?_ | with_reducible refine' et_test ?_ | with_reducible refine' et_and2 ?_ ?_ | with_reducible refine' et_or2 ?_ ?_ | with_reducible refine' et_not ?_ | with_reducible refine' ev_call ?_ ?_ | with_reducible refine' ev_callS ?_ ?_ | with_reducible refine' ev_cb ?_ ?_ | with_reducible exact isi_bool (by assumption) | with_reducible exact isi_int (by assumption) | with_reducible exact isi_list (by assumption) | with_reducible exact rc_len (by assumption) | with_reducible exact rc_sum (by assumption) | with_reducible exact rc_abs | with_reducible exact isi_listL (by assumption) | with_reducible exact isi_intI | with_reducible exact isi_boolI | with_reducible exact rc_lenT (by assumption) | with_reducible exact isi_tup (by assumption) | with_reducible exact rv_eqL (by assumption) (by assumption) | with_reducible exact rv_neL (by assumption) (by assumption) | with_reducible exact rv_neT (by assumption) (by assumption) | with_reducible exact rv_ixL (by assumption) (by assumption) | with_reducible exact rv_ixT (by assumption) (by assumption) | with_reducible refine' ev_din ?_ ?_ (by assumption) | with_reducible refine' ev_dnotin ?_ ?_ (by assumption) | with_reducible refine' ev_dget ?_ ?_ (by assumption) (by assumption) | ((with_reducible show SpV _ _ _ _); assumption) | ((with_reducible show RV _ _ _ _ _); assumption) | ((with_reducible show RC _ _ _ _); assumption) | ((with_reducible show CDiv _ _); exact ⟨by omega, by omega⟩) | ((with_reducible show CMul _ _); first | exact .inl ⟨by omega, by omega⟩ | exact .inr ⟨by omega, by omega⟩) | ((with_reducible show CPow _ _); exact ⟨by omega, by omega, by first | decide | assumption | omega⟩) | ((with_reducible show (0 : Int) < _); omega) | ((with_reducible show (0 : Int) ≤ _); omega) | ((with_reducible show scal _ _ = true); rfl)))) (rcl_list s2)) fun p H3 hp e3 h3' => ?_
    have p1 : H2 p = none := hp
    refine q_dropC (vs := [.ref p, .int (x : Int)]) (by (repeat' (first | with_reducible exact ev_c | ((with_reducible show Ev (tVar _) _ _ _); exact ev_var rfl) | with_reducible exact ea_nil | with_reducible exact eo_none | with_reducible refine' ea_cons ?_ ?_ | with_reducible refine' eo_some ?_ | with_reducible refine' ev_and2 ?_ ?_ | with_reducible refine' ev_or2 ?_ ?_ | with_reducible refine' ev_notV ?_ | with_reducible exact ru_I | with_reducible refine' ev_un ?_ ?_ | with_reducible exact rv_I0 | with_reducible exact rv_isN | with_reducible exact rv_notN | with_reducible refine' rv_I ?_ | with_reducible refine' rv_eq ?_ | with_reducible refine' rv_ne ?_ | with_reducible refine' ev_op ?_ ?_ ?_ | with_reducible refine' ev_chain2 ?_ ?_ ?_ ?_ ?_ | with_reducible refine' et_B ?_ | with_reducible refine' et_test ?_ | with_reducible refine' et_and2 ?_ ?_ | with_reducible refine' et_or2 ?_ ?_ | with_reducible refine' et_not ?_ | with_reducible refine' ev_call ?_ ?_ | with_reducible refine' ev_callS ?_ ?_ | with_reducible refine' ev_cb ?_ ?_ | with_reducible exact isi_bool (by assumption) | with_reducible exact isi_int (by assumption) | with_reducible exact isi_list (by assumption) | with_reducible exact rc_len (by assumption) | with_reducible exact rc_sum (by assumption) | with_reducible exact rc_abs | with_reducible exact isi_listL (by assumption) | with_reducible exact isi_intI | with_reducible exact isi_boolI | with_reducible exact rc_lenT (by assumption) | with_reducible exact isi_tup (by assumption) | with_reducible exact rv_eqL (by assumption) (by assumption) | with_reducible exact rv_neL (by assumption) (by assumption) | with_reducible exact rv_neT (by assumption) (by assumption) | with_reducible exact rv_ixL (by assumption) (by assumption) | with_reducible exact rv_ixT (by assumption) (by assumption) | with_reducible refine' ev_din ?_ ?_ (by assumption) | with_reducible refine' ev_dnotin ?_ ?_ (by assumption) | with_reducible refine' ev_dget ?_ ?_ (by assumption) (by assumption) | ((with_reducible show SpV _ _ _ _); assumption) | ((with_reducible show RV _ _ _ _ _); assumption) | ((with_reducible show RC _ _ _ _); assumption) | ((with_reducible show CDiv _ _); exact ⟨by omega, by omega⟩) | ((with_reducible show CMul _ _); first | exact .inl ⟨by omega, by omega⟩ | exact .inr ⟨by omega, by omega⟩) | ((with_reducible show CPow _ _); exact ⟨by omega, by omega, by first | decide | assumption | omega⟩) | ((with_reducible show (0 : Int) < _); omega) | ((with_reducible show (0 : Int) ≤ _); omega) | ((with_reducible show scal _ _ = true); rfl)))) fun H4 e4 => ⟨p, ns, x, rfl, e4 _ _ h3', hx, by omega, fun H5 h5 e5 => ?_⟩
    have e25 := e5 H2 (e3.trans e4) p1
    exact s_retK (p := p) (ns := exI ns x) (by (repeat' (first | with_reducible exact ev_c | ((with_reducible show Ev (tVar _) _ _ _); exact ev_var rfl) | with_reducible exact ea_nil | with_reducible exact eo_none | with_reducible refine' ea_cons ?_ ?_ | with_reducible refine' eo_some ?_ | with_reducible refine' ev_and2 ?_ ?_ | with_reducible refine' ev_or2 ?_ ?_ | with_reducible refine' ev_notV ?_ | with_reducible exact ru_I | with_reducible refine' ev_un ?_ ?_ | with_reducible exact rv_I0 | with_reducible exact rv_isN | with_reducible exact rv_notN | with_reducible refine' rv_I ?_ | with_reducible refine' rv_eq ?_ | with_reducible refine' rv_ne ?_ | with_reducible refine' ev_op ?_ ?_ ?_ | with_reducible refine' ev_chain2 ?_ ?_ ?_ ?_ ?_ | with_reducible refine' et_B ?_ | with_reducible refine' et_test ?_ | with_reducible refine' et_and2 ?_ ?_ | with_reducible refine' et_or2 ?_ ?_ | with_reducible refine' et_not ?_ | with_reducible refine' ev_call ?_ ?_ | with_reducible refine' ev_callS ?_ ?_ | with_reducible refine' ev_cb ?_ ?_ | with_reducible exact isi_bool (by assumption) | with_reducible exact isi_int (by assumption) | with_reducible exact isi_list (by assumption) | with_reducible exact rc_len (by assumption) | with_reducible exact rc_sum (by assumption) | with_reducible exact rc_abs | with_reducible exact isi_listL (by assumption) | with_reducible exact isi_intI | with_reducible exact isi_boolI | with_reducible exact rc_lenT (by assumption) | with_reducible exact isi_tup (by assumption) | with_reducible exact rv_eqL (by assumption) (by assumption) | with_reducible exact rv_neL (by assumption) (by assumption) | with_reducible exact rv_neT (by assumption) (by assumption) | with_reducible exact rv_ixL (by assumption) (by assumption) | with_reducible exact rv_ixT (by assumption) (by assumption) | with_reducible refine' ev_din ?_ ?_ (by assumption) | with_reducible refine' ev_dnotin ?_ ?_ (by assumption) | with_reducible refine' ev_dget ?_ ?_ (by assumption) (by assumption) | ((with_reducible show SpV _ _ _ _); assumption) | ((with_reducible show RV _ _ _ _ _); assumption) | ((with_reducible show RC _ _ _ _); assumption) | ((with_reducible show CDiv _ _); exact ⟨by omega, by omega⟩) | ((with_reducible show CMul _ _); first | exact .inl ⟨by omega, by omega⟩ | exact .inr ⟨by omega, by omega⟩) | ((with_reducible show CPow _ _); exact ⟨by omega, by omega, by first | decide | assumption | omega⟩) | ((with_reducible show (0 : Int) < _); omega) | ((with_reducible show (0 : Int) ≤ _); omega) | ((with_reducible show scal _ _ = true); rfl)))) h5 ((e1.trans e2).trans e25) (fresh_back (e1.trans e2) p1) q rfl

end TB

/-! ### doors that raise, tests that raise -/
namespace TB
open PySem PySem.Spec PyProof.Rows L2 Evl
section
variable {K : PySem.W.Frag} {σ : L2.St} {H H' H2 : Hp} {te : TE} {t : TT} {tu tw tz : TS} {D : Ends}
theorem el_revL {a : Addr} {xs : List V} (h : Ev te σ H (.ref a)) (hx : SqL K H a xs) : EvL (tRevL K te) σ H xs.reverse := fun H1 e Q q =>
  h H1 e _ fun H2 e2 => ⟨a, xs, rfl, ex_l (e.trans e2) hx, fun p hp => q p _ (fresh_back e2 hp) (e2.trans (Ex.new hp)) upd_same⟩
theorem rzt_test (h : Rz te σ H) : RzT (tTest te) σ H := fun H1 e Q => h H1 e _
theorem xq_if (h : RzT t σ H) : tSeq (tIfS t tu tw) tz D σ H := h H (Ex.refl H) _
theorem x_if (h : RzT t σ H) : tIfS t tu tw D σ H := h H (Ex.refl H) _
/-- all but one address is kept -/
theorem ex_but {p : Addr} (h : ∀ H0, Ex H0 H → H0 p = none → Ex H0 H2) : ∀ x u, x ≠ p → H x = some u → H2 x = some u := fun x u hx hu => by
  refine h (fun y => if y = p then none else H y) (fun y v hv => ?_) (by simp) x u ?_
  · have hv : (if y = p then none else H y) = some v := hv
    by_cases e : y = p
    · rw [if_pos e] at hv
      cases hv
    · rw [if_neg e] at hv
      exact hv
  · show (if x = p then none else H x) = _
    rw [if_neg hx]
    exact hu
end
theorem door_bad {o : Option (List V)} {f g : List Int → Re} (h : ¬ (rowOk o = true ∧ clashOf (rowsOf o) = none)) : doorRe o f = doorRe o g := by
  unfold doorRe patRe
  by_cases ho : rowOk o = true
  · rw [if_pos ho, if_pos ho]
    cases hc : clashOf (rowsOf o) with
    | none => exact absurd ⟨ho, hc⟩ h
    | some ij => rfl
  · rw [if_neg ho, if_neg ho]
theorem bad_q {K : PySem.W.Frag} {o : Option (List V)} {f g : List Int → Re} {H : Hp} {Q Q2 : VK} {E : XK} (h : ¬ (rowOk o = true ∧ clashOf (rowsOf o) = none)) (q : Give K (doorRe o f) H Q E) : Give K (doorRe o g) H Q2 E := by
  unfold doorRe patRe at q ⊢
  by_cases ho : rowOk o = true
  · rw [if_pos ho] at q ⊢
    cases hc : clashOf (rowsOf o) with
    | none => exact absurd ⟨ho, hc⟩ h
    | some ij =>
      rw [hc] at q
      exact q
  · rw [if_neg ho] at q ⊢
    exact q
end TB

/-! ### objects: rules -/
namespace TB
open PySem PySem.Spec PyProof.Rows L2 Evl
/-- a method of the class at C keeps its promise -/
structure OKM (P : Program) (w : World) (K : PySem.W.Frag) (mg : Str → Option Value) (base : Heap) (C : Addr) (m : Str) (k : Nat) (sp : Sp) : Prop where
  ex : ∃ f fd ps, Cls K C ∧ Meth K C m f ∧ Binds K fd ps [] ∧ FnOk P w K mg base (L2.CX P w) k f fd ps sp
theorem OKM.mono {P : Program} {w : World} {K : PySem.W.Frag} {mg : Str → Option Value} {base : Heap} {C : Addr} {m : Str} {j k : Nat} {sp : Sp} (O : OKM P w K mg base C m j sp) (h : j ≤ k) : OKM P w K mg base C m k sp := by
  obtain ⟨f, fd, ps, a, b, c, F⟩ := O.ex
  exact ⟨f, fd, ps, a, b, c, F.mono h⟩
/-- an own class that is made by its __init__ -/
structure OKI (P : Program) (w : World) (K : PySem.W.Frag) (mg : Str → Option Value) (base : Heap) (x : Str) (k : Nat) (sp : Sp) : Prop where
  ex : ∃ fd ps, Mk K (He.ga K x) (He.ma K (He.ga K x) "__init__") ∧ mg x = some (.ref (He.ga K x)) ∧ Binds K fd ps [] ∧ FnOk P w K mg base (L2.CX P w) k (He.ma K (He.ga K x) "__init__") fd ps sp
section
variable {X : Cx} {k : Nat} {C : Addr} {sp : Sp} {x m : Str} {p pos apos : Pos} {e o : Expr} {es : List Expr} {ta : TE} {t : TA}
variable {P : Program} {w : World} {K : PySem.W.Frag} {mg : Str → Option Value} {base : Heap}
def tMethD (P : Program) (w : World) (K : PySem.W.Frag) (mg : Str → Option Value) (base : Heap) (k : Nat) (m : Str) (E : XK) (ta : TE) (t : TA) : TE := fun σ H Q => ta σ H fun x H1 => ∃ a C dx fs sp, x = .ref a ∧ H1 a = some (.ins C dx fs) ∧ fs.lookup m = none ∧
  OKM P w K mg base C m k sp ∧ t σ H1 fun vs H2 => sp (x :: vs) H2 Q E
def tMethDS (P : Program) (w : World) (K : PySem.W.Frag) (mg : Str → Option Value) (base : Heap) (k : Nat) (m : Str) (E : L2.St → XK) (ta : TE) (t : TA) : TE := fun σ H Q => ta σ H fun x H1 => ∃ a C dx fs sp, x = .ref a ∧ H1 a = some (.ins C dx fs) ∧ fs.lookup m = none ∧
  OKM P w K mg base C m k sp ∧ t σ H1 fun vs H2 => sp (x :: vs) H2 Q (E σ)
theorem pe_methD {E : XK} {pl : Sem Bool} (he : PE X o ta) (hr : Room k X.A) (hx : Passes (L2.CX X.prog X.w) X E) (ha : PA X (e :: es) t)
    (hP : X.prog = P := by rfl) (hw : X.w = w := by rfl) (hK : X.K = K := by rfl) (hm : X.mg = mg := by rfl) (hb : X.base = base := by rfl)
    (hst : starEach (e :: es) X.env = (false, eval e X.env) :: starEach es X.env := by rfl) (hpl : (backTo pos (starEach es X.env)).any (·.1) = false := by rfl)
    (ht : eval (.Call (.Attribute o m apos) (e :: es) [] pos) X.env = (do
      let ov ← eval o X.env
      standAt apos.atName
      let (f, first) ← holding [ov] (getMethod ov m pl)
      callWith pos f first (backTo pos (starEach (e :: es) X.env)) (backToKw pos (keywordEach [] X.env))) := by rfl) :
    PE X (.Call (.Attribute o m apos) (e :: es) [] pos) (tMethD P w K mg base k m E ta t) := by
  subst hP hw hK hm hb
  refine ⟨fun pins s σ H Q I h => ?_⟩
  refine PySem.W.methodCall_KW (pl := pl) (thn (he.run pins s σ H _ I h) fun u s1 ⟨x, H1, I1, rx, a, C, dx, fs, sp, ex, ea, l, O, q⟩ => ?_) ht
  subst ex
  obtain ⟨f, fd, ps, c, hm, hb, F⟩ := O.ex
  obtain rfl : u = Value.ref a := rx
  refine getmeth_ok I1 ea c hm l ?_
  refine PySem.W.callWith_K (first := [.ref a]) (h₀ := X.base) I.ok.mod.kin hm.kp (thn (ha.run pos pins s1 σ H1 _ I1 q) fun us s2 ⟨vs, H2, I2, r, q2⟩ => ⟨I2.kIn, ?_⟩) hst hpl
  exact run_fn (us := .ref a :: us) (vs := .ref a :: vs) F hr hb .nil hx I2 (.cons rfl r) (by rw [List.append_nil]; exact q2)
theorem pe_methD0 {E : XK} {pl : Sem Bool} (he : PE X o ta) (hr : Room k X.A) (hx : Passes (L2.CX X.prog X.w) X E)
    (hP : X.prog = P := by rfl) (hw : X.w = w := by rfl) (hK : X.K = K := by rfl) (hm : X.mg = mg := by rfl) (hb : X.base = base := by rfl)
    (ht : eval (.Call (.Attribute o m apos) [] [] pos) X.env = (do
      let ov ← eval o X.env
      standAt apos.atName
      let (f, first) ← holding [ov] (getMethod ov m pl)
      callWith pos f first (backTo pos (starEach [] X.env)) (backToKw pos (keywordEach [] X.env))) := by rfl) :
    PE X (.Call (.Attribute o m apos) [] [] pos) (tMethD P w K mg base k m E ta tNil) := by
  subst hP hw hK hm hb
  refine ⟨fun pins s σ H Q I h => ?_⟩
  refine PySem.W.methodCall_KW (pl := pl) (thn (he.run pins s σ H _ I h) fun u s1 ⟨x, H1, I1, rx, a, C, dx, fs, sp, ex, ea, l, O, q⟩ => ?_) ht
  subst ex
  obtain ⟨f, fd, ps, c, hm, hb, F⟩ := O.ex
  obtain rfl : u = Value.ref a := rx
  refine getmeth_ok I1 ea c hm l ?_
  exact PySem.W.callWith_K0 (first := [.ref a]) I1.kIn hm.kp (run_fn (us := [.ref a]) (vs := [.ref a]) F hr hb .nil hx I1 (.cons rfl .nil) q)
theorem pe_methDS {E : L2.St → XK} {pl : Sem Bool} (he : PE X o ta) (hr : Room k X.A) (hx : ∀ σ, PassesAt (L2.CX X.prog X.w) X σ (E σ)) (ha : PA X (e :: es) t)
    (hP : X.prog = P := by rfl) (hw : X.w = w := by rfl) (hK : X.K = K := by rfl) (hm : X.mg = mg := by rfl) (hb : X.base = base := by rfl)
    (hst : starEach (e :: es) X.env = (false, eval e X.env) :: starEach es X.env := by rfl) (hpl : (backTo pos (starEach es X.env)).any (·.1) = false := by rfl)
    (ht : eval (.Call (.Attribute o m apos) (e :: es) [] pos) X.env = (do
      let ov ← eval o X.env
      standAt apos.atName
      let (f, first) ← holding [ov] (getMethod ov m pl)
      callWith pos f first (backTo pos (starEach (e :: es) X.env)) (backToKw pos (keywordEach [] X.env))) := by rfl) :
    PE X (.Call (.Attribute o m apos) (e :: es) [] pos) (tMethDS P w K mg base k m E ta t) := by
  subst hP hw hK hm hb
  refine ⟨fun pins s σ H Q I h => ?_⟩
  refine PySem.W.methodCall_KW (pl := pl) (thn (he.run pins s σ H _ I h) fun u s1 ⟨x, H1, I1, rx, a, C, dx, fs, sp, ex, ea, l, O, q⟩ => ?_) ht
  subst ex
  obtain ⟨f, fd, ps, c, hm, hb, F⟩ := O.ex
  obtain rfl : u = Value.ref a := rx
  refine getmeth_ok I1 ea c hm l ?_
  refine PySem.W.callWith_K (first := [.ref a]) (h₀ := X.base) I.ok.mod.kin hm.kp (thn (ha.run pos pins s1 σ H1 _ I1 q) fun us s2 ⟨vs, H2, I2, r, q2⟩ => ⟨I2.kIn, ?_⟩) hst hpl
  exact run_fnS (us := .ref a :: us) (vs := .ref a :: vs) F hr hb (hx σ) I2 (.cons rfl r) q2
/-- X(e, ..), an own class -/
theorem pe_mkI {E : XK} (O : OKI X.prog X.w X.K X.mg X.base x k sp) (hr : Room (k + 1) X.A) (hg : Gl X x) (hx : Passes (L2.CX X.prog X.w) X E) (ha : PA X (e :: es) t)
    (hK : X.K = K := by rfl) (hdb : (x == ("__debug__" : Str)) = false := by decide) (he : starEach (e :: es) X.env = (false, eval e X.env) :: starEach es X.env := by rfl) (hpl : (backTo pos (starEach es X.env)).any (·.1) = false := by rfl) :
    PE X (.Call (.Name x p) (e :: es) [] pos) (tMake (He.ga K x) sp [] E t) := by
  subst hK
  obtain ⟨fd, ps, M, hm, hb, F⟩ := O.ex
  exact pe_make M F hr hg hm hb .nil hx ha hdb he hpl
/-- what a class without an __init__ must have to be made -/
structure Mk0 (K : PySem.W.Frag) (C : Addr) : Prop where
  makes : PySem.W.makesIn K C = true
  init : PySem.W.findIn K (.ref C) "__init__" = some (some (.builtin "object.__init__"))
  kp : PySem.W.keepIn K (.ref C) = true
def tMake0 (C : Addr) : TE := fun σ H Q => ∀ x dx, H x = none → H dx = none → dx ≠ x → Q (.ref x) (upd (upd H dx (.own x)) x (.ins C dx []))
theorem pe_mk00 (M : Mk0 X.K C) (hg : Gl X x) (hm : X.mg x = some (.ref C)) (hdb : (x == ("__debug__" : Str)) = false := by decide) : PE X (.Call (.Name x p) [] [] pos) (tMake0 C) := by
  refine ⟨fun pins s σ H Q I h => ?_⟩
  refine wpAny_Call_Name_kw (ld_glob I hg hm ?_ hdb)
  refine PySem.W.callWith_K0 I.kIn M.kp ?_
  have hq := h (s.heap.objs.size + 1) s.heap.objs.size (I.hok.fresh (Nat.le_succ _)) (I.hok.fresh (Nat.le_refl _)) (Nat.ne_of_lt (Nat.lt_succ_self _))
  have I2 := Inv.made (C := C) I
  refine wpAny_call ?_
  have Y := PySem.W.makes_of (M := model X.prog X.w) I.kIn M.makes
  obtain ⟨hh, g, d, tk, os⟩ := s
  refine make_map0 I.kIn M.makes M.init (fun self => PySem.W.Looks.of_pure (PySem.W.oi_bind self)) ?_
  have hi : ((hh.push PySem.W.emptyDict).push (PySem.W.instObj C hh.objs.size)).get? (hh.objs.size + 1) = some (PySem.W.instObj C hh.objs.size) := by
    have := Heap.get?_push_size (hh.push PySem.W.emptyDict) (o := PySem.W.instObj C hh.objs.size) rfl
    rwa [Heap.size_push] at this
  have t1 : PySem.W.Looks (model X.prog X.w) ((hh.push PySem.W.emptyDict).push (PySem.W.instObj C hh.objs.size)) (typeOf (.ref (hh.objs.size + 1))) (.ref C) := (PySem.W.Looks.ld hi).andThen .now
  have t2 : PySem.W.Looks (model X.prog X.w) ((hh.push PySem.W.emptyDict).push (PySem.W.instObj C hh.objs.size)) (isInstance (.ref (hh.objs.size + 1)) (.type "object")) true := t1.andThen (Y.top.keeps fun b o e => Heap.get?_push_of_some _ (Heap.get?_push_of_some _ e))
  refine PySem.codeAny_call_builtin PySem.W.oi_plain PySem.W.entry_oi (@PySem.W.check_slot (model X.prog X.w) _ _ _ "object.__init__" "object" "__init__" (.ref (hh.objs.size + 1)) [] [] _ PySem.W.oi_kind PySem.W.oi_split t2 (PySem.W.oi_args (.ref (hh.objs.size + 1))) ?_)
  rw [PySem.W.oi_run]
  exact wpAny_pure (And.intro rfl ⟨.ref (hh.objs.size + 1), _, I2, rfl, hq⟩)
/-- C.m(e, ..): a function, read off its class -/
structure Off (K : PySem.W.Frag) (C f : Addr) (m : Str) : Prop where
  rd : PySem.W.readsIn K C (.type "type") = true
  ga : PySem.W.specialIn K (.ref C) "__getattribute__" = some (some (.builtin "type.__getattribute__"))
  at_ : PySem.W.findCls K (.ref C) (.type "type") m = some (.val (.ref f))
def tOff (C : Addr) (sp : Sp) (E : XK) (ta : TE) (t : TA) : TE := fun σ H Q => ta σ H fun x H1 => x = .ref C ∧ t σ H1 fun vs H2 => sp vs H2 Q E
theorem pe_off {E : XK} {f : Addr} {fd : FuncData} {ps : List Str} {pl : Sem Bool} (he : PE X o ta) (O : Off X.K C f m) (kp : PySem.W.keepIn X.K (.ref f) = true) (F : FnOk X.prog X.w X.K X.mg X.base (L2.CX X.prog X.w) k f fd ps sp) (hb : Binds X.K fd ps []) (hr : Room k X.A) (hx : Passes (L2.CX X.prog X.w) X E) (ha : PA X (e :: es) t)
    (hst : starEach (e :: es) X.env = (false, eval e X.env) :: starEach es X.env := by rfl) (hpl : (backTo pos (starEach es X.env)).any (·.1) = false := by rfl)
    (ht : eval (.Call (.Attribute o m apos) (e :: es) [] pos) X.env = (do
      let ov ← eval o X.env
      standAt apos.atName
      let (f, first) ← holding [ov] (getMethod ov m pl)
      callWith pos f first (backTo pos (starEach (e :: es) X.env)) (backToKw pos (keywordEach [] X.env))) := by rfl) :
    PE X (.Call (.Attribute o m apos) (e :: es) [] pos) (tOff C sp E ta t) := by
  refine ⟨fun pins s σ H Q I h => ?_⟩
  refine PySem.W.methodCall_KW (pl := pl) (thn (he.run pins s σ H _ I h) fun u s1 ⟨x, H1, I1, rx, ex, q⟩ => ?_) ht
  subst ex
  obtain rfl : u = Value.ref C := rx
  refine PySem.W.method_cls I1.kIn O.ga (PySem.W.cls_value I1.kIn O.rd O.at_ (handed_of (v := .ref f) rfl) ?_)
  refine PySem.W.callWith_K (h₀ := X.base) I.ok.mod.kin kp (thn (ha.run pos pins _ σ H1 _ (I1.tok _) q) fun us s2 ⟨vs, H2, I2, r, q2⟩ => ⟨I2.kIn, ?_⟩) hst hpl
  exact run_fn (us := us) (vs := vs) F hr hb .nil hx I2 r (by rw [List.append_nil]; exact q2)
end
end TB

/-! ### changes as data, and their methods -/
namespace TB
open PySem PySem.Spec PyProof.Rows L2 Evl
theorem mk0_ok {K : PySem.W.Frag} {x : Str} (c : (Fb.mk0 x).ok K = true) : Mk0 K (He.ga K x) := by
  obtain ⟨c1, c⟩ := He.ba c
  obtain ⟨c2, c3⟩ := He.ba c
  exact ⟨c1, of_decide_eq_true c2, c3⟩
theorem off_ok {K : PySem.W.Frag} {x m : Str} (c : (Fb.off x m).ok K = true) : Off K (He.ga K x) (He.ma K (He.ga K x) m) m := by
  obtain ⟨c1, c⟩ := He.ba c
  obtain ⟨c2, c3⟩ := He.ba c
  refine ⟨c1, of_decide_eq_true c2, ?_⟩
  split at c3
  · rename_i v hv
    rw [hv, of_decide_eq_true c3]
  · cases c3
section
variable {P : Program} {w : World} {K : PySem.W.Frag} {mg : Str → Option Value} {base : Heap} {σ : L2.St} {H H' : Hp} {ta tb te tl : TE} {t : TA} {C : Addr} {dx a : Addr} {fs : List (Str × V)} {f : Str} {v z : V} {k : Nat} {m x : Str} {sp : Sp} {vs : List V} {D : Ends} {E : XK} {Q : VK}
theorem OKM.inh {ps : List Str} (cl : Cls K (He.ga K x)) (me : Meth K (He.ga K x) m (He.ma K (He.ga K x) m)) (se : (Fb.same x m).ok K = true)
    (F : ∃ fd, Binds K fd ps [] ∧ FnOk P w K mg base (L2.CX P w) k (He.ma K (He.ga K "Change") m) fd ps sp) : OKM P w K mg base (He.ga K x) m k sp := by
  have e : He.ma K (He.ga K x) m = He.ma K (He.ga K "Change") m := of_decide_eq_true se
  obtain ⟨fd, b, F⟩ := F
  refine ⟨_, fd, ps, cl, me, b, ?_⟩
  rw [e]
  exact F
theorem ev_fld (h : Ev ta σ H (.ref a)) (ha : H a = some (.ins C dx fs)) (c : Cls K C) (n : NoAttr K C f) (l : fs.lookup f = some v) : Ev (tFld K ta f) σ H v := fun H1 e Q q =>
  h H1 e _ fun H2 e2 => ⟨a, C, dx, fs, v, rfl, e2 _ _ (e _ _ ha), c, n, l, q H2 e2⟩
theorem s_fld (hv : Ev tb σ H v) (h : Ev ta σ H (.ref a)) (ha : H a = some (.ins C dx fs)) (c : Cls K C) (n : NoAttr K C f) (hl : fs.length < 1000) (k : ∀ H1, Ex H H1 → D.nx σ (upd H1 a (.ins C dx (putF f v fs)))) : sFld K ta tb f D σ H :=
  hv H (Ex.refl H) _ fun H1 e1 => h H1 e1 _ fun H2 e2 => ⟨a, C, dx, fs, rfl, e2 _ _ (e1 _ _ ha), c, n, hl, k H2 (e1.trans e2)⟩
theorem s_fldL {xs : List V} (hv : EvL tb σ H xs) (h : Ev ta σ H (.ref a)) (ha : H a = some (.ins C dx fs)) (c : Cls K C) (n : NoAttr K C f) (hl : fs.length < 1000) (k : ∀ l H1, H l = none → Ex H H1 → H1 l = some (.lst xs) → D.nx σ (upd H1 a (.ins C dx (putF f (.ref l) fs)))) : sFld K ta tb f D σ H :=
  hv H (Ex.refl H) _ fun l H1 hn e1 hl1 => h H1 e1 _ fun H2 e2 => ⟨a, C, dx, fs, rfl, e2 _ _ (e1 _ _ ha), c, n, hl, k l H2 hn (e1.trans e2) (e2 _ _ hl1)⟩
theorem q_fld {tz : TS} (hv : Ev tb σ H v) (h : Ev ta σ H (.ref a)) (ha : H a = some (.ins C dx fs)) (c : Cls K C) (n : NoAttr K C f) (hl : fs.length < 1000) (k : ∀ H1, Ex H H1 → tz D σ (upd H1 a (.ins C dx (putF f v fs)))) : tSeq (sFld K ta tb f) tz D σ H :=
  s_fld (D := { D with nx := tz D }) hv h ha c n hl k
theorem s_retT {dvs : List V} (h : EvA t σ H vs) (k : ∀ H1, Ex H H1 → sp (vs ++ dvs) H1 D.rt E) : tRet (tCall sp dvs E t) D σ H := h H (Ex.refl H) _ fun H1 e1 => k H1 e1
/-! what makes a change -/
def sp_i1 (C : Addr) (f : Str) : Sp := fun vs H Q E => ∃ a dx v, vs = [.ref a, v] ∧ H a = some (.ins C dx []) ∧ ∀ H1, Ex H H1 → Q .non (upd H1 a (.ins C dx [(f, v)]))
def sp_i2 (C : Addr) (f g : Str) : Sp := fun vs H Q E => ∃ a dx v u, vs = [.ref a, v, u] ∧ H a = some (.ins C dx []) ∧ ∀ H1, Ex H H1 → ∀ H2, Ex (upd H1 a (.ins C dx [(f, v)])) H2 → Q .non (upd H2 a (.ins C dx [(f, v), (g, u)]))
def sp_iR (K : PySem.W.Frag) (C : Addr) (f : Str) : Sp := fun vs H Q E => ∃ a dx l xs, vs = [.ref a, .ref l] ∧ H a = some (.ins C dx []) ∧ SqL K H l xs ∧ ∀ p H1, H p = none → Ex H H1 → H1 p = some (.lst xs) → Q .non (upd H1 a (.ins C dx [(f, .ref p)]))
theorem ex_made {H1 H2 : Hp} {x : Addr} {o o' : HO} (e1 : Ex H H1) (hx : H1 x = none) (hd : H1 dx = none) (e2 : Ex (upd (upd H1 dx (.own x)) x o) H2) : Ex H (upd H2 x o') := fun c u hc => by
  have h1 := e1 _ _ hc
  have n1 : c ≠ x := fun z => by rw [z, hx] at h1; cases h1
  have n2 : c ≠ dx := fun z => by rw [z, hd] at h1; cases h1
  rw [upd_ne n1]
  refine e2 _ _ ?_
  rw [upd_ne n1, upd_ne n2]
  exact h1
theorem make1 (h : EvA t σ H [v]) (k : ∀ x dx H1, Ex H H1 → H x = none → H1 x = some (.ins C dx [(f, v)]) → Q (.ref x) H1) : tMake C (sp_i1 C f) [] E t σ H Q := h H (Ex.refl H) _ fun H1 e1 x dx hx hd _ =>
  ⟨x, dx, v, rfl, upd_same, fun H2 e2 => ⟨rfl, k x dx _ (ex_made e1 hx hd e2) (fresh_back e1 hx) upd_same⟩⟩
theorem make2 {g : Str} {u : V} (h : EvA t σ H [v, u]) (k : ∀ x dx H1, Ex H H1 → H x = none → H1 x = some (.ins C dx [(f, v), (g, u)]) → Q (.ref x) H1) : tMake C (sp_i2 C f g) [] E t σ H Q := h H (Ex.refl H) _ fun H1 e1 x dx hx hd _ =>
  ⟨x, dx, v, u, rfl, upd_same, fun H2 e2 H3 e3 => ⟨rfl, k x dx _ (fun c o hc => by
    have n1 : c ≠ x := fun z => by
      have := fresh_back e1 hx
      rw [z, this] at hc
      cases hc
    rw [upd_ne n1]
    refine e3 _ _ ?_
    rw [upd_ne n1]
    have z := ex_made (o' := .own x) e1 hx hd e2 _ _ hc
    rwa [upd_ne n1] at z) (fresh_back e1 hx) upd_same⟩⟩
theorem makeR (R : List V → Hp → Prop) (hR : ∀ xs H1 H2, Ex H1 H2 → R xs H1 → R xs H2) (h : ∀ P : VK, (∀ l xs H1, Ex H H1 → H1 l = some (.lst xs) → R xs H1 → P (.ref l) H1) → te σ H P) (k : ∀ x dx p xs H1, Ex H H1 → H x = none → H p = none → p ≠ x → H1 x = some (.ins C dx [(f, .ref p)]) → H1 p = some (.lst xs) → R xs H1 → Q (.ref x) H1) : tMake C (sp_iR K C f) [] E (tCons te tNil) σ H Q := by
  refine h _ fun l xs H1 e1 hl hr x dx hx hd hne => ?_
  have nl : l ≠ x := fun z => by rw [z, hx] at hl; cases hl
  have nd : l ≠ dx := fun z => by rw [z, hd] at hl; cases hl
  refine ⟨x, dx, l, xs, rfl, upd_same, sq_of (by rw [upd_ne nl, upd_ne nd]; exact hl), fun p H2 hp e2 hp2 => ⟨rfl, ?_⟩⟩
  have npx : p ≠ x := fun z => by rw [z, upd_same] at hp; cases hp
  have npd : p ≠ dx := fun z => by rw [z, upd_ne hne, upd_same] at hp; cases hp
  refine k x dx p xs _ (ex_made e1 hx hd e2) (fresh_back e1 hx) (fresh_back e1 (by
    rw [upd_ne npx, upd_ne npd] at hp
    exact hp)) npx upd_same ?_ (hR _ _ _ (ex_made (Ex.refl H1) hx hd e2) hr)
  rw [upd_ne npx]
  exact hp2
theorem make0 {x : Str} (k : ∀ y dx H1, Ex H H1 → H y = none → H1 y = some (.ins C dx []) → Q (.ref y) H1) : tMake0 C σ H Q := fun x dx hx hd hne => k x dx _ (fun c o hc => by
  have n1 : c ≠ x := fun z => by rw [z, hx] at hc; cases hc
  have n2 : c ≠ dx := fun z => by rw [z, hd] at hc; cases hc
  rw [upd_ne n1, upd_ne n2]
  exact hc) hx upd_same
/-- a comprehension over a new list, its items told by a relation -/
theorem t_lcRelN {xs : List V} {j : Nat} {ws : List Nat} (R : Addr → Nat → List V → Hp → Prop) (h : EvL tl σ H xs) (hz : xs.length ≤ 40000) (hw : ∀ x, wipe ((wipe σ ws).set j (some x)) ws = wipe σ ws)
    (r0 : ∀ Dl H', Ex H H' → R Dl 0 [] H')
    (step : ∀ i x acc Dl H', xs[i]? = some x → Ex H H' → H Dl = none → H' Dl = some (.lst acc) → R Dl i acc H' → ∀ P : VK, (∀ y H2, Ex H' H2 → R Dl (i + 1) (acc ++ [y]) (upd H2 Dl (.lst (acc ++ [y]))) → P y H2) → te ((wipe σ ws).set j (some x)) H' P)
    (k : ∀ Dl acc H', H Dl = none → Ex H H' → H' Dl = some (.lst acc) → R Dl xs.length acc H' → Q (.ref Dl) H') : tLc (iList K tl) (gName j) tYes te ws σ H Q :=
  h H (Ex.refl H) _ fun a H1 ha e1 hx => ⟨a, rfl, ⟨xs, sq_of hx⟩, fun Dl hD =>
    lc_list (xs := xs) (fun i H' => ∃ acc, Ex H1 H' ∧ H' Dl = some (.lst acc) ∧ acc.length ≤ i ∧ R Dl i acc H') ⟨[], Ex.new hD, upd_same, Nat.le_refl _, r0 _ _ (e1.trans (Ex.new hD))⟩
      (fun i H' _ ⟨_, e2, _⟩ => sq_of (e2 _ _ hx))
      (fun i x H' hi ⟨acc, e2, hl, hn, hr⟩ => ⟨hw x, by
        refine step i x acc Dl H' hi (e1.trans e2) (fresh_back e1 hD) hl hr _ fun y H2 e3 hr2 => ?_
        have hlt := (List.getElem?_eq_some_iff.mp hi).1
        exact ⟨acc, e3 _ _ hl, sz_lt (by omega), acc ++ [y], Ex.mut (e2.trans e3) hD, upd_same, by rw [List.length_append]; simp; omega, hr2⟩⟩)
      (fun H' ⟨acc, e2, hl, _, hr⟩ => k Dl acc H' (fresh_back e1 hD) (e1.trans e2) hl hr)⟩
end
/-! ### the simple changes -/
inductive Sim where
  | plain
  | turn (k : V)
  | lift (k : V)
  | swap (i j : V)
  | nb (k : V)
  | mir
  | gap (h : V)
def Sim.cls : Sim → Str
  | .plain => "Change"
  | .turn _ => "Turn"
  | .lift _ => "Lift"
  | .swap _ _ => "Swap"
  | .nb _ => "Neighbours"
  | .mir => "Mirror"
  | .gap _ => "Gaps"
def Sim.fs : Sim → List (Str × V)
  | .plain => []
  | .turn k => [("k", k)]
  | .lift k => [("k", k)]
  | .swap i j => [("i", i), ("j", j)]
  | .nb k => [("k", k)]
  | .mir => []
  | .gap h => [("h", h)]
def sca (v : V) : Prop := ∀ H : Hp, Kd H v
def Sim.sc : Sim → Prop
  | .turn k => sca k
  | .lift k => sca k
  | .swap i j => sca i ∧ sca j
  | .nb k => sca k
  | .gap h => sca h
  | _ => True
def Sim.done : Sim → Option (List V) → Re
  | .plain, o => doorRe o fun ns => .lst (ns.map V.int)
  | .turn k, o => doorRe o fun ns => numRe k fun i => .lst ((turnI ns i).map V.int)
  | .lift k, o => doorRe o fun ns => numRe k fun i => keptRe (ns.map (· + i))
  | .swap i j, o => doorRe o fun ns => swapRe i j ns
  | .nb k, o => doorRe o fun ns => nbRe k ns
  | .mir, o => doorRe o fun ns => .lst ((mirrorI ns).map V.int)
  | .gap h, o => doorRe o fun ns => numRe h fun i => keptRe (gapsI ns i)
def Sim.undo : Sim → Sim
  | .turn (.int k) => .turn (.int (-k))
  | .lift (.int k) => .lift (.int (-k))
  | s => s
def Sim.can : Sim → Prop
  | .turn k => ∃ i, k = .int i
  | .lift k => ∃ i, k = .int i
  | .gap k => ∃ i, k = .int i
  | _ => True
def Sim.balls : Sim → Int → Int
  | .lift (.int k), m => m + k
  | .gap (.int h), m => h - m
  | _, m => m
def SimAt (K : PySem.W.Frag) (p : Addr → Prop) (H : Hp) (v : V) (s : Sim) : Prop := ∃ a dx, v = .ref a ∧ p a ∧ H a = some (.ins (He.ga K s.cls) dx s.fs) ∧ s.sc
def goRe (f : Option (List V) → Re) : Re → Re
  | .lst xs => f (some xs)
  | r => r
def fineRe (r : Re) : Prop := (∃ ns : List Int, r = .lst (ns.map V.int)) ∨ (∃ x, r = .err x) ∨ ∃ i j, r = .clash i j
theorem fine_kept (ns : List Int) : fineRe (keptRe ns) := by
  unfold keptRe
  split
  · exact .inl ⟨_, rfl⟩
  · exact .inr (.inl ⟨_, rfl⟩)
theorem fine_num {v : V} {f : Int → Re} (h : ∀ i, fineRe (f i)) : fineRe (numRe v f) := by
  unfold numRe
  split
  · split
    · exact h _
    · exact .inr (.inl ⟨_, rfl⟩)
  · exact .inr (.inl ⟨_, rfl⟩)
theorem fine_door {o : Option (List V)} {f : List Int → Re} (h : ∀ ns, fineRe (f ns)) : fineRe (doorRe o f) := by
  unfold doorRe
  split
  · unfold patRe
    split
    · exact .inr (.inr ⟨_, _, rfl⟩)
    · exact h _
  · exact .inr (.inl ⟨_, rfl⟩)
theorem Sim.fine (s : Sim) (o : Option (List V)) : fineRe (s.done o) := by
  cases s with
  | plain => exact fine_door fun ns => .inl ⟨_, rfl⟩
  | turn k => exact fine_door fun ns => fine_num fun i => .inl ⟨_, rfl⟩
  | lift k => exact fine_door (f := fun ns => numRe k fun i => keptRe (ns.map (· + i))) fun ns => fine_num fun i => fine_kept _
  | swap i j =>
    refine fine_door fun ns => ?_
    unfold swapRe
    split
    · split
      · exact fine_kept _
      · exact .inr (.inl ⟨_, rfl⟩)
    · exact .inr (.inl ⟨_, rfl⟩)
  | nb k =>
    refine fine_door fun ns => ?_
    unfold nbRe
    split
    · split
      · exact fine_kept _
      · exact .inr (.inl ⟨_, rfl⟩)
    · exact .inr (.inl ⟨_, rfl⟩)
  | mir => exact fine_door fun ns => .inl ⟨_, rfl⟩
  | gap h => exact fine_door fun ns => fine_num fun i => fine_kept _
/-! the methods, each class by itself -/
def sp_cd (K : PySem.W.Frag) : Sp := fun vs H Q E => ∃ v pt o, vs = [v, pt] ∧ Row H pt o ∧ Give K (Sim.done .plain o) H Q E
def sp_cu : Sp := fun vs H Q E => ∃ v, vs = [v] ∧ RetV v H Q
def sp_cb : Sp := fun vs H Q E => ∃ v m, vs = [v, m] ∧ RetV m H Q
def sp_sd (K : PySem.W.Frag) (q : Sim → Prop) : Sp := fun vs H Q E => ∃ v s p pt o, vs = [v, pt] ∧ q s ∧ SimAt K p H v s ∧ Row H pt o ∧ Give K (s.done o) H Q E
def sp_su (K : PySem.W.Frag) (q : Sim → Prop) : Sp := fun vs H Q E => ∃ v s p, vs = [v] ∧ q s ∧ SimAt K p H v s ∧ s.can ∧ ∀ v' H', Ex H H' → SimAt K (fun a => H a = none) H' v' s.undo → Q v' H'
def sp_sb (K : PySem.W.Frag) (q : Sim → Prop) : Sp := fun vs H Q E => ∃ v s p m, vs = [v, .int m] ∧ q s ∧ SimAt K p H v s ∧ s.can ∧ RetV (.int (s.balls m)) H Q
theorem sc_Change_done : FnScope ["self", "pattern"] ["self", "pattern"] (defScope s_Change_done) := ⟨rfl, rfl, rfl, by decide +kernel, rfl, by decide +kernel, by decide +kernel⟩
theorem okf_Change_done {P : Program} {w : World} {K : PySem.W.Frag} {mg : Str → Option Value} {base : Heap} (T : TXT K mg)  : ∃ fd, Binds K fd ["self", "pattern"] [] ∧ FnOk P w K mg base (L2.CX P w) 9 (He.ma K (He.ga K "Change") "done") fd ["self", "pattern"] (sp_cd K) := by
  have O_check_pattern := ok_check_pattern (P := P) (w := w) (base := base) T
  obtain ⟨fd, F⟩ := T.def_ 16
  refine ⟨fd, F.bindsN (fun _ _ _ _ _ _ us hl => match us, hl with | [_, _], _ => rfl), F.ok sc_Change_done (fun vs H Q E h => ?_) (fun cdv A outer s H vs Q E hr h => ?_)⟩
  · first | (obtain ⟨rfl, _⟩ := h; rfl) | (obtain ⟨_, rfl, _⟩ := h; rfl) | (obtain ⟨_, _, rfl, _⟩ := h; rfl) | (obtain ⟨_, _, _, rfl, _⟩ := h; rfl) | (obtain ⟨_, _, _, _, rfl, _⟩ := h; rfl) | (obtain ⟨_, _, _, _, _, rfl, _⟩ := h; rfl) | (obtain ⟨_, _, _, _, _, _, rfl, _⟩ := h; rfl) | (obtain ⟨_, _, _, _, _, _, _, rfl, _⟩ := h; rfl) | (obtain ⟨_, _, _, _, _, _, _, _, rfl, _⟩ := h; rfl)
  · refine ⟨_, (pss_cons (ps_expr (pe_own O_check_pattern (hr.mono (by decide)) (by rfl) (passes_call (takes_of rfl rfl rfl rfl) (fun _ _ _ _ h => h)) (pa_cons (pv 1) pa_nil)))
      (pss_one (ps_ret (pe_callTy (T := "list") (k_list K) (by rfl) (T.free 44) (by decide +kernel) (pa_cons (pv 1) pa_nil))))), ?_⟩
    obtain ⟨v, pt, o, rfl, hk, q⟩ := h
    replace q : Give K (doorRe o fun ns => .lst (ns.map V.int)) H Q E := q
    dsimp only [cxOf, L2.start, List.map_cons, List.map_nil, List.length_cons, List.length_nil, Nat.reduceAdd, Nat.reduceSub, List.replicate_succ, List.replicate_zero, List.cons_append, List.nil_append, Nat.zero_add, List.reduceReplicate, List.map]
    by_cases hg : rowOk o = true ∧ clashOf (rowsOf o) = none
    case neg => exact xq_drop (rz_call (by (repeat' (first | with_reducible exact ev_c | ((with_reducible show Ev (tVar _) _ _ _); exact ev_var rfl) | with_reducible exact ea_nil | with_reducible exact eo_none | with_reducible refine' ea_cons ?_ ?_ | with_reducible refine' eo_some ?_ | with_reducible refine' ev_and2 ?_ ?_ | with_reducible refine' ev_or2 ?_ ?_ | with_reducible refine' ev_notV ?_ | with_reducible exact ru_I | with_reducible refine' ev_un ?_ ?_ | with_reducible exact rv_I0 | with_reducible exact rv_isN | with_reducible exact rv_notN | with_reducible refine' rv_I ?_ | with_reducible refine' rv_eq ?_ | with_reducible refine' rv_ne ?_ | with_reducible refine' ev_op ?_ ?_ ?_ | with_reducible refine' ev_chain2 ?_ ?_ ?_ ?_ ?_ | with_reducible refine' et_B ?_ | with_reducible refine' et_test ?_ | with_reducible refine' et_and2 ?_ ?_ | with_reducible refine' et_or2 ?_ ?_ | with_reducible refine' et_not ?_ | with_reducible refine' ev_call ?_ ?_ | with_reducible refine' ev_callS ?_ ?_ | with_reducible refine' ev_cb ?_ ?_ | with_reducible exact isi_bool (by assumption) | with_reducible exact isi_int (by assumption) | with_reducible exact isi_list (by assumption) | with_reducible exact rc_len (by assumption) | with_reducible exact rc_sum (by assumption) | with_reducible exact rc_abs | with_reducible exact isi_listL (by assumption) | with_reducible exact isi_intI | with_reducible exact isi_boolI | with_reducible exact rc_lenT (by assumption) | with_reducible exact isi_tup (by assumption) | with_reducible exact rv_eqL (by assumption) (by assumption) | with_reducible exact rv_neL (by assumption) (by assumption) | with_reducible exact rv_neT (by assumption) (by assumption) | with_reducible exact rv_ixL (by assumption) (by assumption) | with_reducible exact rv_ixT (by assumption) (by assumption) | with_reducible refine' ev_din ?_ ?_ (by assumption) | with_reducible refine' ev_dnotin ?_ ?_ (by assumption) | with_reducible refine' ev_dget ?_ ?_ (by assumption) (by assumption) | ((with_reducible show SpV _ _ _ _); assumption) | ((with_reducible show RV _ _ _ _ _); assumption) | ((with_reducible show RC _ _ _ _); assumption) | ((with_reducible show CDiv _ _); exact ⟨by omega, by omega⟩) | ((with_reducible show CMul _ _); first | exact .inl ⟨by omega, by omega⟩ | exact .inr ⟨by omega, by omega⟩) | ((with_reducible show CPow _ _); exact ⟨by omega, by omega, by first | decide | assumption | omega⟩) | ((with_reducible show (0 : Int) < _); omega) | ((with_reducible show (0 : Int) ≤ _); omega) | ((with_reducible show scal _ _ = true); rfl)))) (sx_check_pattern hk q hg))
    have hcp := sv_check_pattern (K := K) hk hg.1 hg.2
    obtain ⟨a, ns, rfl, rfl, ha, ⟨h1, h2, h3⟩, hc, q⟩ := door_go hk q hg
    refine q_drop (v := .non) (by (repeat' (first | with_reducible exact ev_c | ((with_reducible show Ev (tVar _) _ _ _); exact ev_var rfl) | with_reducible exact ea_nil | with_reducible exact eo_none | with_reducible refine' ea_cons ?_ ?_ | with_reducible refine' eo_some ?_ | with_reducible refine' ev_and2 ?_ ?_ | with_reducible refine' ev_or2 ?_ ?_ | with_reducible refine' ev_notV ?_ | with_reducible exact ru_I | with_reducible refine' ev_un ?_ ?_ | with_reducible exact rv_I0 | with_reducible exact rv_isN | with_reducible exact rv_notN | with_reducible refine' rv_I ?_ | with_reducible refine' rv_eq ?_ | with_reducible refine' rv_ne ?_ | with_reducible refine' ev_op ?_ ?_ ?_ | with_reducible refine' ev_chain2 ?_ ?_ ?_ ?_ ?_ | with_reducible refine' et_B ?_ | with_reducible refine' et_test ?_ | with_reducible refine' et_and2 ?_ ?_ | with_reducible refine' et_or2 ?_ ?_ | with_reducible refine' et_not ?_ | with_reducible refine' ev_call ?_ ?_ | with_reducible refine' ev_callS ?_ ?_ | with_reducible refine' ev_cb ?_ ?_ | with_reducible exact isi_bool (by assumption) | with_reducible exact isi_int (by assumption) | with_reducible exact isi_list (by assumption) | with_reducible exact rc_len (by assumption) | with_reducible exact rc_sum (by assumption) | with_reducible exact rc_abs | with_reducible exact isi_listL (by assumption) | with_reducible exact isi_intI | with_reducible exact isi_boolI | with_reducible exact rc_lenT (by assumption) | with_reducible exact isi_tup (by assumption) | with_reducible exact rv_eqL (by assumption) (by assumption) | with_reducible exact rv_neL (by assumption) (by assumption) | with_reducible exact rv_neT (by assumption) (by assumption) | with_reducible exact rv_ixL (by assumption) (by assumption) | with_reducible exact rv_ixT (by assumption) (by assumption) | with_reducible refine' ev_din ?_ ?_ (by assumption) | with_reducible refine' ev_dnotin ?_ ?_ (by assumption) | with_reducible refine' ev_dget ?_ ?_ (by assumption) (by assumption) | ((with_reducible show SpV _ _ _ _); assumption) | ((with_reducible show RV _ _ _ _ _); assumption) | ((with_reducible show RC _ _ _ _); assumption) | ((with_reducible show CDiv _ _); exact ⟨by omega, by omega⟩) | ((with_reducible show CMul _ _); first | exact .inl ⟨by omega, by omega⟩ | exact .inr ⟨by omega, by omega⟩) | ((with_reducible show CPow _ _); exact ⟨by omega, by omega, by first | decide | assumption | omega⟩) | ((with_reducible show (0 : Int) < _); omega) | ((with_reducible show (0 : Int) ≤ _); omega) | ((with_reducible show scal _ _ = true); rfl)))) fun H1 e1 => ?_
    have el : EvL (tCB (rListS K) (tCons (tVar 1) tNil)) [some v, some (.ref a)] H1 (ns.map V.int) := el_cb (ea_cons (ev_var rfl) ea_nil) (rcl_list (sq_of (e1 _ _ ha)))
    exact s_retL el fun p H2 hp e2 h2 => q p H2 (fresh_back e1 hp) (e1.trans e2) h2
theorem okm_Change_done {P : Program} {w : World} {K : PySem.W.Frag} {mg : Str → Option Value} {base : Heap} (T : TXT K mg)  : OKM P w K mg base (He.ga K "Change") "done" 9 (sp_cd K) := by
  obtain ⟨fd, b, F⟩ := okf_Change_done (P := P) (w := w) (base := base) T 
  exact ⟨_, fd, _, He.cls_ok (T.fact 56), He.meth_ok (T.fact 57), b, F⟩

theorem sc_Change_undone : FnScope ["self"] ["self"] (defScope s_Change_undone) := ⟨rfl, rfl, rfl, by decide +kernel, rfl, by decide +kernel, by decide +kernel⟩
theorem okf_Change_undone {P : Program} {w : World} {K : PySem.W.Frag} {mg : Str → Option Value} {base : Heap} (T : TXT K mg)  : ∃ fd, Binds K fd ["self"] [] ∧ FnOk P w K mg base (L2.CX P w) 9 (He.ma K (He.ga K "Change") "undone") fd ["self"] (sp_cu) := by
  obtain ⟨fd, F⟩ := T.def_ 17
  refine ⟨fd, F.bindsN (fun _ _ _ _ _ _ us hl => match us, hl with | [_], _ => rfl), F.ok sc_Change_undone (fun vs H Q E h => ?_) (fun cdv A outer s H vs Q E hr h => ?_)⟩
  · first | (obtain ⟨rfl, _⟩ := h; rfl) | (obtain ⟨_, rfl, _⟩ := h; rfl) | (obtain ⟨_, _, rfl, _⟩ := h; rfl) | (obtain ⟨_, _, _, rfl, _⟩ := h; rfl) | (obtain ⟨_, _, _, _, rfl, _⟩ := h; rfl) | (obtain ⟨_, _, _, _, _, rfl, _⟩ := h; rfl) | (obtain ⟨_, _, _, _, _, _, rfl, _⟩ := h; rfl) | (obtain ⟨_, _, _, _, _, _, _, rfl, _⟩ := h; rfl) | (obtain ⟨_, _, _, _, _, _, _, _, rfl, _⟩ := h; rfl)
  · refine ⟨_, (pss_one (ps_ret (pv 0))), ?_⟩
    obtain ⟨v, rfl, q⟩ := h
    dsimp only [cxOf, L2.start, List.map_cons, List.map_nil, List.length_cons, List.length_nil, Nat.reduceAdd, Nat.reduceSub, List.replicate_succ, List.replicate_zero, List.cons_append, List.nil_append, Nat.zero_add, List.reduceReplicate, List.map]
    exact s_ret (v := v) (by (repeat' (first | with_reducible exact ev_c | ((with_reducible show Ev (tVar _) _ _ _); exact ev_var rfl) | with_reducible exact ea_nil | with_reducible exact eo_none | with_reducible refine' ea_cons ?_ ?_ | with_reducible refine' eo_some ?_ | with_reducible refine' ev_and2 ?_ ?_ | with_reducible refine' ev_or2 ?_ ?_ | with_reducible refine' ev_notV ?_ | with_reducible exact ru_I | with_reducible refine' ev_un ?_ ?_ | with_reducible exact rv_I0 | with_reducible exact rv_isN | with_reducible exact rv_notN | with_reducible refine' rv_I ?_ | with_reducible refine' rv_eq ?_ | with_reducible refine' rv_ne ?_ | with_reducible refine' ev_op ?_ ?_ ?_ | with_reducible refine' ev_chain2 ?_ ?_ ?_ ?_ ?_ | with_reducible refine' et_B ?_ | with_reducible refine' et_test ?_ | with_reducible refine' et_and2 ?_ ?_ | with_reducible refine' et_or2 ?_ ?_ | with_reducible refine' et_not ?_ | with_reducible refine' ev_call ?_ ?_ | with_reducible refine' ev_callS ?_ ?_ | with_reducible refine' ev_cb ?_ ?_ | with_reducible exact isi_bool (by assumption) | with_reducible exact isi_int (by assumption) | with_reducible exact isi_list (by assumption) | with_reducible exact rc_len (by assumption) | with_reducible exact rc_sum (by assumption) | with_reducible exact rc_abs | with_reducible exact isi_listL (by assumption) | with_reducible exact isi_intI | with_reducible exact isi_boolI | with_reducible exact rc_lenT (by assumption) | with_reducible exact isi_tup (by assumption) | with_reducible exact rv_eqL (by assumption) (by assumption) | with_reducible exact rv_neL (by assumption) (by assumption) | with_reducible exact rv_neT (by assumption) (by assumption) | with_reducible exact rv_ixL (by assumption) (by assumption) | with_reducible exact rv_ixT (by assumption) (by assumption) | with_reducible refine' ev_din ?_ ?_ (by assumption) | with_reducible refine' ev_dnotin ?_ ?_ (by assumption) | with_reducible refine' ev_dget ?_ ?_ (by assumption) (by assumption) | ((with_reducible show SpV _ _ _ _); assumption) | ((with_reducible show RV _ _ _ _ _); assumption) | ((with_reducible show RC _ _ _ _); assumption) | ((with_reducible show CDiv _ _); exact ⟨by omega, by omega⟩) | ((with_reducible show CMul _ _); first | exact .inl ⟨by omega, by omega⟩ | exact .inr ⟨by omega, by omega⟩) | ((with_reducible show CPow _ _); exact ⟨by omega, by omega, by first | decide | assumption | omega⟩) | ((with_reducible show (0 : Int) < _); omega) | ((with_reducible show (0 : Int) ≤ _); omega) | ((with_reducible show scal _ _ = true); rfl)))) q
theorem okm_Change_undone {P : Program} {w : World} {K : PySem.W.Frag} {mg : Str → Option Value} {base : Heap} (T : TXT K mg)  : OKM P w K mg base (He.ga K "Change") "undone" 9 (sp_cu) := by
  obtain ⟨fd, b, F⟩ := okf_Change_undone (P := P) (w := w) (base := base) T 
  exact ⟨_, fd, _, He.cls_ok (T.fact 56), He.meth_ok (T.fact 58), b, F⟩

theorem sc_Change_balls : FnScope ["self", "many"] ["self", "many"] (defScope s_Change_balls) := ⟨rfl, rfl, rfl, by decide +kernel, rfl, by decide +kernel, by decide +kernel⟩
theorem okf_Change_balls {P : Program} {w : World} {K : PySem.W.Frag} {mg : Str → Option Value} {base : Heap} (T : TXT K mg)  : ∃ fd, Binds K fd ["self", "many"] [] ∧ FnOk P w K mg base (L2.CX P w) 9 (He.ma K (He.ga K "Change") "balls") fd ["self", "many"] (sp_cb) := by
  obtain ⟨fd, F⟩ := T.def_ 18
  refine ⟨fd, F.bindsN (fun _ _ _ _ _ _ us hl => match us, hl with | [_, _], _ => rfl), F.ok sc_Change_balls (fun vs H Q E h => ?_) (fun cdv A outer s H vs Q E hr h => ?_)⟩
  · first | (obtain ⟨rfl, _⟩ := h; rfl) | (obtain ⟨_, rfl, _⟩ := h; rfl) | (obtain ⟨_, _, rfl, _⟩ := h; rfl) | (obtain ⟨_, _, _, rfl, _⟩ := h; rfl) | (obtain ⟨_, _, _, _, rfl, _⟩ := h; rfl) | (obtain ⟨_, _, _, _, _, rfl, _⟩ := h; rfl) | (obtain ⟨_, _, _, _, _, _, rfl, _⟩ := h; rfl) | (obtain ⟨_, _, _, _, _, _, _, rfl, _⟩ := h; rfl) | (obtain ⟨_, _, _, _, _, _, _, _, rfl, _⟩ := h; rfl)
  · refine ⟨_, (pss_one (ps_ret (pv 1))), ?_⟩
    obtain ⟨v, m, rfl, q⟩ := h
    dsimp only [cxOf, L2.start, List.map_cons, List.map_nil, List.length_cons, List.length_nil, Nat.reduceAdd, Nat.reduceSub, List.replicate_succ, List.replicate_zero, List.cons_append, List.nil_append, Nat.zero_add, List.reduceReplicate, List.map]
    exact s_ret (v := m) (by (repeat' (first | with_reducible exact ev_c | ((with_reducible show Ev (tVar _) _ _ _); exact ev_var rfl) | with_reducible exact ea_nil | with_reducible exact eo_none | with_reducible refine' ea_cons ?_ ?_ | with_reducible refine' eo_some ?_ | with_reducible refine' ev_and2 ?_ ?_ | with_reducible refine' ev_or2 ?_ ?_ | with_reducible refine' ev_notV ?_ | with_reducible exact ru_I | with_reducible refine' ev_un ?_ ?_ | with_reducible exact rv_I0 | with_reducible exact rv_isN | with_reducible exact rv_notN | with_reducible refine' rv_I ?_ | with_reducible refine' rv_eq ?_ | with_reducible refine' rv_ne ?_ | with_reducible refine' ev_op ?_ ?_ ?_ | with_reducible refine' ev_chain2 ?_ ?_ ?_ ?_ ?_ | with_reducible refine' et_B ?_ | with_reducible refine' et_test ?_ | with_reducible refine' et_and2 ?_ ?_ | with_reducible refine' et_or2 ?_ ?_ | with_reducible refine' et_not ?_ | with_reducible refine' ev_call ?_ ?_ | with_reducible refine' ev_callS ?_ ?_ | with_reducible refine' ev_cb ?_ ?_ | with_reducible exact isi_bool (by assumption) | with_reducible exact isi_int (by assumption) | with_reducible exact isi_list (by assumption) | with_reducible exact rc_len (by assumption) | with_reducible exact rc_sum (by assumption) | with_reducible exact rc_abs | with_reducible exact isi_listL (by assumption) | with_reducible exact isi_intI | with_reducible exact isi_boolI | with_reducible exact rc_lenT (by assumption) | with_reducible exact isi_tup (by assumption) | with_reducible exact rv_eqL (by assumption) (by assumption) | with_reducible exact rv_neL (by assumption) (by assumption) | with_reducible exact rv_neT (by assumption) (by assumption) | with_reducible exact rv_ixL (by assumption) (by assumption) | with_reducible exact rv_ixT (by assumption) (by assumption) | with_reducible refine' ev_din ?_ ?_ (by assumption) | with_reducible refine' ev_dnotin ?_ ?_ (by assumption) | with_reducible refine' ev_dget ?_ ?_ (by assumption) (by assumption) | ((with_reducible show SpV _ _ _ _); assumption) | ((with_reducible show RV _ _ _ _ _); assumption) | ((with_reducible show RC _ _ _ _); assumption) | ((with_reducible show CDiv _ _); exact ⟨by omega, by omega⟩) | ((with_reducible show CMul _ _); first | exact .inl ⟨by omega, by omega⟩ | exact .inr ⟨by omega, by omega⟩) | ((with_reducible show CPow _ _); exact ⟨by omega, by omega, by first | decide | assumption | omega⟩) | ((with_reducible show (0 : Int) < _); omega) | ((with_reducible show (0 : Int) ≤ _); omega) | ((with_reducible show scal _ _ = true); rfl)))) q
theorem okm_Change_balls {P : Program} {w : World} {K : PySem.W.Frag} {mg : Str → Option Value} {base : Heap} (T : TXT K mg)  : OKM P w K mg base (He.ga K "Change") "balls" 9 (sp_cb) := by
  obtain ⟨fd, b, F⟩ := okf_Change_balls (P := P) (w := w) (base := base) T 
  exact ⟨_, fd, _, He.cls_ok (T.fact 56), He.meth_ok (T.fact 59), b, F⟩

def isTurn (s : Sim) : Prop := ∃ k, s = .turn k
def isLift (s : Sim) : Prop := ∃ k, s = .lift k
def isSwap (s : Sim) : Prop := ∃ i j, s = .swap i j
def isNb (s : Sim) : Prop := ∃ k, s = .nb k
def isMir (s : Sim) : Prop := s = .mir
def isGap (s : Sim) : Prop := ∃ k, s = .gap k
theorem sc_Turn_done : FnScope ["self", "pattern"] ["self", "pattern"] (defScope s_Turn_done) := ⟨rfl, rfl, rfl, by decide +kernel, rfl, by decide +kernel, by decide +kernel⟩
theorem okf_Turn_done {P : Program} {w : World} {K : PySem.W.Frag} {mg : Str → Option Value} {base : Heap} (T : TXT K mg)  : ∃ fd, Binds K fd ["self", "pattern"] [] ∧ FnOk P w K mg base (L2.CX P w) 9 (He.ma K (He.ga K "Turn") "done") fd ["self", "pattern"] (sp_sd K isTurn) := by
  have O_turned := ok_turned (P := P) (w := w) (base := base) T
  obtain ⟨fd, F⟩ := T.def_ 20
  refine ⟨fd, F.bindsN (fun _ _ _ _ _ _ us hl => match us, hl with | [_, _], _ => rfl), F.ok sc_Turn_done (fun vs H Q E h => ?_) (fun cdv A outer s H vs Q E hr h => ?_)⟩
  · first | (obtain ⟨rfl, _⟩ := h; rfl) | (obtain ⟨_, rfl, _⟩ := h; rfl) | (obtain ⟨_, _, rfl, _⟩ := h; rfl) | (obtain ⟨_, _, _, rfl, _⟩ := h; rfl) | (obtain ⟨_, _, _, _, rfl, _⟩ := h; rfl) | (obtain ⟨_, _, _, _, _, rfl, _⟩ := h; rfl) | (obtain ⟨_, _, _, _, _, _, rfl, _⟩ := h; rfl) | (obtain ⟨_, _, _, _, _, _, _, rfl, _⟩ := h; rfl) | (obtain ⟨_, _, _, _, _, _, _, _, rfl, _⟩ := h; rfl)
  · refine ⟨_, (pss_one (ps_ret (pe_own O_turned (hr.mono (by decide)) (by rfl) (passes_call (takes_of rfl rfl rfl rfl) (fun _ _ _ _ h => h)) (pa_cons (pv 1) (pa_cons (pe_fld (pv 0) rfl) pa_nil))))), ?_⟩
    obtain ⟨v, s, p, pt, o, rfl, ⟨k, rfl⟩, ⟨a, dx, rfl, _, ha, sc⟩, hk, q⟩ := h
    dsimp only [cxOf, L2.start, List.map_cons, List.map_nil, List.length_cons, List.length_nil, Nat.reduceAdd, Nat.reduceSub, List.replicate_succ, List.replicate_zero, List.cons_append, List.nil_append, Nat.zero_add, List.reduceReplicate, List.map]
    have ek : Ev (tFld K (tVar 0) "k") [some (.ref a), some pt] H k := ev_fld (ev_var rfl) ha (He.cls_ok (T.fact 60)) (He.noat_ok (T.fact 61)) rfl
    exact s_retT (ea_cons (ev_var rfl) (ea_cons ek ea_nil)) fun H1 e1 => ⟨pt, o, k, rfl, hk.mono e1, sc H1, q.mono e1⟩
theorem okm_Turn_done {P : Program} {w : World} {K : PySem.W.Frag} {mg : Str → Option Value} {base : Heap} (T : TXT K mg)  : OKM P w K mg base (He.ga K "Turn") "done" 9 (sp_sd K isTurn) := by
  obtain ⟨fd, b, F⟩ := okf_Turn_done (P := P) (w := w) (base := base) T 
  exact ⟨_, fd, _, He.cls_ok (T.fact 60), He.meth_ok (T.fact 63), b, F⟩

theorem sc_Lift_done : FnScope ["self", "pattern"] ["self", "pattern"] (defScope s_Lift_done) := ⟨rfl, rfl, rfl, by decide +kernel, rfl, by decide +kernel, by decide +kernel⟩
theorem okf_Lift_done {P : Program} {w : World} {K : PySem.W.Frag} {mg : Str → Option Value} {base : Heap} (T : TXT K mg)  : ∃ fd, Binds K fd ["self", "pattern"] [] ∧ FnOk P w K mg base (L2.CX P w) 9 (He.ma K (He.ga K "Lift") "done") fd ["self", "pattern"] (sp_sd K isLift) := by
  have O_lifted := ok_lifted (P := P) (w := w) (base := base) T
  obtain ⟨fd, F⟩ := T.def_ 23
  refine ⟨fd, F.bindsN (fun _ _ _ _ _ _ us hl => match us, hl with | [_, _], _ => rfl), F.ok sc_Lift_done (fun vs H Q E h => ?_) (fun cdv A outer s H vs Q E hr h => ?_)⟩
  · first | (obtain ⟨rfl, _⟩ := h; rfl) | (obtain ⟨_, rfl, _⟩ := h; rfl) | (obtain ⟨_, _, rfl, _⟩ := h; rfl) | (obtain ⟨_, _, _, rfl, _⟩ := h; rfl) | (obtain ⟨_, _, _, _, rfl, _⟩ := h; rfl) | (obtain ⟨_, _, _, _, _, rfl, _⟩ := h; rfl) | (obtain ⟨_, _, _, _, _, _, rfl, _⟩ := h; rfl) | (obtain ⟨_, _, _, _, _, _, _, rfl, _⟩ := h; rfl) | (obtain ⟨_, _, _, _, _, _, _, _, rfl, _⟩ := h; rfl)
  · refine ⟨_, (pss_one (ps_ret (pe_own O_lifted (hr.mono (by decide)) (by rfl) (passes_call (takes_of rfl rfl rfl rfl) (fun _ _ _ _ h => h)) (pa_cons (pv 1) (pa_cons (pe_fld (pv 0) rfl) pa_nil))))), ?_⟩
    obtain ⟨v, s, p, pt, o, rfl, ⟨k, rfl⟩, ⟨a, dx, rfl, _, ha, sc⟩, hk, q⟩ := h
    dsimp only [cxOf, L2.start, List.map_cons, List.map_nil, List.length_cons, List.length_nil, Nat.reduceAdd, Nat.reduceSub, List.replicate_succ, List.replicate_zero, List.cons_append, List.nil_append, Nat.zero_add, List.reduceReplicate, List.map]
    have ek : Ev (tFld K (tVar 0) "k") [some (.ref a), some pt] H k := ev_fld (ev_var rfl) ha (He.cls_ok (T.fact 66)) (He.noat_ok (T.fact 67)) rfl
    exact s_retT (ea_cons (ev_var rfl) (ea_cons ek ea_nil)) fun H1 e1 => ⟨pt, o, k, rfl, hk.mono e1, sc H1, q.mono e1⟩
theorem okm_Lift_done {P : Program} {w : World} {K : PySem.W.Frag} {mg : Str → Option Value} {base : Heap} (T : TXT K mg)  : OKM P w K mg base (He.ga K "Lift") "done" 9 (sp_sd K isLift) := by
  obtain ⟨fd, b, F⟩ := okf_Lift_done (P := P) (w := w) (base := base) T 
  exact ⟨_, fd, _, He.cls_ok (T.fact 66), He.meth_ok (T.fact 69), b, F⟩

theorem sc_Gaps_done : FnScope ["self", "pattern"] ["self", "pattern"] (defScope s_Gaps_done) := ⟨rfl, rfl, rfl, by decide +kernel, rfl, by decide +kernel, by decide +kernel⟩
theorem okf_Gaps_done {P : Program} {w : World} {K : PySem.W.Frag} {mg : Str → Option Value} {base : Heap} (T : TXT K mg)  : ∃ fd, Binds K fd ["self", "pattern"] [] ∧ FnOk P w K mg base (L2.CX P w) 9 (He.ma K (He.ga K "Gaps") "done") fd ["self", "pattern"] (sp_sd K isGap) := by
  have O_gaps := ok_gaps (P := P) (w := w) (base := base) T
  obtain ⟨fd, F⟩ := T.def_ 32
  refine ⟨fd, F.bindsN (fun _ _ _ _ _ _ us hl => match us, hl with | [_, _], _ => rfl), F.ok sc_Gaps_done (fun vs H Q E h => ?_) (fun cdv A outer s H vs Q E hr h => ?_)⟩
  · first | (obtain ⟨rfl, _⟩ := h; rfl) | (obtain ⟨_, rfl, _⟩ := h; rfl) | (obtain ⟨_, _, rfl, _⟩ := h; rfl) | (obtain ⟨_, _, _, rfl, _⟩ := h; rfl) | (obtain ⟨_, _, _, _, rfl, _⟩ := h; rfl) | (obtain ⟨_, _, _, _, _, rfl, _⟩ := h; rfl) | (obtain ⟨_, _, _, _, _, _, rfl, _⟩ := h; rfl) | (obtain ⟨_, _, _, _, _, _, _, rfl, _⟩ := h; rfl) | (obtain ⟨_, _, _, _, _, _, _, _, rfl, _⟩ := h; rfl)
  · refine ⟨_, (pss_one (ps_ret (pe_own O_gaps (hr.mono (by decide)) (by rfl) (passes_call (takes_of rfl rfl rfl rfl) (fun _ _ _ _ h => h)) (pa_cons (pv 1) (pa_cons (pe_fld (pv 0) rfl) pa_nil))))), ?_⟩
    obtain ⟨v, s, p, pt, o, rfl, ⟨k, rfl⟩, ⟨a, dx, rfl, _, ha, sc⟩, hk, q⟩ := h
    dsimp only [cxOf, L2.start, List.map_cons, List.map_nil, List.length_cons, List.length_nil, Nat.reduceAdd, Nat.reduceSub, List.replicate_succ, List.replicate_zero, List.cons_append, List.nil_append, Nat.zero_add, List.reduceReplicate, List.map]
    have ek : Ev (tFld K (tVar 0) "h") [some (.ref a), some pt] H k := ev_fld (ev_var rfl) ha (He.cls_ok (T.fact 89)) (He.noat_ok (T.fact 90)) rfl
    exact s_retT (ea_cons (ev_var rfl) (ea_cons ek ea_nil)) fun H1 e1 => ⟨pt, o, k, rfl, hk.mono e1, sc H1, q.mono e1⟩
theorem okm_Gaps_done {P : Program} {w : World} {K : PySem.W.Frag} {mg : Str → Option Value} {base : Heap} (T : TXT K mg)  : OKM P w K mg base (He.ga K "Gaps") "done" 9 (sp_sd K isGap) := by
  obtain ⟨fd, b, F⟩ := okf_Gaps_done (P := P) (w := w) (base := base) T 
  exact ⟨_, fd, _, He.cls_ok (T.fact 89), He.meth_ok (T.fact 92), b, F⟩

theorem sc_Neighbours_done : FnScope ["self", "pattern"] ["self", "pattern"] (defScope s_Neighbours_done) := ⟨rfl, rfl, rfl, by decide +kernel, rfl, by decide +kernel, by decide +kernel⟩
theorem okf_Neighbours_done {P : Program} {w : World} {K : PySem.W.Frag} {mg : Str → Option Value} {base : Heap} (T : TXT K mg)  : ∃ fd, Binds K fd ["self", "pattern"] [] ∧ FnOk P w K mg base (L2.CX P w) 9 (He.ma K (He.ga K "Neighbours") "done") fd ["self", "pattern"] (sp_sd K isNb) := by
  have O_neighbours := ok_neighbours (P := P) (w := w) (base := base) T
  obtain ⟨fd, F⟩ := T.def_ 29
  refine ⟨fd, F.bindsN (fun _ _ _ _ _ _ us hl => match us, hl with | [_, _], _ => rfl), F.ok sc_Neighbours_done (fun vs H Q E h => ?_) (fun cdv A outer s H vs Q E hr h => ?_)⟩
  · first | (obtain ⟨rfl, _⟩ := h; rfl) | (obtain ⟨_, rfl, _⟩ := h; rfl) | (obtain ⟨_, _, rfl, _⟩ := h; rfl) | (obtain ⟨_, _, _, rfl, _⟩ := h; rfl) | (obtain ⟨_, _, _, _, rfl, _⟩ := h; rfl) | (obtain ⟨_, _, _, _, _, rfl, _⟩ := h; rfl) | (obtain ⟨_, _, _, _, _, _, rfl, _⟩ := h; rfl) | (obtain ⟨_, _, _, _, _, _, _, rfl, _⟩ := h; rfl) | (obtain ⟨_, _, _, _, _, _, _, _, rfl, _⟩ := h; rfl)
  · refine ⟨_, (pss_one (ps_ret (pe_own O_neighbours (hr.mono (by decide)) (by rfl) (passes_call (takes_of rfl rfl rfl rfl) (fun _ _ _ _ h => h)) (pa_cons (pv 1) (pa_cons (pe_fld (pv 0) rfl) pa_nil))))), ?_⟩
    obtain ⟨v, s, p, pt, o, rfl, ⟨k, rfl⟩, ⟨a, dx, rfl, _, ha, sc⟩, hk, q⟩ := h
    dsimp only [cxOf, L2.start, List.map_cons, List.map_nil, List.length_cons, List.length_nil, Nat.reduceAdd, Nat.reduceSub, List.replicate_succ, List.replicate_zero, List.cons_append, List.nil_append, Nat.zero_add, List.reduceReplicate, List.map]
    have ek : Ev (tFld K (tVar 0) "k") [some (.ref a), some pt] H k := ev_fld (ev_var rfl) ha (He.cls_ok (T.fact 79)) (He.noat_ok (T.fact 80)) rfl
    exact s_retT (ea_cons (ev_var rfl) (ea_cons ek ea_nil)) fun H1 e1 => ⟨pt, o, k, rfl, hk.mono e1, sc H1, q.mono e1⟩
theorem okm_Neighbours_done {P : Program} {w : World} {K : PySem.W.Frag} {mg : Str → Option Value} {base : Heap} (T : TXT K mg)  : OKM P w K mg base (He.ga K "Neighbours") "done" 9 (sp_sd K isNb) := by
  obtain ⟨fd, b, F⟩ := okf_Neighbours_done (P := P) (w := w) (base := base) T 
  exact ⟨_, fd, _, He.cls_ok (T.fact 79), He.meth_ok (T.fact 82), b, F⟩

theorem sc_Mirror_done : FnScope ["self", "pattern"] ["self", "pattern"] (defScope s_Mirror_done) := ⟨rfl, rfl, rfl, by decide +kernel, rfl, by decide +kernel, by decide +kernel⟩
theorem okf_Mirror_done {P : Program} {w : World} {K : PySem.W.Frag} {mg : Str → Option Value} {base : Heap} (T : TXT K mg)  : ∃ fd, Binds K fd ["self", "pattern"] [] ∧ FnOk P w K mg base (L2.CX P w) 9 (He.ma K (He.ga K "Mirror") "done") fd ["self", "pattern"] (sp_sd K isMir) := by
  have O_mirrored := ok_mirrored (P := P) (w := w) (base := base) T
  obtain ⟨fd, F⟩ := T.def_ 30
  refine ⟨fd, F.bindsN (fun _ _ _ _ _ _ us hl => match us, hl with | [_, _], _ => rfl), F.ok sc_Mirror_done (fun vs H Q E h => ?_) (fun cdv A outer s H vs Q E hr h => ?_)⟩
  · first | (obtain ⟨rfl, _⟩ := h; rfl) | (obtain ⟨_, rfl, _⟩ := h; rfl) | (obtain ⟨_, _, rfl, _⟩ := h; rfl) | (obtain ⟨_, _, _, rfl, _⟩ := h; rfl) | (obtain ⟨_, _, _, _, rfl, _⟩ := h; rfl) | (obtain ⟨_, _, _, _, _, rfl, _⟩ := h; rfl) | (obtain ⟨_, _, _, _, _, _, rfl, _⟩ := h; rfl) | (obtain ⟨_, _, _, _, _, _, _, rfl, _⟩ := h; rfl) | (obtain ⟨_, _, _, _, _, _, _, _, rfl, _⟩ := h; rfl)
  · refine ⟨_, (pss_one (ps_ret (pe_own O_mirrored (hr.mono (by decide)) (by rfl) (passes_call (takes_of rfl rfl rfl rfl) (fun _ _ _ _ h => h)) (pa_cons (pv 1) pa_nil)))), ?_⟩
    obtain ⟨v, s, p, pt, o, rfl, rfl, ⟨a, dx, rfl, _, ha, sc⟩, hk, q⟩ := h
    dsimp only [cxOf, L2.start, List.map_cons, List.map_nil, List.length_cons, List.length_nil, Nat.reduceAdd, Nat.reduceSub, List.replicate_succ, List.replicate_zero, List.cons_append, List.nil_append, Nat.zero_add, List.reduceReplicate, List.map]
    exact s_retT (ea_cons (ev_var rfl) ea_nil) fun H1 e1 => ⟨pt, o, rfl, hk.mono e1, q.mono e1⟩
theorem okm_Mirror_done {P : Program} {w : World} {K : PySem.W.Frag} {mg : Str → Option Value} {base : Heap} (T : TXT K mg)  : OKM P w K mg base (He.ga K "Mirror") "done" 9 (sp_sd K isMir) := by
  obtain ⟨fd, b, F⟩ := okf_Mirror_done (P := P) (w := w) (base := base) T 
  exact ⟨_, fd, _, He.cls_ok (T.fact 85), He.meth_ok (T.fact 86), b, F⟩

theorem sc_Swap_done : FnScope ["self", "pattern"] ["self", "pattern"] (defScope s_Swap_done) := ⟨rfl, rfl, rfl, by decide +kernel, rfl, by decide +kernel, by decide +kernel⟩
theorem okf_Swap_done {P : Program} {w : World} {K : PySem.W.Frag} {mg : Str → Option Value} {base : Heap} (T : TXT K mg)  : ∃ fd, Binds K fd ["self", "pattern"] [] ∧ FnOk P w K mg base (L2.CX P w) 9 (He.ma K (He.ga K "Swap") "done") fd ["self", "pattern"] (sp_sd K isSwap) := by
  have O_swapped := ok_swapped (P := P) (w := w) (base := base) T
  obtain ⟨fd, F⟩ := T.def_ 27
  refine ⟨fd, F.bindsN (fun _ _ _ _ _ _ us hl => match us, hl with | [_, _], _ => rfl), F.ok sc_Swap_done (fun vs H Q E h => ?_) (fun cdv A outer s H vs Q E hr h => ?_)⟩
  · first | (obtain ⟨rfl, _⟩ := h; rfl) | (obtain ⟨_, rfl, _⟩ := h; rfl) | (obtain ⟨_, _, rfl, _⟩ := h; rfl) | (obtain ⟨_, _, _, rfl, _⟩ := h; rfl) | (obtain ⟨_, _, _, _, rfl, _⟩ := h; rfl) | (obtain ⟨_, _, _, _, _, rfl, _⟩ := h; rfl) | (obtain ⟨_, _, _, _, _, _, rfl, _⟩ := h; rfl) | (obtain ⟨_, _, _, _, _, _, _, rfl, _⟩ := h; rfl) | (obtain ⟨_, _, _, _, _, _, _, _, rfl, _⟩ := h; rfl)
  · refine ⟨_, (pss_one (ps_ret (pe_own O_swapped (hr.mono (by decide)) (by rfl) (passes_call (takes_of rfl rfl rfl rfl) (fun _ _ _ _ h => h)) (pa_cons (pv 1) (pa_cons (pe_fld (pv 0) rfl) (pa_cons (pe_fld (pv 0) rfl) pa_nil)))))), ?_⟩
    obtain ⟨v, s, p, pt, o, rfl, ⟨i, j, rfl⟩, ⟨a, dx, rfl, _, ha, sc⟩, hk, q⟩ := h
    dsimp only [cxOf, L2.start, List.map_cons, List.map_nil, List.length_cons, List.length_nil, Nat.reduceAdd, Nat.reduceSub, List.replicate_succ, List.replicate_zero, List.cons_append, List.nil_append, Nat.zero_add, List.reduceReplicate, List.map]
    have ei : Ev (tFld K (tVar 0) "i") [some (.ref a), some pt] H i := ev_fld (ev_var rfl) ha (He.cls_ok (T.fact 72)) (He.noat_ok (T.fact 73)) rfl
    have ej : Ev (tFld K (tVar 0) "j") [some (.ref a), some pt] H j := ev_fld (ev_var rfl) ha (He.cls_ok (T.fact 72)) (He.noat_ok (T.fact 74)) rfl
    exact s_retT (ea_cons (ev_var rfl) (ea_cons ei (ea_cons ej ea_nil))) fun H1 e1 => ⟨pt, o, i, j, rfl, hk.mono e1, sc.1 H1, sc.2 H1, q.mono e1⟩
theorem okm_Swap_done {P : Program} {w : World} {K : PySem.W.Frag} {mg : Str → Option Value} {base : Heap} (T : TXT K mg)  : OKM P w K mg base (He.ga K "Swap") "done" 9 (sp_sd K isSwap) := by
  obtain ⟨fd, b, F⟩ := okf_Swap_done (P := P) (w := w) (base := base) T 
  exact ⟨_, fd, _, He.cls_ok (T.fact 72), He.meth_ok (T.fact 76), b, F⟩

theorem sc_Turn___init__ : FnScope ["self", "k"] ["self", "k"] (defScope s_Turn___init__) := ⟨rfl, rfl, rfl, by decide +kernel, rfl, by decide +kernel, by decide +kernel⟩
theorem oki_Turn {P : Program} {w : World} {K : PySem.W.Frag} {mg : Str → Option Value} {base : Heap} (T : TXT K mg)  : OKI P w K mg base "Turn" 1 (sp_i1 (He.ga K "Turn") "k") := by
  obtain ⟨fd, F⟩ := T.def_ 19
  refine ⟨fd, _, He.mkr_ok (T.fact 62), T.glo 32, F.bindsN (fun _ _ _ _ _ _ us hl => match us, hl with | [_, _], _ => rfl), F.ok sc_Turn___init__ (fun vs H Q E h => ?_) (fun cdv A outer s H vs Q E hr h => ?_)⟩
  · first | (obtain ⟨rfl, _⟩ := h; rfl) | (obtain ⟨_, rfl, _⟩ := h; rfl) | (obtain ⟨_, _, rfl, _⟩ := h; rfl) | (obtain ⟨_, _, _, rfl, _⟩ := h; rfl) | (obtain ⟨_, _, _, _, rfl, _⟩ := h; rfl) | (obtain ⟨_, _, _, _, _, rfl, _⟩ := h; rfl) | (obtain ⟨_, _, _, _, _, _, rfl, _⟩ := h; rfl) | (obtain ⟨_, _, _, _, _, _, _, rfl, _⟩ := h; rfl) | (obtain ⟨_, _, _, _, _, _, _, _, rfl, _⟩ := h; rfl)
  · refine ⟨_, (pss_one (ps_fld (pv 0) (pv 1) rfl)), ?_⟩
    obtain ⟨a, dx, v, rfl, ha, q⟩ := h
    dsimp only [cxOf, L2.start, List.map_cons, List.map_nil, List.length_cons, List.length_nil, Nat.reduceAdd, Nat.reduceSub, List.replicate_succ, List.replicate_zero, List.cons_append, List.nil_append, Nat.zero_add, List.reduceReplicate, List.map]
    exact s_fld (ev_var rfl) (ev_var rfl) ha (He.cls_ok (T.fact 60)) (He.noat_ok (T.fact 61)) (by decide) q

theorem sc_Lift___init__ : FnScope ["self", "k"] ["self", "k"] (defScope s_Lift___init__) := ⟨rfl, rfl, rfl, by decide +kernel, rfl, by decide +kernel, by decide +kernel⟩
theorem oki_Lift {P : Program} {w : World} {K : PySem.W.Frag} {mg : Str → Option Value} {base : Heap} (T : TXT K mg)  : OKI P w K mg base "Lift" 1 (sp_i1 (He.ga K "Lift") "k") := by
  obtain ⟨fd, F⟩ := T.def_ 22
  refine ⟨fd, _, He.mkr_ok (T.fact 68), T.glo 33, F.bindsN (fun _ _ _ _ _ _ us hl => match us, hl with | [_, _], _ => rfl), F.ok sc_Lift___init__ (fun vs H Q E h => ?_) (fun cdv A outer s H vs Q E hr h => ?_)⟩
  · first | (obtain ⟨rfl, _⟩ := h; rfl) | (obtain ⟨_, rfl, _⟩ := h; rfl) | (obtain ⟨_, _, rfl, _⟩ := h; rfl) | (obtain ⟨_, _, _, rfl, _⟩ := h; rfl) | (obtain ⟨_, _, _, _, rfl, _⟩ := h; rfl) | (obtain ⟨_, _, _, _, _, rfl, _⟩ := h; rfl) | (obtain ⟨_, _, _, _, _, _, rfl, _⟩ := h; rfl) | (obtain ⟨_, _, _, _, _, _, _, rfl, _⟩ := h; rfl) | (obtain ⟨_, _, _, _, _, _, _, _, rfl, _⟩ := h; rfl)
  · refine ⟨_, (pss_one (ps_fld (pv 0) (pv 1) rfl)), ?_⟩
    obtain ⟨a, dx, v, rfl, ha, q⟩ := h
    dsimp only [cxOf, L2.start, List.map_cons, List.map_nil, List.length_cons, List.length_nil, Nat.reduceAdd, Nat.reduceSub, List.replicate_succ, List.replicate_zero, List.cons_append, List.nil_append, Nat.zero_add, List.reduceReplicate, List.map]
    exact s_fld (ev_var rfl) (ev_var rfl) ha (He.cls_ok (T.fact 66)) (He.noat_ok (T.fact 67)) (by decide) q

theorem sc_Neighbours___init__ : FnScope ["self", "k"] ["self", "k"] (defScope s_Neighbours___init__) := ⟨rfl, rfl, rfl, by decide +kernel, rfl, by decide +kernel, by decide +kernel⟩
theorem oki_Neighbours {P : Program} {w : World} {K : PySem.W.Frag} {mg : Str → Option Value} {base : Heap} (T : TXT K mg)  : OKI P w K mg base "Neighbours" 1 (sp_i1 (He.ga K "Neighbours") "k") := by
  obtain ⟨fd, F⟩ := T.def_ 28
  refine ⟨fd, _, He.mkr_ok (T.fact 81), T.glo 35, F.bindsN (fun _ _ _ _ _ _ us hl => match us, hl with | [_, _], _ => rfl), F.ok sc_Neighbours___init__ (fun vs H Q E h => ?_) (fun cdv A outer s H vs Q E hr h => ?_)⟩
  · first | (obtain ⟨rfl, _⟩ := h; rfl) | (obtain ⟨_, rfl, _⟩ := h; rfl) | (obtain ⟨_, _, rfl, _⟩ := h; rfl) | (obtain ⟨_, _, _, rfl, _⟩ := h; rfl) | (obtain ⟨_, _, _, _, rfl, _⟩ := h; rfl) | (obtain ⟨_, _, _, _, _, rfl, _⟩ := h; rfl) | (obtain ⟨_, _, _, _, _, _, rfl, _⟩ := h; rfl) | (obtain ⟨_, _, _, _, _, _, _, rfl, _⟩ := h; rfl) | (obtain ⟨_, _, _, _, _, _, _, _, rfl, _⟩ := h; rfl)
  · refine ⟨_, (pss_one (ps_fld (pv 0) (pv 1) rfl)), ?_⟩
    obtain ⟨a, dx, v, rfl, ha, q⟩ := h
    dsimp only [cxOf, L2.start, List.map_cons, List.map_nil, List.length_cons, List.length_nil, Nat.reduceAdd, Nat.reduceSub, List.replicate_succ, List.replicate_zero, List.cons_append, List.nil_append, Nat.zero_add, List.reduceReplicate, List.map]
    exact s_fld (ev_var rfl) (ev_var rfl) ha (He.cls_ok (T.fact 79)) (He.noat_ok (T.fact 80)) (by decide) q

theorem sc_Gaps___init__ : FnScope ["self", "h"] ["self", "h"] (defScope s_Gaps___init__) := ⟨rfl, rfl, rfl, by decide +kernel, rfl, by decide +kernel, by decide +kernel⟩
theorem oki_Gaps {P : Program} {w : World} {K : PySem.W.Frag} {mg : Str → Option Value} {base : Heap} (T : TXT K mg)  : OKI P w K mg base "Gaps" 1 (sp_i1 (He.ga K "Gaps") "h") := by
  obtain ⟨fd, F⟩ := T.def_ 31
  refine ⟨fd, _, He.mkr_ok (T.fact 91), T.glo 37, F.bindsN (fun _ _ _ _ _ _ us hl => match us, hl with | [_, _], _ => rfl), F.ok sc_Gaps___init__ (fun vs H Q E h => ?_) (fun cdv A outer s H vs Q E hr h => ?_)⟩
  · first | (obtain ⟨rfl, _⟩ := h; rfl) | (obtain ⟨_, rfl, _⟩ := h; rfl) | (obtain ⟨_, _, rfl, _⟩ := h; rfl) | (obtain ⟨_, _, _, rfl, _⟩ := h; rfl) | (obtain ⟨_, _, _, _, rfl, _⟩ := h; rfl) | (obtain ⟨_, _, _, _, _, rfl, _⟩ := h; rfl) | (obtain ⟨_, _, _, _, _, _, rfl, _⟩ := h; rfl) | (obtain ⟨_, _, _, _, _, _, _, rfl, _⟩ := h; rfl) | (obtain ⟨_, _, _, _, _, _, _, _, rfl, _⟩ := h; rfl)
  · refine ⟨_, (pss_one (ps_fld (pv 0) (pv 1) rfl)), ?_⟩
    obtain ⟨a, dx, v, rfl, ha, q⟩ := h
    dsimp only [cxOf, L2.start, List.map_cons, List.map_nil, List.length_cons, List.length_nil, Nat.reduceAdd, Nat.reduceSub, List.replicate_succ, List.replicate_zero, List.cons_append, List.nil_append, Nat.zero_add, List.reduceReplicate, List.map]
    exact s_fld (ev_var rfl) (ev_var rfl) ha (He.cls_ok (T.fact 89)) (He.noat_ok (T.fact 90)) (by decide) q

theorem sc_Swap___init__ : FnScope ["self", "i", "j"] ["self", "i", "j"] (defScope s_Swap___init__) := ⟨rfl, rfl, rfl, by decide +kernel, rfl, by decide +kernel, by decide +kernel⟩
theorem oki_Swap {P : Program} {w : World} {K : PySem.W.Frag} {mg : Str → Option Value} {base : Heap} (T : TXT K mg)  : OKI P w K mg base "Swap" 1 (sp_i2 (He.ga K "Swap") "i" "j") := by
  obtain ⟨fd, F⟩ := T.def_ 26
  refine ⟨fd, _, He.mkr_ok (T.fact 75), T.glo 34, F.bindsN (fun _ _ _ _ _ _ us hl => match us, hl with | [_, _, _], _ => rfl), F.ok sc_Swap___init__ (fun vs H Q E h => ?_) (fun cdv A outer s H vs Q E hr h => ?_)⟩
  · first | (obtain ⟨rfl, _⟩ := h; rfl) | (obtain ⟨_, rfl, _⟩ := h; rfl) | (obtain ⟨_, _, rfl, _⟩ := h; rfl) | (obtain ⟨_, _, _, rfl, _⟩ := h; rfl) | (obtain ⟨_, _, _, _, rfl, _⟩ := h; rfl) | (obtain ⟨_, _, _, _, _, rfl, _⟩ := h; rfl) | (obtain ⟨_, _, _, _, _, _, rfl, _⟩ := h; rfl) | (obtain ⟨_, _, _, _, _, _, _, rfl, _⟩ := h; rfl) | (obtain ⟨_, _, _, _, _, _, _, _, rfl, _⟩ := h; rfl)
  · refine ⟨_, (pss_cons (ps_fld (pv 0) (pv 1) rfl)
      (pss_one (ps_fld (pv 0) (pv 2) rfl))), ?_⟩
    obtain ⟨a, dx, v, u, rfl, ha, q⟩ := h
    dsimp only [cxOf, L2.start, List.map_cons, List.map_nil, List.length_cons, List.length_nil, Nat.reduceAdd, Nat.reduceSub, List.replicate_succ, List.replicate_zero, List.cons_append, List.nil_append, Nat.zero_add, List.reduceReplicate, List.map]
    refine q_fld (ev_var rfl) (ev_var rfl) ha (He.cls_ok (T.fact 72)) (He.noat_ok (T.fact 73)) (by decide) fun H1 e1 => ?_
    exact s_fld (ev_var rfl) (ev_var rfl) upd_same (He.cls_ok (T.fact 72)) (He.noat_ok (T.fact 74)) (show 1 < 1000 by decide) (q H1 e1)

theorem sc_Changes___init__ : FnScope ["self", "rows"] ["self", "rows"] (defScope s_Changes___init__) := ⟨rfl, rfl, rfl, by decide +kernel, rfl, by decide +kernel, by decide +kernel⟩
theorem oki_Changes {P : Program} {w : World} {K : PySem.W.Frag} {mg : Str → Option Value} {base : Heap} (T : TXT K mg)  : OKI P w K mg base "Changes" 1 (sp_iR K (He.ga K "Changes") "rows") := by
  obtain ⟨fd, F⟩ := T.def_ 34
  refine ⟨fd, _, He.mkr_ok (T.fact 97), T.glo 38, F.bindsN (fun _ _ _ _ _ _ us hl => match us, hl with | [_, _], _ => rfl), F.ok sc_Changes___init__ (fun vs H Q E h => ?_) (fun cdv A outer s H vs Q E hr h => ?_)⟩
  · first | (obtain ⟨rfl, _⟩ := h; rfl) | (obtain ⟨_, rfl, _⟩ := h; rfl) | (obtain ⟨_, _, rfl, _⟩ := h; rfl) | (obtain ⟨_, _, _, rfl, _⟩ := h; rfl) | (obtain ⟨_, _, _, _, rfl, _⟩ := h; rfl) | (obtain ⟨_, _, _, _, _, rfl, _⟩ := h; rfl) | (obtain ⟨_, _, _, _, _, _, rfl, _⟩ := h; rfl) | (obtain ⟨_, _, _, _, _, _, _, rfl, _⟩ := h; rfl) | (obtain ⟨_, _, _, _, _, _, _, _, rfl, _⟩ := h; rfl)
  · refine ⟨_, (pss_one (ps_fld (pv 0) (pe_callTy (T := "list") (k_list K) (by rfl) (T.free 44) (by decide +kernel) (pa_cons (pv 1) pa_nil)) rfl)), ?_⟩
    obtain ⟨a, dx, l, xs, rfl, ha, hl, q⟩ := h
    dsimp only [cxOf, L2.start, List.map_cons, List.map_nil, List.length_cons, List.length_nil, Nat.reduceAdd, Nat.reduceSub, List.replicate_succ, List.replicate_zero, List.cons_append, List.nil_append, Nat.zero_add, List.reduceReplicate, List.map]
    have el : EvL (tCB (rListS K) (tCons (tVar 1) tNil)) [some (V.ref a), some (.ref l)] H xs := el_cb (ea_cons (ev_var rfl) ea_nil) (rcl_list hl)
    exact s_fldL el (ev_var rfl) ha (He.cls_ok (T.fact 95)) (He.noat_ok (T.fact 96)) (by decide) q

theorem sc_Turn_undone : FnScope ["self"] ["self"] (defScope s_Turn_undone) := ⟨rfl, rfl, rfl, by decide +kernel, rfl, by decide +kernel, by decide +kernel⟩
theorem okf_Turn_undone {P : Program} {w : World} {K : PySem.W.Frag} {mg : Str → Option Value} {base : Heap} (T : TXT K mg)  : ∃ fd, Binds K fd ["self"] [] ∧ FnOk P w K mg base (L2.CX P w) 9 (He.ma K (He.ga K "Turn") "undone") fd ["self"] (sp_su K isTurn) := by
  have I_Turn := oki_Turn (P := P) (w := w) (base := base) T
  obtain ⟨fd, F⟩ := T.def_ 21
  refine ⟨fd, F.bindsN (fun _ _ _ _ _ _ us hl => match us, hl with | [_], _ => rfl), F.ok sc_Turn_undone (fun vs H Q E h => ?_) (fun cdv A outer s H vs Q E hr h => ?_)⟩
  · first | (obtain ⟨rfl, _⟩ := h; rfl) | (obtain ⟨_, rfl, _⟩ := h; rfl) | (obtain ⟨_, _, rfl, _⟩ := h; rfl) | (obtain ⟨_, _, _, rfl, _⟩ := h; rfl) | (obtain ⟨_, _, _, _, rfl, _⟩ := h; rfl) | (obtain ⟨_, _, _, _, _, rfl, _⟩ := h; rfl) | (obtain ⟨_, _, _, _, _, _, rfl, _⟩ := h; rfl) | (obtain ⟨_, _, _, _, _, _, _, rfl, _⟩ := h; rfl) | (obtain ⟨_, _, _, _, _, _, _, _, rfl, _⟩ := h; rfl)
  · refine ⟨_, (pss_one (ps_ret (pe_mkI I_Turn (hr.mono (by first | decide | omega)) (by rfl) (passes_call (takes_of rfl rfl rfl rfl) (fun _ _ _ _ h => h)) (pa_cons (pe_un un_neg (pe_fld (pv 0) rfl)) pa_nil)))), ?_⟩
    obtain ⟨v, s, p, rfl, ⟨k, rfl⟩, ⟨a, dx, rfl, _, ha, sc⟩, ⟨i, rfl⟩, q⟩ := h
    dsimp only [cxOf, L2.start, List.map_cons, List.map_nil, List.length_cons, List.length_nil, Nat.reduceAdd, Nat.reduceSub, List.replicate_succ, List.replicate_zero, List.cons_append, List.nil_append, Nat.zero_add, List.reduceReplicate, List.map]
    have ek : Ev (tFld K (tVar 0) "k") [some (.ref a)] H (.int i) := ev_fld (ev_var rfl) ha (He.cls_ok (T.fact 60)) (He.noat_ok (T.fact 61)) rfl
    exact make1 (ea_cons (ev_un ek ru_I) ea_nil) fun x dx2 H1 e1 hx h1 => q (.ref x) H1 e1 ⟨x, dx2, rfl, hx, h1, fun _ => .int _⟩
theorem okm_Turn_undone {P : Program} {w : World} {K : PySem.W.Frag} {mg : Str → Option Value} {base : Heap} (T : TXT K mg)  : OKM P w K mg base (He.ga K "Turn") "undone" 9 (sp_su K isTurn) := by
  obtain ⟨fd, b, F⟩ := okf_Turn_undone (P := P) (w := w) (base := base) T 
  exact ⟨_, fd, _, He.cls_ok (T.fact 60), He.meth_ok (T.fact 64), b, F⟩

theorem sc_Lift_undone : FnScope ["self"] ["self"] (defScope s_Lift_undone) := ⟨rfl, rfl, rfl, by decide +kernel, rfl, by decide +kernel, by decide +kernel⟩
theorem okf_Lift_undone {P : Program} {w : World} {K : PySem.W.Frag} {mg : Str → Option Value} {base : Heap} (T : TXT K mg)  : ∃ fd, Binds K fd ["self"] [] ∧ FnOk P w K mg base (L2.CX P w) 9 (He.ma K (He.ga K "Lift") "undone") fd ["self"] (sp_su K isLift) := by
  have I_Lift := oki_Lift (P := P) (w := w) (base := base) T
  obtain ⟨fd, F⟩ := T.def_ 24
  refine ⟨fd, F.bindsN (fun _ _ _ _ _ _ us hl => match us, hl with | [_], _ => rfl), F.ok sc_Lift_undone (fun vs H Q E h => ?_) (fun cdv A outer s H vs Q E hr h => ?_)⟩
  · first | (obtain ⟨rfl, _⟩ := h; rfl) | (obtain ⟨_, rfl, _⟩ := h; rfl) | (obtain ⟨_, _, rfl, _⟩ := h; rfl) | (obtain ⟨_, _, _, rfl, _⟩ := h; rfl) | (obtain ⟨_, _, _, _, rfl, _⟩ := h; rfl) | (obtain ⟨_, _, _, _, _, rfl, _⟩ := h; rfl) | (obtain ⟨_, _, _, _, _, _, rfl, _⟩ := h; rfl) | (obtain ⟨_, _, _, _, _, _, _, rfl, _⟩ := h; rfl) | (obtain ⟨_, _, _, _, _, _, _, _, rfl, _⟩ := h; rfl)
  · refine ⟨_, (pss_one (ps_ret (pe_mkI I_Lift (hr.mono (by first | decide | omega)) (by rfl) (passes_call (takes_of rfl rfl rfl rfl) (fun _ _ _ _ h => h)) (pa_cons (pe_un un_neg (pe_fld (pv 0) rfl)) pa_nil)))), ?_⟩
    obtain ⟨v, s, p, rfl, ⟨k, rfl⟩, ⟨a, dx, rfl, _, ha, sc⟩, ⟨i, rfl⟩, q⟩ := h
    dsimp only [cxOf, L2.start, List.map_cons, List.map_nil, List.length_cons, List.length_nil, Nat.reduceAdd, Nat.reduceSub, List.replicate_succ, List.replicate_zero, List.cons_append, List.nil_append, Nat.zero_add, List.reduceReplicate, List.map]
    have ek : Ev (tFld K (tVar 0) "k") [some (.ref a)] H (.int i) := ev_fld (ev_var rfl) ha (He.cls_ok (T.fact 66)) (He.noat_ok (T.fact 67)) rfl
    exact make1 (ea_cons (ev_un ek ru_I) ea_nil) fun x dx2 H1 e1 hx h1 => q (.ref x) H1 e1 ⟨x, dx2, rfl, hx, h1, fun _ => .int _⟩
theorem okm_Lift_undone {P : Program} {w : World} {K : PySem.W.Frag} {mg : Str → Option Value} {base : Heap} (T : TXT K mg)  : OKM P w K mg base (He.ga K "Lift") "undone" 9 (sp_su K isLift) := by
  obtain ⟨fd, b, F⟩ := okf_Lift_undone (P := P) (w := w) (base := base) T 
  exact ⟨_, fd, _, He.cls_ok (T.fact 66), He.meth_ok (T.fact 70), b, F⟩

theorem sc_Lift_balls : FnScope ["self", "many"] ["self", "many"] (defScope s_Lift_balls) := ⟨rfl, rfl, rfl, by decide +kernel, rfl, by decide +kernel, by decide +kernel⟩
theorem okf_Lift_balls {P : Program} {w : World} {K : PySem.W.Frag} {mg : Str → Option Value} {base : Heap} (T : TXT K mg)  : ∃ fd, Binds K fd ["self", "many"] [] ∧ FnOk P w K mg base (L2.CX P w) 9 (He.ma K (He.ga K "Lift") "balls") fd ["self", "many"] (sp_sb K isLift) := by
  obtain ⟨fd, F⟩ := T.def_ 25
  refine ⟨fd, F.bindsN (fun _ _ _ _ _ _ us hl => match us, hl with | [_, _], _ => rfl), F.ok sc_Lift_balls (fun vs H Q E h => ?_) (fun cdv A outer s H vs Q E hr h => ?_)⟩
  · first | (obtain ⟨rfl, _⟩ := h; rfl) | (obtain ⟨_, rfl, _⟩ := h; rfl) | (obtain ⟨_, _, rfl, _⟩ := h; rfl) | (obtain ⟨_, _, _, rfl, _⟩ := h; rfl) | (obtain ⟨_, _, _, _, rfl, _⟩ := h; rfl) | (obtain ⟨_, _, _, _, _, rfl, _⟩ := h; rfl) | (obtain ⟨_, _, _, _, _, _, rfl, _⟩ := h; rfl) | (obtain ⟨_, _, _, _, _, _, _, rfl, _⟩ := h; rfl) | (obtain ⟨_, _, _, _, _, _, _, _, rfl, _⟩ := h; rfl)
  · refine ⟨_, (pss_one (ps_ret (pe_op op_add (pv 1) (pe_fld (pv 0) rfl)))), ?_⟩
    obtain ⟨v, s, p, m, rfl, ⟨k, rfl⟩, ⟨a, dx, rfl, _, ha, sc⟩, ⟨i, rfl⟩, q⟩ := h
    dsimp only [cxOf, L2.start, List.map_cons, List.map_nil, List.length_cons, List.length_nil, Nat.reduceAdd, Nat.reduceSub, List.replicate_succ, List.replicate_zero, List.cons_append, List.nil_append, Nat.zero_add, List.reduceReplicate, List.map]
    have ek : Ev (tFld K (tVar 0) "k") [some (.ref a), some (.int m)] H (.int i) := ev_fld (ev_var rfl) ha (He.cls_ok (T.fact 66)) (He.noat_ok (T.fact 67)) rfl
    exact s_ret (v := .int (m + i)) (ev_op (ev_var rfl) ek rv_I0) q
theorem okm_Lift_balls {P : Program} {w : World} {K : PySem.W.Frag} {mg : Str → Option Value} {base : Heap} (T : TXT K mg)  : OKM P w K mg base (He.ga K "Lift") "balls" 9 (sp_sb K isLift) := by
  obtain ⟨fd, b, F⟩ := okf_Lift_balls (P := P) (w := w) (base := base) T 
  exact ⟨_, fd, _, He.cls_ok (T.fact 66), He.meth_ok (T.fact 71), b, F⟩

theorem sc_Gaps_balls : FnScope ["self", "many"] ["self", "many"] (defScope s_Gaps_balls) := ⟨rfl, rfl, rfl, by decide +kernel, rfl, by decide +kernel, by decide +kernel⟩
theorem okf_Gaps_balls {P : Program} {w : World} {K : PySem.W.Frag} {mg : Str → Option Value} {base : Heap} (T : TXT K mg)  : ∃ fd, Binds K fd ["self", "many"] [] ∧ FnOk P w K mg base (L2.CX P w) 9 (He.ma K (He.ga K "Gaps") "balls") fd ["self", "many"] (sp_sb K isGap) := by
  obtain ⟨fd, F⟩ := T.def_ 33
  refine ⟨fd, F.bindsN (fun _ _ _ _ _ _ us hl => match us, hl with | [_, _], _ => rfl), F.ok sc_Gaps_balls (fun vs H Q E h => ?_) (fun cdv A outer s H vs Q E hr h => ?_)⟩
  · first | (obtain ⟨rfl, _⟩ := h; rfl) | (obtain ⟨_, rfl, _⟩ := h; rfl) | (obtain ⟨_, _, rfl, _⟩ := h; rfl) | (obtain ⟨_, _, _, rfl, _⟩ := h; rfl) | (obtain ⟨_, _, _, _, rfl, _⟩ := h; rfl) | (obtain ⟨_, _, _, _, _, rfl, _⟩ := h; rfl) | (obtain ⟨_, _, _, _, _, _, rfl, _⟩ := h; rfl) | (obtain ⟨_, _, _, _, _, _, _, rfl, _⟩ := h; rfl) | (obtain ⟨_, _, _, _, _, _, _, _, rfl, _⟩ := h; rfl)
  · refine ⟨_, (pss_one (ps_ret (pe_op op_sub (pe_fld (pv 0) rfl) (pv 1)))), ?_⟩
    obtain ⟨v, s, p, m, rfl, ⟨k, rfl⟩, ⟨a, dx, rfl, _, ha, sc⟩, ⟨i, rfl⟩, q⟩ := h
    dsimp only [cxOf, L2.start, List.map_cons, List.map_nil, List.length_cons, List.length_nil, Nat.reduceAdd, Nat.reduceSub, List.replicate_succ, List.replicate_zero, List.cons_append, List.nil_append, Nat.zero_add, List.reduceReplicate, List.map]
    have ek : Ev (tFld K (tVar 0) "h") [some (.ref a), some (.int m)] H (.int i) := ev_fld (ev_var rfl) ha (He.cls_ok (T.fact 89)) (He.noat_ok (T.fact 90)) rfl
    exact s_ret (v := .int (i - m)) (ev_op ek (ev_var rfl) rv_I0) q
theorem okm_Gaps_balls {P : Program} {w : World} {K : PySem.W.Frag} {mg : Str → Option Value} {base : Heap} (T : TXT K mg)  : OKM P w K mg base (He.ga K "Gaps") "balls" 9 (sp_sb K isGap) := by
  obtain ⟨fd, b, F⟩ := okf_Gaps_balls (P := P) (w := w) (base := base) T 
  exact ⟨_, fd, _, He.cls_ok (T.fact 89), He.meth_ok (T.fact 94), b, F⟩

end TB

/-! ### families of changes, rows of changes -/
namespace TB
open PySem PySem.Spec PyProof.Rows L2 Evl
structure Fam where
  I : Type
  at_ : (Addr → Prop) → Hp → V → I → Prop
  done : I → Option (List V) → Re
  undo : I → I
  can : I → Prop
  balls : I → Int → Int
def HasM (P : Program) (w : World) (K : PySem.W.Frag) (mg : Str → Option Value) (base : Heap) (k : Nat) (H : Hp) (v : V) (m : Str) (sp : Sp) : Prop := ∃ a C dx fs sp', v = .ref a ∧ H a = some (.ins C dx fs) ∧ fs.lookup m = none ∧ OKM P w K mg base C m k sp' ∧
  ∀ vs H1 Q E, Ex H H1 → sp (v :: vs) H1 Q E → sp' (v :: vs) H1 Q E
def sp_done (K : PySem.W.Frag) (F : Fam) (v : V) (c : F.I) : Sp := fun vs H Q E => ∃ pt o, vs = [v, pt] ∧ Row H pt o ∧ Give K (F.done c o) H Q E
def sp_undone (F : Fam) (p : Addr → Prop) (v : V) (c : F.I) : Sp := fun vs H Q E => vs = [v] ∧ F.can c ∧ ∀ v' H', Ex H H' → F.at_ (fun a => p a ∨ H a = none) H' v' (F.undo c) → Q v' H'
def sp_ballsM (F : Fam) (v : V) (c : F.I) : Sp := fun vs H Q E => ∃ m, vs = [v, .int m] ∧ F.can c ∧ RetV (.int (F.balls c m)) H Q
structure FamOk (P : Program) (w : World) (K : PySem.W.Frag) (mg : Str → Option Value) (base : Heap) (F : Fam) (k : Nat) : Prop where
  frame : ∀ {p : Addr → Prop} {H H' : Hp} {v : V} {c : F.I}, (∀ a o, p a → H a = some o → H' a = some o) → F.at_ p H v c → F.at_ p H' v c
  imp : ∀ {p p' : Addr → Prop} {H : Hp} {v : V} {c : F.I}, (∀ a o, p a → H a = some o → p' a) → F.at_ p H v c → F.at_ p' H v c
  fine : ∀ c o, fineRe (F.done c o)
  done : ∀ {p : Addr → Prop} {H : Hp} {v : V} {c : F.I}, F.at_ p H v c → HasM P w K mg base k H v "done" (sp_done K F v c)
  undone : ∀ {p : Addr → Prop} {H : Hp} {v : V} {c : F.I}, F.at_ p H v c → HasM P w K mg base k H v "undone" (sp_undone F p v c)
  balls : ∀ {p : Addr → Prop} {H : Hp} {v : V} {c : F.I}, F.at_ p H v c → HasM P w K mg base k H v "balls" (sp_ballsM F v c)
section
variable {P : Program} {w : World} {K : PySem.W.Frag} {mg : Str → Option Value} {base : Heap} {F : Fam} {k : Nat} {p p' : Addr → Prop} {H H' : Hp} {v z : V} {c : F.I} {σ : L2.St} {ta : TE} {t : TA} {m : Str} {sp : Sp} {vs : List V} {E : XK} {Q : VK} {D : Ends}
theorem FamOk.mono (O : FamOk P w K mg base F k) (e : Ex H H') (h : F.at_ p H v c) : F.at_ p H' v c := O.frame (fun a o _ q => e a o q) h
theorem HasM.mono (e : Ex H H') (h : HasM P w K mg base k H v m sp) : HasM P w K mg base k H' v m sp := by
  obtain ⟨a, C, dx, fs, sp', h1, h2, h3, h4, h5⟩ := h
  exact ⟨a, C, dx, fs, sp', h1, e _ _ h2, h3, h4, fun vs H1 Q E e1 q => h5 vs H1 Q E (e.trans e1) q⟩
theorem HasM.up {j : Nat} (hj : k ≤ j) (h : HasM P w K mg base k H v m sp) : HasM P w K mg base j H v m sp := by
  obtain ⟨a, C, dx, fs, sp', h1, h2, h3, h4, h5⟩ := h
  exact ⟨a, C, dx, fs, sp', h1, h2, h3, h4.mono hj, h5⟩
/-- a method's call: what it gives -/
theorem t_meth (h : HasM P w K mg base k H v m sp) (ha : Ev ta σ H v) (hv : ∀ H1, Ex H H1 → EvA t σ H1 vs) (q : ∀ H1, Ex H H1 → sp (v :: vs) H1 Q E) : tMethD P w K mg base k m E ta t σ H Q :=
  ha H (Ex.refl H) _ fun H1 e1 => by
    obtain ⟨a, C, dx, fs, sp', h1, h2, h3, h4, h5⟩ := h
    exact ⟨a, C, dx, fs, sp', h1, e1 _ _ h2, h3, h4, hv H1 e1 H1 (Ex.refl H1) _ fun H2 e2 => h5 _ _ _ _ (e1.trans e2) (q H2 (e1.trans e2))⟩
theorem t_methS {E : L2.St → XK} (h : HasM P w K mg base k H v m sp) (ha : Ev ta σ H v) {R : List V → Hp → Prop} (hv : ∀ H1, Ex H H1 → ∀ Q : List V → Hp → Prop, (∀ vs H2, Ex H1 H2 → R vs H2 → Q vs H2) → t σ H1 Q) (q : ∀ vs H1, Ex H H1 → R vs H1 → sp (v :: vs) H1 Q (E σ)) : tMethDS P w K mg base k m E ta t σ H Q :=
  ha H (Ex.refl H) _ fun H1 e1 => by
    obtain ⟨a, C, dx, fs, sp', h1, h2, h3, h4, h5⟩ := h
    exact ⟨a, C, dx, fs, sp', h1, e1 _ _ h2, h3, h4, hv H1 e1 _ fun vs H2 e2 r => h5 _ _ _ _ (e1.trans e2) (q vs H2 (e1.trans e2) r)⟩
end
theorem q_off {C : Addr} {i : Nat} {sp : Sp} {vs : List V} {tz : TS} {σ : L2.St} {H : Hp} {D : Ends} {E : XK} {t : TA} (h : EvA t σ H vs) (k : ∀ H1, Ex H H1 → sp vs H1 (fun v H2 => tz D (σ.set i (some v)) H2) E) : tSeq (tAsg (tOff C sp E (tC (.ref C)) t) (gName i)) tz D σ H := And.intro rfl (h H (Ex.refl H) _ fun H2 e2 => k H2 e2)
/-! the simple ones as a family -/
def simF (K : PySem.W.Frag) : Fam := ⟨Sim, SimAt K, Sim.done, Sim.undo, Sim.can, Sim.balls⟩
section
variable {P : Program} {w : World} {K : PySem.W.Frag} {mg : Str → Option Value} {base : Heap} {k : Nat} {p p' : Addr → Prop} {H H' : Hp} {v : V} {s : Sim}
theorem SimAt.frame (h : ∀ a o, p a → H a = some o → H' a = some o) (q : SimAt K p H v s) : SimAt K p H' v s := by
  obtain ⟨a, dx, e, hp, ha, sc⟩ := q
  exact ⟨a, dx, e, hp, h a _ hp ha, sc⟩
theorem SimAt.imp (h : ∀ a o, p a → H a = some o → p' a) (q : SimAt K p H v s) : SimAt K p' H v s := by
  obtain ⟨a, dx, e, hp, ha, sc⟩ := q
  exact ⟨a, dx, e, h a _ hp ha, ha, sc⟩
theorem hasm_sim {m : Str} {sp sp' : Sp} (q : SimAt K p H v s) (hf : s.fs.lookup m = none) (O : OKM P w K mg base (He.ga K s.cls) m 9 sp') (h : ∀ vs H1 Q E, Ex H H1 → sp (v :: vs) H1 Q E → sp' (v :: vs) H1 Q E) : HasM P w K mg base 9 H v m sp := by
  obtain ⟨a, dx, rfl, hp, ha, sc⟩ := q
  exact ⟨a, _, dx, _, sp', rfl, ha, hf, O, h⟩
theorem sim_done (T : TXT K mg) (q : SimAt K p H v s) : HasM P w K mg base 9 H v "done" (sp_done K (simF K) v s) := by
  have up : ∀ {vs H1 Q E} (r : Sim → Prop), r s → Ex H H1 → sp_done K (simF K) v s (v :: vs) H1 Q E → sp_sd K r (v :: vs) H1 Q E := fun r hr e ⟨pt, o, ev, hk, g⟩ => ⟨v, s, p, pt, o, ev, hr, q.frame fun a o _ z => e a o z, hk, g⟩
  cases s with
  | plain => exact hasm_sim q rfl (okm_Change_done T) fun vs H1 Q E e ⟨pt, o, ev, hk, g⟩ => ⟨v, pt, o, ev, hk, g⟩
  | turn k => exact hasm_sim q rfl (okm_Turn_done T) fun vs H1 Q E => up _ ⟨k, rfl⟩
  | lift k => exact hasm_sim q rfl (okm_Lift_done T) fun vs H1 Q E => up _ ⟨k, rfl⟩
  | swap i j => exact hasm_sim q rfl (okm_Swap_done T) fun vs H1 Q E => up _ ⟨i, j, rfl⟩
  | nb k => exact hasm_sim q rfl (okm_Neighbours_done T) fun vs H1 Q E => up _ ⟨k, rfl⟩
  | mir => exact hasm_sim q rfl (okm_Mirror_done T) fun vs H1 Q E => up _ rfl
  | gap h => exact hasm_sim q rfl (okm_Gaps_done T) fun vs H1 Q E => up _ ⟨h, rfl⟩
theorem sim_undone (T : TXT K mg) (q : SimAt K p H v s) : HasM P w K mg base 9 H v "undone" (sp_undone (simF K) p v s) := by
  have up : ∀ {vs H1 Q E} (r : Sim → Prop), r s → Ex H H1 → sp_undone (simF K) p v s (v :: vs) H1 Q E → sp_su K r (v :: vs) H1 Q E := fun r hr e ⟨ev, hc, g⟩ => ⟨v, s, p, ev, hr, q.frame fun a o _ z => e a o z, hc, fun v' H' e' h => g v' H' e' (h.imp fun a o z _ => .inr z)⟩
  have same : s.undo = s → ∀ vs H1 Q E, Ex H H1 → sp_undone (simF K) p v s (v :: vs) H1 Q E → sp_cu (v :: vs) H1 Q E := fun hs vs H1 Q E e ⟨ev, hc, g⟩ => ⟨v, ev, fun H2 e2 => g v H2 e2 (by
    show SimAt K _ H2 v s.undo
    rw [hs]
    exact SimAt.imp (fun a o z _ => .inl z) (q.frame fun a o _ z => e2 a o (e a o z)))⟩
  cases s with
  | plain => exact hasm_sim q rfl (okm_Change_undone T) (same rfl)
  | turn k => exact hasm_sim q rfl (okm_Turn_undone T) fun vs H1 Q E => up _ ⟨k, rfl⟩
  | lift k => exact hasm_sim q rfl (okm_Lift_undone T) fun vs H1 Q E => up _ ⟨k, rfl⟩
  | swap i j => exact hasm_sim q rfl (OKM.inh (He.cls_ok (T.fact 72)) (He.meth_ok (T.fact 77)) (tx_fb T 38) ((okf_Change_undone T).imp fun fd z => z)) (same rfl)
  | nb k => exact hasm_sim q rfl (OKM.inh (He.cls_ok (T.fact 79)) (He.meth_ok (T.fact 83)) (tx_fb T 49) (okf_Change_undone T)) (same rfl)
  | mir => exact hasm_sim q rfl (OKM.inh (He.cls_ok (T.fact 85)) (He.meth_ok (T.fact 87)) (tx_fb T 60) (okf_Change_undone T)) (same rfl)
  | gap h => exact hasm_sim q rfl (OKM.inh (He.cls_ok (T.fact 89)) (He.meth_ok (T.fact 93)) (tx_fb T 72) (okf_Change_undone T)) (same rfl)
theorem sim_balls (T : TXT K mg) (q : SimAt K p H v s) : HasM P w K mg base 9 H v "balls" (sp_ballsM (simF K) v s) := by
  have up : ∀ {vs H1 Q E} (r : Sim → Prop), r s → Ex H H1 → sp_ballsM (simF K) v s (v :: vs) H1 Q E → sp_sb K r (v :: vs) H1 Q E := fun r hr e ⟨m, ev, hc, g⟩ => ⟨v, s, p, m, ev, hr, q.frame fun a o _ z => e a o z, hc, g⟩
  have same : (∀ m, s.balls m = m) → ∀ vs H1 Q E, Ex H H1 → sp_ballsM (simF K) v s (v :: vs) H1 Q E → sp_cb (v :: vs) H1 Q E := fun hs vs H1 Q E e ⟨m, ev, hc, g⟩ => ⟨v, .int m, ev, by
    have g2 : RetV (.int (s.balls m)) H1 Q := g
    rw [hs] at g2
    exact g2⟩
  cases s with
  | plain => exact hasm_sim q rfl (okm_Change_balls T) (same fun m => rfl)
  | turn k => exact hasm_sim q rfl (OKM.inh (He.cls_ok (T.fact 60)) (He.meth_ok (T.fact 65)) (tx_fb T 19) (okf_Change_balls T)) (same fun m => rfl)
  | lift k => exact hasm_sim q rfl (okm_Lift_balls T) fun vs H1 Q E => up _ ⟨k, rfl⟩
  | swap i j => exact hasm_sim q rfl (OKM.inh (He.cls_ok (T.fact 72)) (He.meth_ok (T.fact 78)) (tx_fb T 39) (okf_Change_balls T)) (same fun m => rfl)
  | nb k => exact hasm_sim q rfl (OKM.inh (He.cls_ok (T.fact 79)) (He.meth_ok (T.fact 84)) (tx_fb T 50) (okf_Change_balls T)) (same fun m => rfl)
  | mir => exact hasm_sim q rfl (OKM.inh (He.cls_ok (T.fact 85)) (He.meth_ok (T.fact 88)) (tx_fb T 61) (okf_Change_balls T)) (same fun m => rfl)
  | gap h => exact hasm_sim q rfl (okm_Gaps_balls T) fun vs H1 Q E => up _ ⟨h, rfl⟩
theorem sim_ok (T : TXT K mg) : FamOk P w K mg base (simF K) 9 := ⟨SimAt.frame, SimAt.imp, Sim.fine, sim_done T, sim_undone T, sim_balls T⟩
end
/-! rows of changes -/
def RowsOf (F : Fam) (p : Addr → Prop) (H : Hp) (vs : List V) (cs : List F.I) : Prop := vs.length = cs.length ∧ ∀ (i : Nat) v c, vs[i]? = some v → cs[i]? = some c → F.at_ p H v c
def RowAt (K : PySem.W.Frag) (F : Fam) (p : Addr → Prop) (H : Hp) (v : V) (cs : List F.I) : Prop := ∃ a dx l vs, v = .ref a ∧ p a ∧ p l ∧ H a = some (.ins (He.ga K "Changes") dx [("rows", .ref l)]) ∧ H l = some (.lst vs) ∧ RowsOf F p H vs cs ∧ cs.length ≤ 40
def rowDone (F : Fam) (cs : List F.I) (o : Option (List V)) : Re := cs.foldl (fun r c => goRe (F.done c) r) (Sim.done .plain o)
def rowF (K : PySem.W.Frag) (F : Fam) : Fam where
  I := Sim ⊕ List F.I
  at_ := fun p H v c => match c with
    | .inl s => SimAt K p H v s
    | .inr cs => RowAt K F p H v cs
  done := fun c o => match c with
    | .inl s => s.done o
    | .inr cs => rowDone F cs o
  undo := fun c => match c with
    | .inl s => .inl s.undo
    | .inr cs => .inr (cs.reverse.map F.undo)
  can := fun c => match c with
    | .inl s => s.can
    | .inr cs => ∀ c ∈ cs, F.can c
  balls := fun c m => match c with
    | .inl s => s.balls m
    | .inr cs => cs.foldl (fun m c => F.balls c m) m
theorem fold_fine {F : Fam} (hf : ∀ c o, fineRe (F.done c o)) : ∀ (cs : List F.I) (r : Re), fineRe r → fineRe (cs.foldl (fun r c => goRe (F.done c) r) r)
  | [], r, h => h
  | c :: cs, r, h => by
    rw [List.foldl_cons]
    refine fold_fine hf cs _ ?_
    rcases h with ⟨ns, rfl⟩ | ⟨x, rfl⟩ | ⟨i, j, rfl⟩
    · exact hf c _
    · exact .inr (.inl ⟨x, rfl⟩)
    · exact .inr (.inr ⟨i, j, rfl⟩)
theorem fold_err {F : Fam} : ∀ (cs : List F.I) (x : Str), cs.foldl (fun r c => goRe (F.done c) r) (.err x) = .err x
  | [], _ => rfl
  | _ :: cs, x => fold_err cs x
theorem fold_clash {F : Fam} : ∀ (cs : List F.I) (i j : Int), cs.foldl (fun r c => goRe (F.done c) r) (.clash i j) = .clash i j
  | [], _, _ => rfl
  | _ :: cs, i, j => fold_clash cs i j
def sp_rd (K : PySem.W.Frag) (F : Fam) : Sp := fun us H Q E => ∃ v cs p pt o, us = [v, pt] ∧ RowAt K F p H v cs ∧ Row H pt o ∧ Give K (rowDone F cs o) H Q E
def sp_ru (K : PySem.W.Frag) (F : Fam) : Sp := fun us H Q E => ∃ v cs p, us = [v] ∧ RowAt K F p H v cs ∧ (∀ c ∈ cs, F.can c) ∧ ∀ v' H', Ex H H' → RowAt K F (fun a => p a ∨ H a = none) H' v' (cs.reverse.map F.undo) → Q v' H'
def sp_rb (K : PySem.W.Frag) (F : Fam) : Sp := fun us H Q E => ∃ v cs p m, us = [v, .int m] ∧ RowAt K F p H v cs ∧ (∀ c ∈ cs, F.can c) ∧ RetV (.int (cs.foldl (fun m c => F.balls c m) m)) H Q
/-- a row that is made goes on by a step of the rest: what is given there -/
theorem give_go {K : PySem.W.Frag} {F : Fam} {H : Hp} {Q Q2 : VK} {E : XK} {r : Re} {cs : List F.I} (hr : fineRe r) (q : Give K (cs.foldl (fun r c => goRe (F.done c) r) r) H Q E) (k : ∀ (ns : List Int) p H2, r = .lst (ns.map V.int) → H p = none → Ex H H2 → H2 p = some (.lst (ns.map V.int)) → Q2 (.ref p) H2) : Give K r H Q2 E := by
  rcases hr with ⟨ns, rfl⟩ | ⟨x, rfl⟩ | ⟨i, j, rfl⟩
  · exact fun p H2 hp e2 h2 => k ns p H2 rfl hp e2 h2
  · rw [fold_err] at q
    exact q
  · rw [fold_clash] at q
    exact q
theorem sc_Changes_done : FnScope ["self", "pattern", "made", "change"] ["self", "pattern"] (defScope s_Changes_done) := ⟨rfl, rfl, rfl, by decide +kernel, rfl, by decide +kernel, by decide +kernel⟩
theorem okf_Changes_done {P : Program} {w : World} {K : PySem.W.Frag} {mg : Str → Option Value} {base : Heap} (T : TXT K mg) {G : Fam} {j : Nat} (hj : 8 ≤ j) (hF : FamOk P w K mg base G (j+1)) : ∃ fd, Binds K fd ["self", "pattern"] [] ∧ FnOk P w K mg base (L2.CX P w) (j+2) (He.ma K (He.ga K "Changes") "done") fd ["self", "pattern"] (sp_rd K G) := by
  obtain ⟨fdC, bC, FC⟩ := okf_Change_done (P := P) (w := w) (base := base) T
  obtain ⟨fd, F⟩ := T.def_ 35
  refine ⟨fd, F.bindsN (fun _ _ _ _ _ _ us hl => match us, hl with | [_, _], _ => rfl), F.ok sc_Changes_done (fun vs H Q E h => ?_) (fun cdv A outer s H vs Q E hr h => ?_)⟩
  · first | (obtain ⟨rfl, _⟩ := h; rfl) | (obtain ⟨_, rfl, _⟩ := h; rfl) | (obtain ⟨_, _, rfl, _⟩ := h; rfl) | (obtain ⟨_, _, _, rfl, _⟩ := h; rfl) | (obtain ⟨_, _, _, _, rfl, _⟩ := h; rfl) | (obtain ⟨_, _, _, _, _, rfl, _⟩ := h; rfl) | (obtain ⟨_, _, _, _, _, _, rfl, _⟩ := h; rfl) | (obtain ⟨_, _, _, _, _, _, _, rfl, _⟩ := h; rfl) | (obtain ⟨_, _, _, _, _, _, _, _, rfl, _⟩ := h; rfl)
  · refine ⟨_, (pss_cons (ps_set (i := 2) sc_Changes_done.nd rfl (Or.inl rfl) (pe_off (k := j+1) (pe_cls (T.glo 31)) (off_ok (tx_fb T 82)) (He.meth_ok (T.fact 57)).kp (FC.mono (by omega)) bC (hr.mono (by omega)) (passes_call (takes_of rfl rfl rfl rfl) (fun _ _ _ _ h => h)) (pa_cons (pv 0) (pa_cons (pv 1) pa_nil))))
      (pss_cons (ps_for (passes_of rfl) rfl (k_piL K (pe_fld (pv 0) rfl)) (pg_name (i := 3) sc_Changes_done.nd rfl (Or.inl rfl))
        (pss_one (ps_set (i := 2) sc_Changes_done.nd rfl (Or.inl rfl) (pe_methD (P := P) (w := w) (K := K) (mg := mg) (base := base) (k := (j+1)) (pv 3) (hr.mono (by first | decide | omega)) (passes_call (takes_of rfl rfl rfl rfl) (fun _ _ _ _ h => h)) (pa_cons (pv 2) pa_nil)))))
      (pss_one (ps_ret (pv 2))))), ?_⟩
    obtain ⟨v, cs, p, pt, o, rfl, ⟨a, dx, l, vs, rfl, pa, pl, ha, hl, ⟨hn, hrows⟩, hz⟩, hk, q⟩ := h
    dsimp only [cxOf, L2.start, List.map_cons, List.map_nil, List.length_cons, List.length_nil, Nat.reduceAdd, Nat.reduceSub, List.replicate_succ, List.replicate_zero, List.cons_append, List.nil_append, Nat.zero_add, List.reduceReplicate, List.map]
    refine q_off (vs := [V.ref a, pt]) (ea_cons (ev_var rfl) (ea_cons (ev_var rfl) ea_nil)) fun H2 e2 => ⟨_, pt, o, rfl, hk.mono e2, ?_⟩
    refine give_go (Sim.fine .plain o) (q.mono e2) fun ns p0 H3 er hp0 e3 h3 => ?_
    unfold rowDone at q
    rw [er] at q
    have el : Ev (tFld K (tVar 0) "rows") [some (V.ref a), some pt, some (.ref p0), none] H3 (.ref l) := ev_fld (ev_var rfl) (e3 _ _ (e2 _ _ ha)) (He.cls_ok (T.fact 95)) (He.noat_ok (T.fact 96)) rfl
    have e03 := e2.trans e3
    refine q_forLn (xs := vs) el (sq_of (e03 _ _ hl)) (fun i σ' H' => ∃ (p1 : Addr) (y : Option V) (ms : List Int), σ' = [some (V.ref a), some pt, some (.ref p1), y] ∧ Ex H H' ∧ H p1 = none ∧ H' p1 = some (.lst (ms.map V.int)) ∧ Re.lst (ms.map V.int) = (cs.take i).foldl (fun r c => goRe (G.done c) r) (.lst (ns.map V.int))) (fun H4 e4 => ⟨p0, none, ns, rfl, e03.trans e4, fresh_back e2 hp0, e4 _ _ h3, rfl⟩) (fun i σ' H' _ ⟨_, _, _, _, e, _⟩ => sq_of (e _ _ hl)) ?_ ?_
    · rintro i x σ' H' hi ⟨p1, y, ms, rfl, e4, hp1, h1, ef⟩
      have hil := (List.getElem?_eq_some_iff.mp hi).1
      have hic : i < cs.length := by omega
      have hc : cs[i]? = some cs[i] := List.getElem?_eq_getElem hic
      have hat := hF.mono e4 (hrows i x _ hi hc)
      have et : cs = cs.take i ++ cs[i] :: cs.drop (i + 1) := by
        rw [← List.drop_eq_getElem_cons hic, List.take_append_drop]
      have q2 : Give K ((cs.drop (i + 1)).foldl (fun r c => goRe (G.done c) r) (G.done cs[i] (some (ms.map V.int)))) H Q E := by
        rw [et, List.foldl_append, ← ef, List.foldl_cons] at q
        exact q
      refine t_meth (vs := [.ref p1]) (hF.done hat) (ev_var rfl) (fun H5 e5 => ea_cons (ev_var rfl) ea_nil) fun H5 e5 => ⟨.ref p1, some (ms.map V.int), rfl, Row.of (e5 _ _ h1), ?_⟩
      refine give_go (hF.fine _ _) (q2.mono (e4.trans e5)) fun ks p2 H6 er2 hp2 e6 h6 => ⟨p2, _, ks, rfl, (e4.trans e5).trans e6, fresh_back (e4.trans e5) hp2, h6, ?_⟩
      rw [List.take_add_one, hc, List.foldl_append, ← ef]
      exact er2.symm
    · rintro σ' H' ⟨p1, y, ms, rfl, e4, hp1, h1, ef⟩
      rw [hn, List.take_length] at ef
      rw [← ef] at q
      exact s_ret (v := .ref p1) (by (repeat' (first | with_reducible exact ev_c | ((with_reducible show Ev (tVar _) _ _ _); exact ev_var rfl) | with_reducible exact ea_nil | with_reducible exact eo_none | with_reducible refine' ea_cons ?_ ?_ | with_reducible refine' eo_some ?_ | with_reducible refine' ev_and2 ?_ ?_ | with_reducible refine' ev_or2 ?_ ?_ | with_reducible refine' ev_notV ?_ | with_reducible exact ru_I | with_reducible refine' ev_un ?_ ?_ | with_reducible exact rv_I0 | with_reducible exact rv_isN | with_reducible exact rv_notN | with_reducible refine' rv_I ?_ | with_reducible refine' rv_eq ?_ | with_reducible refine' rv_ne ?_ | with_reducible refine' ev_op ?_ ?_ ?_ | with_reducible refine' ev_chain2 ?_ ?_ ?_ ?_ ?_ | with_reducible refine' et_B ?_ | with_reducible refine' et_test ?_ | with_reducible refine' et_and2 ?_ ?_ | with_reducible refine' et_or2 ?_ ?_ | with_reducible refine' et_not ?_ | with_reducible refine' ev_call ?_ ?_ | with_reducible refine' ev_callS ?_ ?_ | with_reducible refine' ev_cb ?_ ?_ | with_reducible exact isi_bool (by assumption) | with_reducible exact isi_int (by assumption) | with_reducible exact isi_list (by assumption) | with_reducible exact rc_len (by assumption) | with_reducible exact rc_sum (by assumption) | with_reducible exact rc_abs | with_reducible exact isi_listL (by assumption) | with_reducible exact isi_intI | with_reducible exact isi_boolI | with_reducible exact rc_lenT (by assumption) | with_reducible exact isi_tup (by assumption) | with_reducible exact rv_eqL (by assumption) (by assumption) | with_reducible exact rv_neL (by assumption) (by assumption) | with_reducible exact rv_neT (by assumption) (by assumption) | with_reducible exact rv_ixL (by assumption) (by assumption) | with_reducible exact rv_ixT (by assumption) (by assumption) | with_reducible refine' ev_din ?_ ?_ (by assumption) | with_reducible refine' ev_dnotin ?_ ?_ (by assumption) | with_reducible refine' ev_dget ?_ ?_ (by assumption) (by assumption) | ((with_reducible show SpV _ _ _ _); assumption) | ((with_reducible show RV _ _ _ _ _); assumption) | ((with_reducible show RC _ _ _ _); assumption) | ((with_reducible show CDiv _ _); exact ⟨by omega, by omega⟩) | ((with_reducible show CMul _ _); first | exact .inl ⟨by omega, by omega⟩ | exact .inr ⟨by omega, by omega⟩) | ((with_reducible show CPow _ _); exact ⟨by omega, by omega, by first | decide | assumption | omega⟩) | ((with_reducible show (0 : Int) < _); omega) | ((with_reducible show (0 : Int) ≤ _); omega) | ((with_reducible show scal _ _ = true); rfl)))) fun H5 e5 => q p1 H5 hp1 (e4.trans e5) (e5 _ _ h1)
theorem okm_Changes_done {P : Program} {w : World} {K : PySem.W.Frag} {mg : Str → Option Value} {base : Heap} (T : TXT K mg) {G : Fam} {j : Nat} (hj : 8 ≤ j) (hF : FamOk P w K mg base G (j+1)) : OKM P w K mg base (He.ga K "Changes") "done" (j+2) (sp_rd K G) := by
  obtain ⟨fd, b, F⟩ := okf_Changes_done (P := P) (w := w) (base := base) T hj hF
  exact ⟨_, fd, _, He.cls_ok (T.fact 95), He.meth_ok (T.fact 98), b, F⟩

theorem sc_Changes_balls : FnScope ["self", "many", "change"] ["self", "many"] (defScope s_Changes_balls) := ⟨rfl, rfl, rfl, by decide +kernel, rfl, by decide +kernel, by decide +kernel⟩
theorem okf_Changes_balls {P : Program} {w : World} {K : PySem.W.Frag} {mg : Str → Option Value} {base : Heap} (T : TXT K mg) {G : Fam} {j : Nat} (hj : 8 ≤ j) (hF : FamOk P w K mg base G (j+1)) : ∃ fd, Binds K fd ["self", "many"] [] ∧ FnOk P w K mg base (L2.CX P w) (j+2) (He.ma K (He.ga K "Changes") "balls") fd ["self", "many"] (sp_rb K G) := by
  obtain ⟨fd, F⟩ := T.def_ 37
  refine ⟨fd, F.bindsN (fun _ _ _ _ _ _ us hl => match us, hl with | [_, _], _ => rfl), F.ok sc_Changes_balls (fun vs H Q E h => ?_) (fun cdv A outer s H vs Q E hr h => ?_)⟩
  · first | (obtain ⟨rfl, _⟩ := h; rfl) | (obtain ⟨_, rfl, _⟩ := h; rfl) | (obtain ⟨_, _, rfl, _⟩ := h; rfl) | (obtain ⟨_, _, _, rfl, _⟩ := h; rfl) | (obtain ⟨_, _, _, _, rfl, _⟩ := h; rfl) | (obtain ⟨_, _, _, _, _, rfl, _⟩ := h; rfl) | (obtain ⟨_, _, _, _, _, _, rfl, _⟩ := h; rfl) | (obtain ⟨_, _, _, _, _, _, _, rfl, _⟩ := h; rfl) | (obtain ⟨_, _, _, _, _, _, _, _, rfl, _⟩ := h; rfl)
  · refine ⟨_, (pss_cons (ps_for (passes_of rfl) rfl (k_piL K (pe_fld (pv 0) rfl)) (pg_name (i := 2) sc_Changes_balls.nd rfl (Or.inl rfl))
        (pss_one (ps_set (i := 1) sc_Changes_balls.nd rfl (Or.inl rfl) (pe_methD (P := P) (w := w) (K := K) (mg := mg) (base := base) (k := (j+1)) (pv 2) (hr.mono (by first | decide | omega)) (passes_call (takes_of rfl rfl rfl rfl) (fun _ _ _ _ h => h)) (pa_cons (pv 1) pa_nil)))))
      (pss_one (ps_ret (pv 1)))), ?_⟩
    obtain ⟨v, cs, p, m, rfl, ⟨a, dx, l, vs, rfl, pa, pl, ha, hl, ⟨hn, hrows⟩, hz⟩, hcan, q⟩ := h
    dsimp only [cxOf, L2.start, List.map_cons, List.map_nil, List.length_cons, List.length_nil, Nat.reduceAdd, Nat.reduceSub, List.replicate_succ, List.replicate_zero, List.cons_append, List.nil_append, Nat.zero_add, List.reduceReplicate, List.map]
    have el : Ev (tFld K (tVar 0) "rows") [some (V.ref a), some (.int m), none] H (.ref l) := ev_fld (ev_var rfl) ha (He.cls_ok (T.fact 95)) (He.noat_ok (T.fact 96)) rfl
    refine q_forLn (xs := vs) el (sq_of hl) (fun i σ' H' => ∃ (y : Option V), σ' = [some (V.ref a), some (.int ((cs.take i).foldl (fun m c => G.balls c m) m)), y] ∧ Ex H H') (fun H4 e4 => ⟨none, rfl, e4⟩) (fun i σ' H' _ ⟨_, _, e⟩ => sq_of (e _ _ hl)) ?_ ?_
    · rintro i x σ' H' hi ⟨y, rfl, e4⟩
      have hil := (List.getElem?_eq_some_iff.mp hi).1
      have hic : i < cs.length := by omega
      have hc : cs[i]? = some cs[i] := List.getElem?_eq_getElem hic
      have hat := hF.mono e4 (hrows i x _ hi hc)
      refine t_meth (vs := [.int ((cs.take i).foldl (fun m c => G.balls c m) m)]) (hF.balls hat) (ev_var rfl) (fun H5 e5 => ea_cons (ev_var rfl) ea_nil) fun H5 e5 => ⟨_, rfl, hcan _ (List.getElem_mem hic), fun H6 e6 => ⟨some x, ?_, (e4.trans e5).trans e6⟩⟩
      rw [List.take_add_one, hc, List.foldl_append]
      rfl
    · rintro σ' H' ⟨y, rfl, e4⟩
      rw [hn, List.take_length]
      exact s_ret (v := .int (cs.foldl (fun m c => G.balls c m) m)) (by (repeat' (first | with_reducible exact ev_c | ((with_reducible show Ev (tVar _) _ _ _); exact ev_var rfl) | with_reducible exact ea_nil | with_reducible exact eo_none | with_reducible refine' ea_cons ?_ ?_ | with_reducible refine' eo_some ?_ | with_reducible refine' ev_and2 ?_ ?_ | with_reducible refine' ev_or2 ?_ ?_ | with_reducible refine' ev_notV ?_ | with_reducible exact ru_I | with_reducible refine' ev_un ?_ ?_ | with_reducible exact rv_I0 | with_reducible exact rv_isN | with_reducible exact rv_notN | with_reducible refine' rv_I ?_ | with_reducible refine' rv_eq ?_ | with_reducible refine' rv_ne ?_ | with_reducible refine' ev_op ?_ ?_ ?_ | with_reducible refine' ev_chain2 ?_ ?_ ?_ ?_ ?_ | with_reducible refine' et_B ?_ | with_reducible refine' et_test ?_ | with_reducible refine' et_and2 ?_ ?_ | with_reducible refine' et_or2 ?_ ?_ | with_reducible refine' et_not ?_ | with_reducible refine' ev_call ?_ ?_ | with_reducible refine' ev_callS ?_ ?_ | with_reducible refine' ev_cb ?_ ?_ | with_reducible exact isi_bool (by assumption) | with_reducible exact isi_int (by assumption) | with_reducible exact isi_list (by assumption) | with_reducible exact rc_len (by assumption) | with_reducible exact rc_sum (by assumption) | with_reducible exact rc_abs | with_reducible exact isi_listL (by assumption) | with_reducible exact isi_intI | with_reducible exact isi_boolI | with_reducible exact rc_lenT (by assumption) | with_reducible exact isi_tup (by assumption) | with_reducible exact rv_eqL (by assumption) (by assumption) | with_reducible exact rv_neL (by assumption) (by assumption) | with_reducible exact rv_neT (by assumption) (by assumption) | with_reducible exact rv_ixL (by assumption) (by assumption) | with_reducible exact rv_ixT (by assumption) (by assumption) | with_reducible refine' ev_din ?_ ?_ (by assumption) | with_reducible refine' ev_dnotin ?_ ?_ (by assumption) | with_reducible refine' ev_dget ?_ ?_ (by assumption) (by assumption) | ((with_reducible show SpV _ _ _ _); assumption) | ((with_reducible show RV _ _ _ _ _); assumption) | ((with_reducible show RC _ _ _ _); assumption) | ((with_reducible show CDiv _ _); exact ⟨by omega, by omega⟩) | ((with_reducible show CMul _ _); first | exact .inl ⟨by omega, by omega⟩ | exact .inr ⟨by omega, by omega⟩) | ((with_reducible show CPow _ _); exact ⟨by omega, by omega, by first | decide | assumption | omega⟩) | ((with_reducible show (0 : Int) < _); omega) | ((with_reducible show (0 : Int) ≤ _); omega) | ((with_reducible show scal _ _ = true); rfl)))) fun H5 e5 => q H5 (e4.trans e5)
theorem okm_Changes_balls {P : Program} {w : World} {K : PySem.W.Frag} {mg : Str → Option Value} {base : Heap} (T : TXT K mg) {G : Fam} {j : Nat} (hj : 8 ≤ j) (hF : FamOk P w K mg base G (j+1)) : OKM P w K mg base (He.ga K "Changes") "balls" (j+2) (sp_rb K G) := by
  obtain ⟨fd, b, F⟩ := okf_Changes_balls (P := P) (w := w) (base := base) T hj hF
  exact ⟨_, fd, _, He.cls_ok (T.fact 95), He.meth_ok (T.fact 100), b, F⟩

theorem sc_Changes_undone : FnScope ["self", "change"] ["self"] (defScope s_Changes_undone) := ⟨rfl, rfl, rfl, by decide +kernel, rfl, by decide +kernel, by decide +kernel⟩
theorem okf_Changes_undone {P : Program} {w : World} {K : PySem.W.Frag} {mg : Str → Option Value} {base : Heap} (T : TXT K mg) {G : Fam} {j : Nat} (hj : 8 ≤ j) (hF : FamOk P w K mg base G (j+1)) : ∃ fd, Binds K fd ["self"] [] ∧ FnOk P w K mg base (L2.CX P w) (j+2) (He.ma K (He.ga K "Changes") "undone") fd ["self"] (sp_ru K G) := by
  have I_Changes := oki_Changes (P := P) (w := w) (base := base) T
  obtain ⟨fd, F⟩ := T.def_ 36
  refine ⟨fd, F.bindsN (fun _ _ _ _ _ _ us hl => match us, hl with | [_], _ => rfl), F.ok sc_Changes_undone (fun vs H Q E h => ?_) (fun cdv A outer s H vs Q E hr h => ?_)⟩
  · first | (obtain ⟨rfl, _⟩ := h; rfl) | (obtain ⟨_, rfl, _⟩ := h; rfl) | (obtain ⟨_, _, rfl, _⟩ := h; rfl) | (obtain ⟨_, _, _, rfl, _⟩ := h; rfl) | (obtain ⟨_, _, _, _, rfl, _⟩ := h; rfl) | (obtain ⟨_, _, _, _, _, rfl, _⟩ := h; rfl) | (obtain ⟨_, _, _, _, _, _, rfl, _⟩ := h; rfl) | (obtain ⟨_, _, _, _, _, _, _, rfl, _⟩ := h; rfl) | (obtain ⟨_, _, _, _, _, _, _, _, rfl, _⟩ := h; rfl)
  · refine ⟨_, (pss_one (ps_ret (pe_mkI I_Changes (hr.mono (by first | decide | omega)) (by rfl) (passes_call (takes_of rfl rfl rfl rfl) (fun _ _ _ _ h => h)) (pa_cons (pe_lc (own := [("change", 1)]) (g := gName 1) (tt := tYes) rfl sc_Changes_undone.nd (k_piL K (pe_revL (pe_fld (pv 0) rfl))) (blkOk_by (N := ["self", "change"]) (sc := defScope s_Changes_undone) (by decide +kernel)) (fun _ _ _ _ _ => pg_name (i := 1) sc_Changes_undone.nd rfl (Or.inl rfl)) (fun _ _ _ _ _ => pts_nil) (fun _ _ _ _ _ => (pe_methD0 (P := P) (w := w) (K := K) (mg := mg) (base := base) (k := (j+1)) (pv 1) (hr.mono (by first | decide | omega)) passL))) pa_nil)))), ?_⟩
    obtain ⟨v, cs, p, rfl, ⟨a, dx, l, vs, rfl, pa, pl, ha, hl, ⟨hn, hrows⟩, hz⟩, hcan, q⟩ := h
    dsimp only [cxOf, L2.start, List.map_cons, List.map_nil, List.length_cons, List.length_nil, Nat.reduceAdd, Nat.reduceSub, List.replicate_succ, List.replicate_zero, List.cons_append, List.nil_append, Nat.zero_add, List.reduceReplicate, List.map]
    have el : EvL (tRevL K (tFld K (tVar 0) "rows")) [some (V.ref a), none] H vs.reverse := el_revL (ev_fld (ev_var rfl) ha (He.cls_ok (T.fact 95)) (He.noat_ok (T.fact 96)) rfl) (sq_of hl)
    refine makeR (fun xs H1 => RowsOf G (fun a => p a ∨ H a = none) H1 xs (cs.reverse.map G.undo)) (fun xs H1 H2 e hr => ⟨hr.1, fun i v c h1 h2 => hF.mono e (hr.2 i v c h1 h2)⟩) (fun P kP => ?_) (fun x dx p2 xs H1 e1 hx hp hne h1 h2 hr => q (.ref x) H1 e1 ⟨x, dx, p2, xs, rfl, .inr hx, .inr hp, h1, h2, hr, by rw [List.length_map, List.length_reverse]; exact hz⟩)
    refine t_lcRelN (fun Dl i acc H' => acc.length = i ∧ ∀ (t : Nat) v c, acc[t]? = some v → (cs.reverse.map G.undo)[t]? = some c → G.at_ (fun a => (p a ∨ H a = none) ∧ a ≠ Dl) H' v c) el (by rw [List.length_reverse]; omega) (fun _ => rfl) (fun Dl H' e => ⟨rfl, fun t v c ht => by simp at ht⟩) ?_ ?_
    · intro i x acc Dl H' hi e hD hl hR P kP
      obtain ⟨hlen, hacc⟩ := hR
      have hil := (List.getElem?_eq_some_iff.mp hi).1
      rw [List.length_reverse] at hil
      rw [List.getElem?_reverse hil] at hi
      have hic : cs.length - 1 - i < cs.length := by omega
      have hc : cs[cs.length - 1 - i]? = some cs[cs.length - 1 - i] := List.getElem?_eq_getElem hic
      have hcr : cs.reverse[i]? = some cs[cs.length - 1 - i] := by rw [List.getElem?_reverse (by omega)]; exact hc
      rw [hn] at hi
      have hat := hF.imp (p' := fun a => p a ∧ H a ≠ none) (fun a o z1 z2 => ⟨z1, by rw [z2]; simp⟩) (hrows _ x _ hi hc)
      refine t_meth (vs := []) (hF.undone (hF.mono e hat)) (ev_var rfl) (fun _ _ => ea_nil) fun H5 e5 => ⟨rfl, hcan _ (List.getElem_mem hic), fun v' H6 e6 h6 => kP v' H6 (e5.trans e6) ⟨by simp [hlen], fun t v d ht hd => ?_⟩⟩
      refine hF.frame (H := H6) (fun a o z1 z2 => by rw [upd_ne z1.2]; exact z2) ?_
      by_cases htl : t < acc.length
      · rw [List.getElem?_append_left htl] at ht
        exact hF.mono (e5.trans e6) (hacc t v d ht hd)
      · have hti : t = i := by
          have := (List.getElem?_eq_some_iff.mp ht).1
          simp at this
          omega
        subst hti
        rw [List.getElem?_append_right (by omega), hlen, Nat.sub_self] at ht
        rw [List.getElem?_map, hcr] at hd
        cases ht
        cases hd
        refine hF.imp (fun a o z1 z2 => ?_) h6
        rcases z1 with ⟨z1, z3⟩ | z1
        · exact ⟨.inl z1, fun z => z3 (by rw [z]; exact hD)⟩
        · refine ⟨.inr (fresh_back (e.trans e5) z1), fun z => ?_⟩
          rw [z, e5 _ _ hl] at z1
          cases z1
    · intro Dl acc H' hD e hl hR
      obtain ⟨hlen, hacc⟩ := hR
      rw [List.length_reverse] at hlen
      exact kP Dl acc H' e hl ⟨by rw [List.length_map, List.length_reverse]; omega, fun t v c ht hc => hF.imp (fun a o z1 _ => z1.1) (hacc t v c ht hc)⟩
theorem okm_Changes_undone {P : Program} {w : World} {K : PySem.W.Frag} {mg : Str → Option Value} {base : Heap} (T : TXT K mg) {G : Fam} {j : Nat} (hj : 8 ≤ j) (hF : FamOk P w K mg base G (j+1)) : OKM P w K mg base (He.ga K "Changes") "undone" (j+2) (sp_ru K G) := by
  obtain ⟨fd, b, F⟩ := okf_Changes_undone (P := P) (w := w) (base := base) T hj hF
  exact ⟨_, fd, _, He.cls_ok (T.fact 95), He.meth_ok (T.fact 99), b, F⟩

theorem row_ok {P : Program} {w : World} {K : PySem.W.Frag} {mg : Str → Option Value} {base : Heap} {F : Fam} {j : Nat} (T : TXT K mg) (hj : 8 ≤ j) (hF : FamOk P w K mg base F (j+1)) : FamOk P w K mg base (rowF K F) (j+2) where
  frame := fun {p H H' v c} h q => by
    cases c with
    | inl s => exact SimAt.frame h q
    | inr cs =>
      obtain ⟨a, dx, l, vs, e, pa, pl, ha, hl, ⟨hn, hr⟩, hz⟩ := q
      exact ⟨a, dx, l, vs, e, pa, pl, h a _ pa ha, h l _ pl hl, ⟨hn, fun i v c h1 h2 => hF.frame h (hr i v c h1 h2)⟩, hz⟩
  imp := fun {p p' H v c} h q => by
    cases c with
    | inl s => exact SimAt.imp h q
    | inr cs =>
      obtain ⟨a, dx, l, vs, e, pa, pl, ha, hl, ⟨hn, hr⟩, hz⟩ := q
      exact ⟨a, dx, l, vs, e, h a _ pa ha, h l _ pl hl, ha, hl, ⟨hn, fun i v c h1 h2 => hF.imp h (hr i v c h1 h2)⟩, hz⟩
  fine := fun c o => by
    cases c with
    | inl s => exact Sim.fine s o
    | inr cs => exact fold_fine hF.fine cs _ (Sim.fine .plain o)
  done := fun {p H v c} q => by
    cases c with
    | inl s => exact (sim_done (P := P) (w := w) (base := base) T q).up (by omega)
    | inr cs =>
      obtain ⟨a, dx, l, vs, e, pa, pl, ha, hl, hr⟩ := q
      refine ⟨a, _, dx, _, _, e, ha, rfl, okm_Changes_done T hj hF, fun us H1 Q E e1 ⟨pt, o, eu, hk, g⟩ => ⟨v, cs, p, pt, o, eu, ?_, hk, g⟩⟩
      exact ⟨a, dx, l, vs, e, pa, pl, e1 _ _ ha, e1 _ _ hl, ⟨hr.1.1, fun i v c h1 h2 => hF.mono e1 (hr.1.2 i v c h1 h2)⟩, hr.2⟩
  undone := fun {p H v c} q => by
    cases c with
    | inl s => exact (sim_undone (P := P) (w := w) (base := base) T q).up (by omega)
    | inr cs =>
      obtain ⟨a, dx, l, vs, e, pa, pl, ha, hl, hr⟩ := q
      refine ⟨a, _, dx, _, _, e, ha, rfl, okm_Changes_undone T hj hF, fun us H1 Q E e1 ⟨eu, hc, g⟩ => ⟨v, cs, p, eu, ?_, hc, g⟩⟩
      exact ⟨a, dx, l, vs, e, pa, pl, e1 _ _ ha, e1 _ _ hl, ⟨hr.1.1, fun i v c h1 h2 => hF.mono e1 (hr.1.2 i v c h1 h2)⟩, hr.2⟩
  balls := fun {p H v c} q => by
    cases c with
    | inl s => exact (sim_balls (P := P) (w := w) (base := base) T q).up (by omega)
    | inr cs =>
      obtain ⟨a, dx, l, vs, e, pa, pl, ha, hl, hr⟩ := q
      refine ⟨a, _, dx, _, _, e, ha, rfl, okm_Changes_balls T hj hF, fun us H1 Q E e1 ⟨m, eu, hc, g⟩ => ⟨v, cs, p, m, eu, ?_, hc, g⟩⟩
      exact ⟨a, dx, l, vs, e, pa, pl, e1 _ _ ha, e1 _ _ hl, ⟨hr.1.1, fun i v c h1 h2 => hF.mono e1 (hr.1.2 i v c h1 h2)⟩, hr.2⟩
end TB

/-! ### changes: what they do to a pattern -/
namespace TB
open PySem PySem.Spec PyProof.Rows L2 Evl
/-- a pattern of n throws, none farther than b -/
structure PatB (n : Nat) (b : Int) (ns : List Int) : Prop where
  len : ns.length = n
  no : clashOf ns = none
  far : ∀ t ∈ ns, -b ≤ t ∧ t ≤ b
theorem PatB.row {n : Nat} {b : Int} {ns : List Int} (h : PatB n b ns) (h1 : 1 ≤ n) (h9 : n ≤ 9) (hb : b ≤ 1000000) : RowI ns := ⟨by rw [h.len]; exact h1, by rw [h.len]; omega, fun t ht => by
  have := h.far t ht
  omega⟩
theorem PatB.up {n : Nat} {b c : Int} {ns : List Int} (h : PatB n b ns) (hc : b ≤ c) : PatB n c ns := ⟨h.len, h.no, fun t ht => by
  have := h.far t ht
  omega⟩
theorem far_getD {b : Int} {ns : List Int} (h : ∀ t ∈ ns, -b ≤ t ∧ t ≤ b) {i : Nat} (hi : i < ns.length) : -b ≤ ns.getD i 0 ∧ ns.getD i 0 ≤ b := h _ (getD_mem hi)
theorem far_of {b : Int} {ns : List Int} (h : ∀ i, i < ns.length → -b ≤ ns.getD i 0 ∧ ns.getD i 0 ≤ b) : ∀ t ∈ ns, -b ≤ t ∧ t ≤ b := fun t ht => by
  obtain ⟨i, hi, rfl⟩ := mem_getD ht
  exact h i hi
/-- the changes that the laws draw, of patterns of n throws -/
inductive Drawn (n : Nat) : Sim → Prop where
  | plain : Drawn n .plain
  | turn (k : Int) (h : -9 ≤ k ∧ k ≤ 9) : Drawn n (.turn (.int k))
  | lift (k : Int) (h : -9 ≤ k ∧ k ≤ 9) : Drawn n (.lift (.int k))
  | swap (i j : Nat) (h : i < j) (hj : j < n) : Drawn n (.swap (.int (i : Int)) (.int (j : Int)))
  | nb (k : Nat) (h : 1 < n) (hk : k < n) : Drawn n (.nb (.int (k : Int)))
  | mir : Drawn n .mir
  | gap (k : Int) (h : -9 ≤ k ∧ k ≤ 9) : Drawn n (.gap (.int k))
/-- what a drawn change makes -/
def Sim.to : Sim → List Int → List Int
  | .turn (.int k), ns => turnI ns k
  | .lift (.int k), ns => ns.map (· + k)
  | .swap (.int i) (.int j), ns => swapI ns i.toNat j j.toNat
  | .nb (.int k), ns => exI ns k.toNat
  | .mir, ns => mirrorI ns
  | .gap (.int k), ns => gapsI ns k
  | _, ns => ns
theorem turn_len (ns : List Int) (k : Int) (h1 : 1 ≤ ns.length) : (turnI ns k).length = ns.length := by
  rw [turn_get k h1]
  simp
theorem turn_getD {ns : List Int} (k : Int) (h1 : 1 ≤ ns.length) {b : Nat} (hb : b < ns.length) : (turnI ns k).getD b 0 = ns.getD ((k + (b : Int)) % (ns.length : Int)).toNat 0 := by
  rw [turn_get k h1, getD_rng _ hb]
theorem mod_lt' {n : Nat} (h1 : 1 ≤ n) (x : Int) : (x % (n : Int)).toNat < n := by
  have a := Int.emod_nonneg x (show (n : Int) ≠ 0 by omega)
  have b := Int.emod_lt_of_pos x (show (0 : Int) < (n : Int) by omega)
  omega
theorem mod_cast' {n : Nat} (h1 : 1 ≤ n) (x : Int) : (((x % (n : Int)).toNat : Nat) : Int) = x % (n : Int) := by
  have a := Int.emod_nonneg x (show (n : Int) ≠ 0 by omega)
  omega
theorem turn_land {ns : List Int} (k : Int) (h1 : 1 ≤ ns.length) {b : Nat} (hb : b < ns.length) : (land (turnI ns k) b + k) % (ns.length : Int) = land ns ((k + (b : Int)) % (ns.length : Int)).toNat := by
  unfold land
  rw [turn_getD k h1 hb, turn_len ns k h1, mod_cast' h1]
  rw [Int.add_emod, Int.emod_emod_of_dvd _ (Int.dvd_refl _), ← Int.add_emod, Int.add_comm ((k + (b : Int)) % (ns.length : Int)), Int.add_emod (ns.getD _ 0) ((k + (b : Int)) % (ns.length : Int)), Int.emod_emod_of_dvd _ (Int.dvd_refl _), ← Int.add_emod]
  congr 1
  omega
theorem turn_inj {n : Nat} {k : Int} (h1 : 1 ≤ n) {i j : Nat} (hi : i < n) (hj : j < n) (e : ((k + (i : Int)) % (n : Int)).toNat = ((k + (j : Int)) % (n : Int)).toNat) : i = j := by
  have e2 : (k + (i : Int)) % (n : Int) = (k + (j : Int)) % (n : Int) := by
    have a := mod_cast' h1 (k + (i : Int))
    have b := mod_cast' h1 (k + (j : Int))
    rw [e] at a
    exact a.symm.trans b
  have e3 : ((k + (i : Int)) - k) % (n : Int) = ((k + (j : Int)) - k) % (n : Int) := by
    rw [Int.sub_emod, e2, ← Int.sub_emod]
  rw [show k + (i : Int) - k = i by omega, show k + (j : Int) - k = j by omega, Int.emod_eq_of_lt (by omega) (by omega), Int.emod_eq_of_lt (by omega) (by omega)] at e3
  omega
theorem turn_clash {ns : List Int} (k : Int) (h1 : 1 ≤ ns.length) (hc : clashOf ns = none) : clashOf (turnI ns k) = none := clash_none_of fun i j hi hj e => by
  rw [turn_len ns k h1] at hi hj
  have e1 := turn_land k h1 hi
  have e2 := turn_land k h1 hj
  rw [e, e2] at e1
  exact turn_inj h1 hi hj (land_inj hc (mod_lt' h1 _) (mod_lt' h1 _) e1.symm)
theorem turn_sum {ns : List Int} (k : Int) (h1 : 1 ≤ ns.length) : (turnI ns k).sum = ns.sum := by
  unfold turnI
  rw [List.sum_append, Int.add_comm, ← List.sum_append, List.take_append_drop]
theorem turn_turn {ns : List Int} (k : Int) (h1 : 1 ≤ ns.length) : turnI (turnI ns k) (-k) = ns := by
  have hl := turn_len ns k h1
  apply ext_getD (by rw [turn_len _ _ (by rw [hl]; exact h1), hl])
  intro i hi
  rw [turn_len _ _ (by rw [hl]; exact h1), hl] at hi
  rw [turn_getD (-k) (by rw [hl]; exact h1) (by rw [hl]; exact hi), hl, turn_getD k h1 (mod_lt' h1 _), mod_cast' h1]
  congr 1
  rw [Int.add_emod, Int.emod_emod_of_dvd _ (Int.dvd_refl _), ← Int.add_emod, show k + (-k + (i : Int)) = i by omega, Int.emod_eq_of_lt (by omega) (by omega)]
  omega
/-- a drawn change of a pattern -/
theorem drawn_pat {n : Nat} {s : Sim} (d : Drawn n s) (h1 : 1 ≤ n) (h9 : n ≤ 9) {b : Int} {ns : List Int} (p : PatB n b ns) : PatB n (b + 9) (s.to ns) := by
  have l1 : 1 ≤ ns.length := by rw [p.len]; exact h1
  cases d with
  | plain => exact p.up (by omega)
  | turn k h =>
    refine ⟨by show (turnI ns k).length = n; rw [turn_len _ _ l1, p.len], turn_clash k l1 p.no, far_of fun i hi => ?_⟩
    show -(b + 9) ≤ (turnI ns k).getD i 0 ∧ (turnI ns k).getD i 0 ≤ b + 9
    have hi : i < (turnI ns k).length := hi
    rw [turn_len _ _ l1] at hi
    rw [turn_getD k l1 hi]
    have := far_getD p.far (mod_lt' l1 (k + (i : Int)))
    omega
  | lift k h =>
    refine ⟨by show (ns.map (· + k)).length = n; rw [List.length_map, p.len], lift_clash k p.no, fun t ht => ?_⟩
    obtain ⟨x, hx, rfl⟩ := List.mem_map.mp (show t ∈ ns.map (· + k) from ht)
    have := p.far x hx
    omega
  | swap i j hij hj =>
    have li : i < ns.length := by rw [p.len]; omega
    have lj : j < ns.length := by rw [p.len]; omega
    have ej : (j : Int) % (ns.length : Int) = (j : Int) := Int.emod_eq_of_lt (by omega) (by omega)
    have eq : Sim.to (.swap (.int (i : Int)) (.int (j : Int))) ns = swapI ns i (j : Int) j := rfl
    rw [eq]
    refine ⟨by rw [swap_len, p.len], swap_clash li lj ej p.no, far_of fun t ht => ?_⟩
    rw [swap_get li lj]
    rw [swap_len] at ht
    have a1 := far_getD p.far li
    have a2 := far_getD p.far lj
    have a3 := far_getD p.far ht
    split
    · omega
    · split
      · omega
      · omega
  | nb k hn hk =>
    have lk : k < ns.length := by rw [p.len]; omega
    have lk2 : (k + 1) % ns.length < ns.length := Nat.mod_lt _ (by omega)
    have eq : Sim.to (.nb (.int (k : Int))) ns = swapI ns k ((k : Int) + 1) ((k + 1) % ns.length) := exI_swap ns k
    have ej : ((k : Int) + 1) % (ns.length : Int) = (((k + 1) % ns.length : Nat) : Int) := by
      rw [Int.natCast_emod, Int.natCast_add]
      rfl
    rw [eq]
    refine ⟨by rw [swap_len, p.len], swap_clash lk lk2 ej p.no, far_of fun t ht => ?_⟩
    rw [swap_get lk lk2]
    rw [swap_len] at ht
    have a1 := far_getD p.far lk
    have a2 := far_getD p.far lk2
    have a3 := far_getD p.far ht
    split
    · omega
    · split
      · omega
      · omega
  | mir =>
    refine ⟨by show (mirrorI ns).length = n; rw [mirrorI_len, p.len], mirror_clash l1 p.no, far_of fun i hi => ?_⟩
    show -(b + 9) ≤ (mirrorI ns).getD i 0 ∧ (mirrorI ns).getD i 0 ≤ b + 9
    have hi : i < (mirrorI ns).length := hi
    rw [mirrorI_len] at hi
    obtain ⟨c, hc, rfl⟩ := ml_onto l1 p.no hi
    rw [mirrorI_get l1 p.no hc]
    have := far_getD p.far hc
    omega
  | gap k h =>
    refine ⟨by show (gapsI ns k).length = n; rw [gapsI_len, p.len], gaps_clash k l1 p.no, far_of fun i hi => ?_⟩
    show -(b + 9) ≤ (gapsI ns k).getD i 0 ∧ (gapsI ns k).getD i 0 ≤ b + 9
    have hi : i < (gapsI ns k).length := hi
    rw [gapsI_len] at hi
    rw [gapsI_get k hi]
    have := far_getD p.far (opp_lt ns.length (i : Int) l1)
    omega
theorem allM_far {b : Int} {ns : List Int} (h : ∀ t ∈ ns, -b ≤ t ∧ t ≤ b) (hb : b ≤ 1000000) : allM ns = true := allM_iff.mpr fun t ht => by
  have := h t ht
  omega
theorem inM_small {k : Int} (h : -9 ≤ k ∧ k ≤ 9) : inM (.int k) = true := by
  show (decide (-1000000 ≤ k) && decide (k ≤ 1000000)) = true
  simp only [Bool.and_eq_true, decide_eq_true_iff]
  omega
/-- .. done -/
theorem drawn_done {n : Nat} {s : Sim} (d : Drawn n s) (h1 : 1 ≤ n) (h9 : n ≤ 9) {b : Int} {ns : List Int} (p : PatB n b ns) (hb : b ≤ 999000) : s.done (some (ns.map V.int)) = .lst ((s.to ns).map V.int) := by
  have q := drawn_pat d h1 h9 p
  have ha := allM_far q.far (by omega)
  have hr := p.row h1 h9 (by omega)
  have hc := p.no
  cases d with
  | plain => exact door_pat (f := fun ns => .lst (ns.map V.int)) hr hc
  | turn k h => exact (door_pat (f := fun ns => numRe (.int k) fun i => .lst ((turnI ns i).map V.int)) hr hc).trans (num_is (f := fun i => .lst ((turnI ns i).map V.int)) (inM_small h))
  | lift k h => exact (door_pat (f := fun ns => numRe (.int k) fun i => keptRe (ns.map (· + i))) hr hc).trans ((num_is (f := fun i => keptRe (ns.map (· + i))) (inM_small h)).trans (kept_is ha))
  | swap i j hij hj => exact (door_pat (f := fun ns => swapRe (.int (i : Int)) (.int (j : Int)) ns) hr hc).trans ((swap_good hij (by rw [p.len]; exact hj)).trans (kept_is ha))
  | nb k hn hk => exact (door_pat (f := fun ns => nbRe (.int (k : Int)) ns) hr hc).trans ((nb_good (by rw [p.len]; exact hn) (by rw [p.len]; exact hk)).trans (kept_is ha))
  | mir => exact door_pat (f := fun ns => .lst ((mirrorI ns).map V.int)) hr hc
  | gap k h => exact (door_pat (f := fun ns => numRe (.int k) fun i => keptRe (gapsI ns i)) hr hc).trans ((num_is (f := fun i => keptRe (gapsI ns i)) (inM_small h)).trans (kept_is ha))
theorem drawn_undo {n : Nat} {s : Sim} (d : Drawn n s) : Drawn n s.undo := by
  cases d with
  | plain => exact .plain
  | turn k h => exact .turn _ (by omega)
  | lift k h => exact .lift _ (by omega)
  | swap i j hij hj => exact .swap i j hij hj
  | nb k hn hk => exact .nb k hn hk
  | mir => exact .mir
  | gap k h => exact .gap k h
theorem undo_undo {n : Nat} {s : Sim} (d : Drawn n s) : s.undo.undo = s := by
  cases d with
  | turn k h => exact congrArg (fun z => Sim.turn (.int z)) (Int.neg_neg k)
  | lift k h => exact congrArg (fun z => Sim.lift (.int z)) (Int.neg_neg k)
  | _ => rfl
theorem drawn_can {n : Nat} {s : Sim} (d : Drawn n s) : s.can := by
  cases d with
  | turn k h => exact ⟨k, rfl⟩
  | lift k h => exact ⟨k, rfl⟩
  | gap k h => exact ⟨k, rfl⟩
  | _ => exact True.intro
/-- .. undone -/
theorem drawn_back {n : Nat} {s : Sim} (d : Drawn n s) (h1 : 1 ≤ n) {b : Int} {ns : List Int} (p : PatB n b ns) : s.undo.to (s.to ns) = ns := by
  have l1 : 1 ≤ ns.length := by rw [p.len]; exact h1
  cases d with
  | plain => rfl
  | turn k h => exact turn_turn k l1
  | lift k h =>
    show (ns.map (· + k)).map (· + -k) = ns
    rw [List.map_map]
    conv => rhs; rw [← List.map_id ns]
    apply List.map_congr_left
    intro x _
    show x + k + -k = x
    omega
  | swap i j hij hj => exact swap_swap (by rw [p.len]; omega) (by rw [p.len]; omega) (by omega)
  | nb k hn hk =>
    show exI (exI ns k) k = ns
    have lk2 : (k + 1) % ns.length < ns.length := Nat.mod_lt _ (by omega)
    have hne : k ≠ (k + 1) % ns.length := fun e => by
      rw [p.len] at e
      by_cases hk2 : k + 1 < n
      · rw [Nat.mod_eq_of_lt hk2] at e
        omega
      · rw [show k + 1 = n by omega, Nat.mod_self] at e
        omega
    rw [exI_swap, exI_swap, swap_len]
    exact swap_swap (by rw [p.len]; omega) lk2 hne
  | mir => exact mirror_mirror l1 p.no
  | gap k h => exact gaps_gaps k l1
/-- .. its balls -/
theorem drawn_balls {n : Nat} {s : Sim} (d : Drawn n s) (h1 : 1 ≤ n) {b : Int} {ns : List Int} (p : PatB n b ns) : (s.to ns).sum / (n : Int) = s.balls (ns.sum / (n : Int)) := by
  have l1 : 1 ≤ ns.length := by rw [p.len]; exact h1
  have ln := p.len
  cases d with
  | plain => rfl
  | turn k h => exact congrArg (· / (n : Int)) (turn_sum k l1)
  | lift k h =>
    have z := lift_balls (ns := ns) k l1
    rw [List.length_map, ln] at z
    exact z
  | swap i j hij hj => exact congrArg (· / (n : Int)) (swap_sum (by omega) (by omega) (by omega))
  | nb k hn hk =>
    have lk2 : (k + 1) % ns.length < ns.length := Nat.mod_lt _ (by omega)
    have hne : k ≠ (k + 1) % ns.length := fun e => by
      rw [p.len] at e
      by_cases hk2 : k + 1 < n
      · rw [Nat.mod_eq_of_lt hk2] at e
        omega
      · rw [show k + 1 = n by omega, Nat.mod_self] at e
        omega
    refine congrArg (· / (n : Int)) ?_
    show (exI ns k).sum = ns.sum
    rw [exI_swap]
    exact swap_sum (by omega) lk2 hne
  | mir => exact congrArg (· / (n : Int)) (mirror_sum l1 p.no)
  | gap k h =>
    have z := gaps_balls (ns := ns) k l1 p.no
    rw [gapsI_len, ln] at z
    exact z
end TB

/-! ### rows of changes: what they do to a pattern -/
namespace TB
open PySem PySem.Spec PyProof.Rows L2 Evl
/-- good changes, each of at most st steps -/
structure Good (F : Fam) (n : Nat) (st : Int) (ok : F.I → Prop) (to : F.I → List Int → List Int) : Prop where
  st0 : 0 ≤ st
  done : ∀ {c : F.I} {b : Int} {ns : List Int}, ok c → PatB n b ns → b + 9 * st ≤ 999000 → F.done c (some (ns.map V.int)) = .lst ((to c ns).map V.int)
  pat : ∀ {c : F.I} {b : Int} {ns : List Int}, ok c → PatB n b ns → PatB n (b + 9 * st) (to c ns)
  undo : ∀ {c : F.I}, ok c → ok (F.undo c)
  back : ∀ {c : F.I} {b : Int} {ns : List Int}, ok c → PatB n b ns → to (F.undo c) (to c ns) = ns
  uu : ∀ {c : F.I}, ok c → F.undo (F.undo c) = c
  balls : ∀ {c : F.I} {b : Int} {ns : List Int}, ok c → PatB n b ns → (to c ns).sum / (n : Int) = F.balls c (ns.sum / (n : Int))
  can : ∀ {c : F.I}, ok c → F.can c
theorem sim_good (K : PySem.W.Frag) {n : Nat} (h1 : 1 ≤ n) (h9 : n ≤ 9) : Good (simF K) n 1 (Drawn n) Sim.to where
  st0 := by decide
  done := fun h p hb => drawn_done h h1 h9 p (by omega)
  pat := fun h p => (drawn_pat h h1 h9 p).up (by omega)
  undo := drawn_undo
  back := fun h p => drawn_back h h1 p
  uu := undo_undo
  balls := fun h p => drawn_balls h h1 p
  can := drawn_can
section
variable {F : Fam} {n : Nat} {st : Int} {ok : F.I → Prop} {to : F.I → List Int → List Int}
def rowTo (to : F.I → List Int → List Int) (cs : List F.I) (ns : List Int) : List Int := cs.foldl (fun m c => to c m) ns
theorem rows_go (G : Good F n st ok to) : ∀ {cs : List F.I} {b : Int} {ns : List Int}, (∀ c ∈ cs, ok c) → PatB n b ns → b + 9 * (st * (cs.length : Int)) ≤ 999000 →
    cs.foldl (fun r c => goRe (F.done c) r) (.lst (ns.map V.int)) = .lst ((rowTo to cs ns).map V.int) ∧ PatB n (b + 9 * (st * (cs.length : Int))) (rowTo to cs ns)
  | [], b, ns, _, p, _ => ⟨rfl, p.up (by simp)⟩
  | c :: cs, b, ns, h, p, hb => by
    have hc := h c List.mem_cons_self
    have hs := G.st0
    have hm : 0 ≤ st * (cs.length : Int) := Int.mul_nonneg hs (by omega)
    have e : st * ((c :: cs).length : Int) = st + st * (cs.length : Int) := by
      rw [List.length_cons, Int.natCast_add, Int.mul_add]
      simp [Int.add_comm]
    rw [e] at hb ⊢
    have g := rows_go G (cs := cs) (fun d hd => h d (List.mem_cons_of_mem _ hd)) (G.pat hc p) (by omega)
    refine ⟨?_, g.2.up (by omega)⟩
    rw [List.foldl_cons]
    show cs.foldl _ (F.done c (some (ns.map V.int))) = _
    rw [G.done hc p (by omega)]
    exact g.1
theorem rows_pat (G : Good F n st ok to) : ∀ {cs : List F.I} {b : Int} {ns : List Int}, (∀ c ∈ cs, ok c) → PatB n b ns → PatB n (b + 9 * (st * (cs.length : Int))) (rowTo to cs ns)
  | [], b, ns, _, p => p.up (by simp)
  | c :: cs, b, ns, h, p => by
    have e : st * ((c :: cs).length : Int) = st + st * (cs.length : Int) := by
      rw [List.length_cons, Int.natCast_add, Int.mul_add]
      simp [Int.add_comm]
    rw [e]
    exact (rows_pat G (cs := cs) (fun d hd => h d (List.mem_cons_of_mem _ hd)) (G.pat (h c List.mem_cons_self) p)).up (by omega)
theorem rows_back (G : Good F n st ok to) : ∀ {cs : List F.I} {b : Int} {ns : List Int}, (∀ c ∈ cs, ok c) → PatB n b ns → rowTo to (cs.reverse.map F.undo) (rowTo to cs ns) = ns
  | [], b, ns, _, p => rfl
  | c :: cs, b, ns, h, p => by
    have hc := h c List.mem_cons_self
    have z := rows_back G (cs := cs) (fun d hd => h d (List.mem_cons_of_mem _ hd)) (G.pat hc p)
    rw [List.reverse_cons, List.map_append]
    unfold rowTo at z ⊢
    rw [List.foldl_append, List.foldl_cons, z]
    exact G.back hc p
theorem rows_uu (G : Good F n st ok to) {cs : List F.I} (h : ∀ c ∈ cs, ok c) : (cs.reverse.map F.undo).reverse.map F.undo = cs := by
  rw [← List.map_reverse, List.reverse_reverse, List.map_map]
  conv => rhs; rw [← List.map_id cs]
  exact List.map_congr_left fun c hc => G.uu (h c hc)
theorem rows_balls (G : Good F n st ok to) : ∀ {cs : List F.I} {b : Int} {ns : List Int}, (∀ c ∈ cs, ok c) → PatB n b ns → (rowTo to cs ns).sum / (n : Int) = cs.foldl (fun m c => F.balls c m) (ns.sum / (n : Int))
  | [], b, ns, _, p => rfl
  | c :: cs, b, ns, h, p => by
    have hc := h c List.mem_cons_self
    rw [List.foldl_cons, ← G.balls hc p]
    exact rows_balls G (cs := cs) (fun d hd => h d (List.mem_cons_of_mem _ hd)) (G.pat hc p)
theorem rows_undo (G : Good F n st ok to) {cs : List F.I} (h : ∀ c ∈ cs, ok c) : ∀ c ∈ cs.reverse.map F.undo, ok c := fun c hc => by
  obtain ⟨d, hd, rfl⟩ := List.mem_map.mp hc
  exact G.undo (h d (List.mem_reverse.mp hd))
/-- a row of good changes is good, of a pattern -/
theorem rowDone_is (G : Good F n st ok to) (h1 : 1 ≤ n) (h9 : n ≤ 9) {cs : List F.I} {b : Int} {ns : List Int} (h : ∀ c ∈ cs, ok c) (p : PatB n b ns) (hb : b + 9 * (st * (cs.length : Int)) ≤ 999000) : rowDone F cs (some (ns.map V.int)) = .lst ((rowTo to cs ns).map V.int) := by
  have hm : 0 ≤ st * (cs.length : Int) := Int.mul_nonneg G.st0 (by omega)
  unfold rowDone
  rw [drawn_done (s := .plain) .plain h1 h9 p (by omega)]
  exact (rows_go G h p hb).1
/-- the family of the simple ones and of short rows of them -/
def okR (ok : F.I → Prop) (L : Nat) (n : Nat) : Sim ⊕ List F.I → Prop
  | .inl s => Drawn n s
  | .inr cs => cs.length ≤ L ∧ ∀ c ∈ cs, ok c
def toR (to : F.I → List Int → List Int) : Sim ⊕ List F.I → List Int → List Int
  | .inl s, ns => s.to ns
  | .inr cs, ns => rowTo to cs ns
theorem row_good (K : PySem.W.Frag) (G : Good F n st ok to) (h1 : 1 ≤ n) (h9 : n ≤ 9) {L : Nat} {s2 : Int} (hs1 : 1 ≤ s2) (hs : st * (L : Int) ≤ s2) : Good (rowF K F) n s2 (okR ok L n) (toR to) where
  st0 := by omega
  done := fun {c b ns} h p hb => by
    cases c with
    | inl s => exact drawn_done h h1 h9 p (by omega)
    | inr cs =>
      have e : st * (cs.length : Int) ≤ s2 := Int.le_trans (Int.mul_le_mul_of_nonneg_left (by have := h.1; omega) G.st0) hs
      exact rowDone_is G h1 h9 h.2 p (by omega)
  pat := fun {c b ns} h p => by
    cases c with
    | inl s => exact (drawn_pat h h1 h9 p).up (by omega)
    | inr cs =>
      have e : st * (cs.length : Int) ≤ s2 := Int.le_trans (Int.mul_le_mul_of_nonneg_left (by have := h.1; omega) G.st0) hs
      exact (rows_pat G h.2 p).up (by omega)
  undo := fun {c} h => by
    cases c with
    | inl s => exact drawn_undo h
    | inr cs => exact ⟨by rw [List.length_map, List.length_reverse]; exact h.1, rows_undo G h.2⟩
  back := fun {c b ns} h p => by
    cases c with
    | inl s => exact drawn_back h h1 p
    | inr cs => exact rows_back G h.2 p
  uu := fun {c} h => by
    cases c with
    | inl s => exact congrArg Sum.inl (undo_undo h)
    | inr cs => exact congrArg Sum.inr (rows_uu G h.2)
  balls := fun {c b ns} h p => by
    cases c with
    | inl s => exact drawn_balls h h1 p
    | inr cs => exact rows_balls G h.2 p
  can := fun {c} h => by
    cases c with
    | inl s => exact drawn_can h
    | inr cs => exact fun c hc => G.can (h.2 c hc)
end
/-! what the law draws -/
def biI (c n : Int) : Int := c / 7 % (n - 1)
def bjI (c n : Int) : Int := biI c n + 1 + c / 133 % (n - 1 - biI c n)
theorem bi_bd {c n : Int} (h : 1 < n) : 0 ≤ biI c n ∧ biI c n < bjI c n ∧ bjI c n < n := by
  unfold bjI
  have a := Int.emod_nonneg (c / 7) (show n - 1 ≠ 0 by omega)
  have b := Int.emod_lt_of_pos (c / 7) (show 0 < n - 1 by omega)
  have e : biI c n = c / 7 % (n - 1) := rfl
  have d := Int.emod_nonneg (c / 133) (show n - 1 - biI c n ≠ 0 by omega)
  have f := Int.emod_lt_of_pos (c / 133) (show 0 < n - 1 - biI c n by omega)
  omega
def simOf (c : Int) (n : Nat) : Sim := if c % 7 = 0 then .turn (.int (c / 7 % 19 - 9)) else if c % 7 = 1 then .lift (.int (c / 7 % 19 - 9)) else if c % 7 = 2 ∧ 1 < n then .swap (.int (biI c n)) (.int (bjI c n)) else
  if c % 7 = 3 ∧ 1 < n then .nb (.int (c / 7 % (n : Int))) else if c % 7 = 4 then .mir else if c % 7 = 5 then .gap (.int (c / 7 % 19 - 9)) else .plain
theorem simOf_drawn (c : Int) {n : Nat} (h1 : 1 ≤ n) : Drawn n (simOf c n) := by
  have hk : -9 ≤ c / 7 % 19 - 9 ∧ c / 7 % 19 - 9 ≤ 9 := by omega
  unfold simOf
  split
  · exact .turn _ hk
  split
  · exact .lift _ hk
  split
  · rename_i h
    have z := bi_bd (c := c) (n := (n : Int)) (by omega)
    have e1 : biI c n = ((biI c n).toNat : Int) := by omega
    have e2 : bjI c n = ((bjI c n).toNat : Int) := by omega
    rw [e1, e2]
    exact .swap _ _ (by omega) (by omega)
  split
  · rename_i h
    have a := Int.emod_nonneg (c / 7) (show (n : Int) ≠ 0 by omega)
    have b := Int.emod_lt_of_pos (c / 7) (show (0 : Int) < (n : Int) by omega)
    have e1 : c / 7 % (n : Int) = ((c / 7 % (n : Int)).toNat : Int) := by omega
    rw [e1]
    exact .nb _ h.2 (by omega)
  split
  · exact .mir
  split
  · exact .gap _ hk
  · exact .plain
end TB

/-! ### the law k15: its drawing, its kinds -/
namespace TB
open PySem PySem.Spec PyProof.Rows L2 Evl
section
variable {X : Cx}
def eqB (k : Bool) (v : Value) : Bool := match v with
  | .bool n => n == k
  | _ => false
theorem vals_bools : ∀ {bs : List Bool} {us : List Value}, Vals (bs.map V.bl) us → us = bs.map Value.bool
  | [], _, .nil => rfl
  | b :: r, _, .cons h t => by
    have e := vals_bools t
    rw [e]
    cases h
    rfl
theorem count_bools (k : Bool) (bs : List Bool) : (bs.map Value.bool).countP (eqB k) = bs.count k := by
  rw [List.countP_map]
  rfl
def rCntB (K : PySem.W.Frag) : V → List V → Hp → VK → Prop := fun x xs H Q => ∃ (p : Addr) (bs : List Bool) (k : Bool), x = .ref p ∧ xs = [.bl k] ∧ SqL K H p (bs.map V.bl) ∧ Q (.int (bs.count k : Nat)) H
theorem mt_countB : MtR X "list.count" (rCntB X.K) := by
  intro pins s σ H x xs v us Q I rx rxs h
  obtain ⟨p, bs, k, rfl, rfl, hs, q⟩ := h
  cases rx
  obtain ⟨u, rfl, ru⟩ := rxs.one
  cases ru
  obtain ⟨its, rv, ⟨⟨cls, dd, data, sl⟩, n, ho, hc, hdn, hd⟩, hlen⟩ := I.list hs
  simp only at hc hd
  subst hc hd
  have hi := vals_bools rv
  subst hi
  refine call_meets PySem.F.slot_list_count ⟨_, ho, rfl⟩ PySem.F.entry_list_count (PySem.F.args_list_count_2 _ _)
    (SeqAt.list_countAt p (bs.map Value.bool).toArray n dd sl (.bool k) (eqB k)) ⟨ho, fun y hy => ?_, ?_⟩
  · have hy : y ∈ bs.map Value.bool := by simpa using hy
    obtain ⟨b, _, rfl⟩ := List.mem_map.mp hy
    exact SeqAt.EqAt.bool_bool b k
  have ec : (bs.map Value.bool).toArray.toList.countP (eqB k) = bs.count k := count_bools k bs
  refine ⟨.int (bs.count k : Nat), H, I.tok _, ⟨s.toks, ?_⟩, q⟩
  show Value.int (((bs.map Value.bool).toArray.toList.countP (eqB k) : Nat) : Int) s.toks = Value.int ((bs.count k : Nat) : Int) s.toks
  rw [ec]
end
/-- the classes of changes -/
def clsN : List Str := ["Change", "Turn", "Lift", "Swap", "Neighbours", "Mirror", "Gaps", "Changes"]
structure KindC (K : PySem.W.Frag) (x : Str) : Prop where
  cl : Cls K (He.ga K x)
  ha : PySem.W.findIn K (.ref (He.ga K x)) "__class__" = some (some (.builtin "object.__class__"))
  hn : PySem.W.specialIn K (.builtin "object.__class__") "__get__" = some (some (.builtin "getset_descriptor.__get__"))
  ht : PySem.W.takesIn K (.builtin "object.__class__") = some true
  hm : PySem.W.mroIn K (He.ga K x) (.type "object") = some true
  isa : ∀ y ∈ clsN, PySem.W.kitOne K (.ref (He.ga K x)) (.ref (He.ga K y)) = some (decide (x = y) || decide (y = ("Change" : Str)))
theorem own_of {K : PySem.W.Frag} {x : Str} (cl : Cls K (He.ga K x)) (c : (Fb.own x).ok K = true) (h : ∀ y ∈ clsN, PySem.W.kitOne K (.ref (He.ga K x)) (.ref (He.ga K y)) = some (decide (x = y) || decide (y = ("Change" : Str)))) : KindC K x := by
  obtain ⟨c1, c⟩ := He.ba c
  obtain ⟨c2, c⟩ := He.ba c
  obtain ⟨c3, c4⟩ := He.ba c
  exact ⟨cl, of_decide_eq_true c1, of_decide_eq_true c2, of_decide_eq_true c3, of_decide_eq_true c4, h⟩
theorem isa_ok {K : PySem.W.Frag} {x y : Str} {b : Bool} (c : (Fb.isa x y b).ok K = true) : PySem.W.kitOne K (.ref (He.ga K x)) (.ref (He.ga K y)) = some b := of_decide_eq_true c
theorem mem8 {Pr : Str → Prop} (h1 : Pr "Change") (h2 : Pr "Turn") (h3 : Pr "Lift") (h4 : Pr "Swap") (h5 : Pr "Neighbours") (h6 : Pr "Mirror") (h7 : Pr "Gaps") (h8 : Pr "Changes") : ∀ y ∈ clsN, Pr y := fun y hy => by
  unfold clsN at hy
  simp only [List.mem_cons, List.not_mem_nil, or_false] at hy
  rcases hy with rfl | rfl | rfl | rfl | rfl | rfl | rfl | rfl <;> assumption
theorem kind_Change {K : PySem.W.Frag} {mg : Str → Option Value} (T : TXT K mg) : KindC K "Change" := own_of (He.cls_ok (T.fact 56)) (tx_fb T 0) (mem8 (isa_ok (tx_fb T 1)) (isa_ok (tx_fb T 2)) (isa_ok (tx_fb T 3)) (isa_ok (tx_fb T 4)) (isa_ok (tx_fb T 5)) (isa_ok (tx_fb T 6)) (isa_ok (tx_fb T 7)) (isa_ok (tx_fb T 8)))
theorem kind_Turn {K : PySem.W.Frag} {mg : Str → Option Value} (T : TXT K mg) : KindC K "Turn" := own_of (He.cls_ok (T.fact 60)) (tx_fb T 10) (mem8 (isa_ok (tx_fb T 11)) (isa_ok (tx_fb T 12)) (isa_ok (tx_fb T 13)) (isa_ok (tx_fb T 14)) (isa_ok (tx_fb T 15)) (isa_ok (tx_fb T 16)) (isa_ok (tx_fb T 17)) (isa_ok (tx_fb T 18)))
theorem kind_Lift {K : PySem.W.Frag} {mg : Str → Option Value} (T : TXT K mg) : KindC K "Lift" := own_of (He.cls_ok (T.fact 66)) (tx_fb T 20) (mem8 (isa_ok (tx_fb T 21)) (isa_ok (tx_fb T 22)) (isa_ok (tx_fb T 23)) (isa_ok (tx_fb T 24)) (isa_ok (tx_fb T 25)) (isa_ok (tx_fb T 26)) (isa_ok (tx_fb T 27)) (isa_ok (tx_fb T 28)))
theorem kind_Swap {K : PySem.W.Frag} {mg : Str → Option Value} (T : TXT K mg) : KindC K "Swap" := own_of (He.cls_ok (T.fact 72)) (tx_fb T 29) (mem8 (isa_ok (tx_fb T 30)) (isa_ok (tx_fb T 31)) (isa_ok (tx_fb T 32)) (isa_ok (tx_fb T 33)) (isa_ok (tx_fb T 34)) (isa_ok (tx_fb T 35)) (isa_ok (tx_fb T 36)) (isa_ok (tx_fb T 37)))
theorem kind_Neighbours {K : PySem.W.Frag} {mg : Str → Option Value} (T : TXT K mg) : KindC K "Neighbours" := own_of (He.cls_ok (T.fact 79)) (tx_fb T 40) (mem8 (isa_ok (tx_fb T 41)) (isa_ok (tx_fb T 42)) (isa_ok (tx_fb T 43)) (isa_ok (tx_fb T 44)) (isa_ok (tx_fb T 45)) (isa_ok (tx_fb T 46)) (isa_ok (tx_fb T 47)) (isa_ok (tx_fb T 48)))
theorem kind_Mirror {K : PySem.W.Frag} {mg : Str → Option Value} (T : TXT K mg) : KindC K "Mirror" := own_of (He.cls_ok (T.fact 85)) (tx_fb T 51) (mem8 (isa_ok (tx_fb T 52)) (isa_ok (tx_fb T 53)) (isa_ok (tx_fb T 54)) (isa_ok (tx_fb T 55)) (isa_ok (tx_fb T 56)) (isa_ok (tx_fb T 57)) (isa_ok (tx_fb T 58)) (isa_ok (tx_fb T 59)))
theorem kind_Gaps {K : PySem.W.Frag} {mg : Str → Option Value} (T : TXT K mg) : KindC K "Gaps" := own_of (He.cls_ok (T.fact 89)) (tx_fb T 63) (mem8 (isa_ok (tx_fb T 64)) (isa_ok (tx_fb T 65)) (isa_ok (tx_fb T 66)) (isa_ok (tx_fb T 67)) (isa_ok (tx_fb T 68)) (isa_ok (tx_fb T 69)) (isa_ok (tx_fb T 70)) (isa_ok (tx_fb T 71)))
theorem kind_Changes {K : PySem.W.Frag} {mg : Str → Option Value} (T : TXT K mg) : KindC K "Changes" := own_of (He.cls_ok (T.fact 95)) (tx_fb T 73) (mem8 (isa_ok (tx_fb T 74)) (isa_ok (tx_fb T 75)) (isa_ok (tx_fb T 76)) (isa_ok (tx_fb T 77)) (isa_ok (tx_fb T 78)) (isa_ok (tx_fb T 79)) (isa_ok (tx_fb T 80)) (isa_ok (tx_fb T 81)))
theorem kind_all {K : PySem.W.Frag} {mg : Str → Option Value} (T : TXT K mg) : ∀ x ∈ clsN, KindC K x := mem8 (kind_Change T) (kind_Turn T) (kind_Lift T) (kind_Swap T) (kind_Neighbours T) (kind_Mirror T) (kind_Gaps T) (kind_Changes T)
/-- isinstance(an object, a class) -/
theorem rc_isO {K : PySem.W.Frag} {H : Hp} {a dx : Addr} {fs : List (Str × V)} {x y : Str} (k : KindC K x) (hy : y ∈ clsN) (h : H a = some (.ins (He.ga K x) dx fs)) : RC (rIsi K) [.ref a, .ref (He.ga K y)] H (.bl (decide (x = y) || decide (y = ("Change" : Str)))) := fun H1 e Q q =>
  ⟨_, _, _, _, _, rfl, .own _, .base (.ins (e _ _ h) k.cl k.ha k.hn k.ht k.hm), k.isa y hy, q H1 (Ex.refl H1)⟩
/-- an object of a class of changes -/
def ObjAt (K : PySem.W.Frag) (H : Hp) (v : V) : Prop := ∃ a dx fs x, v = .ref a ∧ x ∈ clsN ∧ H a = some (.ins (He.ga K x) dx fs)
theorem ObjAt.mono {K : PySem.W.Frag} {H H' : Hp} {v : V} (e : Ex H H') (h : ObjAt K H v) : ObjAt K H' v := by
  obtain ⟨a, dx, fs, x, h1, h2, h3⟩ := h
  exact ⟨a, dx, fs, x, h1, h2, e _ _ h3⟩
theorem sim_cls (s : Sim) : s.cls ∈ clsN := by
  cases s <;> (unfold clsN Sim.cls; simp)
theorem SimAt.obj {K : PySem.W.Frag} {p : Addr → Prop} {H : Hp} {v : V} {s : Sim} (h : SimAt K p H v s) : ObjAt K H v := by
  obtain ⟨a, dx, e, _, ha, _⟩ := h
  exact ⟨a, dx, _, _, e, sim_cls s, ha⟩
theorem RowAt.obj {K : PySem.W.Frag} {F : Fam} {p : Addr → Prop} {H : Hp} {v : V} {cs : List F.I} (h : RowAt K F p H v cs) : ObjAt K H v := by
  obtain ⟨a, dx, l, vs, e, _, _, ha, _⟩ := h
  exact ⟨a, dx, _, "Changes", e, by unfold clsN; simp, ha⟩
theorem ev_isO {K : PySem.W.Frag} {mg : Str → Option Value} (T : TXT K mg) {σ : L2.St} {H : Hp} {te : TE} {v : V} (h : Ev te σ H v) (o : ObjAt K H v) : Ev (tCB (rIsi K) (tCons te (tCons (tC (.ref (He.ga K "Change"))) tNil))) σ H (.bl true) := by
  obtain ⟨a, dx, fs, x, rfl, hx, ha⟩ := o
  have z := rc_isO (kind_all T x hx) (y := "Change") (by unfold clsN; simp) ha
  rw [show (decide (x = ("Change" : Str)) || decide (("Change" : Str) = ("Change" : Str))) = true by simp] at z
  exact ev_cb (ea_cons h (ea_cons ev_c ea_nil)) z
theorem ev_countB {K : PySem.W.Frag} {σ : L2.St} {H : Hp} {te : TE} {p : Addr} {bs : List Bool} {k : Bool} (h : Ev te σ H (.ref p)) (hs : SqL K H p (bs.map V.bl)) : Ev (tBM K "list" (rCntB K) te (tCons (tC (.bl k)) tNil)) σ H (.int (bs.count k : Nat)) := fun H1 e Q q =>
  h H1 e _ fun H2 e2 => ⟨Or.inl ⟨rfl, _, ex_l (e.trans e2) hs⟩, ⟨p, bs, k, rfl, rfl, ex_l (e.trans e2) hs, q H2 e2⟩⟩
def sp_kinds (K : PySem.W.Frag) : Sp := fun vs H Q E => ∃ v, vs = [v] ∧ ObjAt K H v ∧ RetV (.bl true) H Q
theorem sc__law_kinds_right : FnScope ["_law_change", "_law_found"] ["_law_change"] (defScope s__law_kinds_right) := ⟨rfl, rfl, rfl, by decide +kernel, rfl, by decide +kernel, by decide +kernel⟩
theorem ok__law_kinds_right {P : Program} {w : World} {K : PySem.W.Frag} {mg : Str → Option Value} {base : Heap} (T : TXT K mg) : OK P w K mg base "_law_kinds_right" ["_law_change"] 2 (sp_kinds K) := by
  obtain ⟨fd, F⟩ := T.def_ 47
  refine ⟨_, fd, T.glo 24, F.kp, F.bindsN (fun _ _ _ _ _ _ us hl => match us, hl with | [_], _ => rfl), F.ok sc__law_kinds_right (fun vs H Q E h => ?_) (fun cdv A outer s H vs Q E hr h => ?_), F.bindsA (fun _ _ _ _ _ _ us hl => match us, hl with | [_], _ => rfl)⟩
  · first | (obtain ⟨rfl, _⟩ := h; rfl) | (obtain ⟨_, rfl, _⟩ := h; rfl) | (obtain ⟨_, _, rfl, _⟩ := h; rfl) | (obtain ⟨_, _, _, rfl, _⟩ := h; rfl) | (obtain ⟨_, _, _, _, rfl, _⟩ := h; rfl) | (obtain ⟨_, _, _, _, _, rfl, _⟩ := h; rfl) | (obtain ⟨_, _, _, _, _, _, rfl, _⟩ := h; rfl) | (obtain ⟨_, _, _, _, _, _, _, rfl, _⟩ := h; rfl) | (obtain ⟨_, _, _, _, _, _, _, _, rfl, _⟩ := h; rfl)
  · replace F : FunD K "_law_kinds_right" "_law_kinds_right" (defArgs s__law_kinds_right) (defBody s__law_kinds_right) (defScope s__law_kinds_right) [] [] (He.ga K "_law_kinds_right") fd := F
    refine ⟨_, (pss_cons (ps_set (i := 1) sc__law_kinds_right.nd rfl (Or.inl rfl) (pe_lst (pa_cons (pe_callB (id := "isinstance") (k_isi K) (by rfl) (T.free 42) (by decide +kernel) (pa_cons (pv 0) (pa_cons (pe_cls (T.glo 32)) pa_nil))) (pa_cons (pe_callB (id := "isinstance") (k_isi K) (by rfl) (T.free 42) (by decide +kernel) (pa_cons (pv 0) (pa_cons (pe_cls (T.glo 33)) pa_nil))) (pa_cons (pe_callB (id := "isinstance") (k_isi K) (by rfl) (T.free 42) (by decide +kernel) (pa_cons (pv 0) (pa_cons (pe_cls (T.glo 34)) pa_nil))) (pa_cons (pe_callB (id := "isinstance") (k_isi K) (by rfl) (T.free 42) (by decide +kernel) (pa_cons (pv 0) (pa_cons (pe_cls (T.glo 36)) pa_nil))) pa_nil))))))
      (pss_cons (ps_set (i := 1) sc__law_kinds_right.nd rfl (Or.inl rfl) (pe_op op_cat (pv 1) (pe_lst (pa_cons (pe_callB (id := "isinstance") (k_isi K) (by rfl) (T.free 42) (by decide +kernel) (pa_cons (pv 0) (pa_cons (pe_cls (T.glo 35)) pa_nil))) (pa_cons (pe_callB (id := "isinstance") (k_isi K) (by rfl) (T.free 42) (by decide +kernel) (pa_cons (pv 0) (pa_cons (pe_cls (T.glo 37)) pa_nil))) (pa_cons (pe_callB (id := "isinstance") (k_isi K) (by rfl) (T.free 42) (by decide +kernel) (pa_cons (pv 0) (pa_cons (pe_cls (T.glo 38)) pa_nil))) pa_nil))))))
      (pss_one (ps_ret (pe_and (pe_callB (id := "isinstance") (k_isi K) (by rfl) (T.free 42) (by decide +kernel) (pa_cons (pv 0) (pa_cons (pe_cls (T.glo 31)) pa_nil))) (pe_one (pe_cmpR op_lt (pe_bm PySem.F.plainAttrs_list PySem.F.slot_list_count PySem.F.type_list_count mt_countB (pv 1) (pa_cons pe_bl pa_nil)) pe_int (nomark _)))))))), ?_⟩
    obtain ⟨v, rfl, o, q⟩ := h
    dsimp only [cxOf, L2.start, List.map_cons, List.map_nil, List.length_cons, List.length_nil, Nat.reduceAdd, Nat.reduceSub, List.replicate_succ, List.replicate_zero, List.cons_append, List.nil_append, Nat.zero_add, List.reduceReplicate, List.map]
    obtain ⟨a, dx, fs, x, rfl, hx, ha⟩ := o
    have kx := kind_all T x hx
    have is_ : ∀ (y : Str) H1, Ex H H1 → y ∈ clsN → y ≠ "Change" → ∀ σ, σ[0]? = some (some (V.ref a)) → Ev (tCB (rIsi K) (tCons (tVar 0) (tCons (tC (.ref (He.ga K y))) tNil))) σ H1 (.bl (decide (x = y))) := fun y H1 e hy hn σ hσ => by
      have z := rc_isO kx hy (e _ _ ha)
      rw [decide_eq_false (p := y = ("Change" : Str)) hn, Bool.or_false] at z
      exact ev_cb (ea_cons (ev_var hσ) (ea_cons ev_c ea_nil)) z
    refine q_asgL (el_lst (vs := [.bl (decide (x = "Turn")), .bl (decide (x = "Lift")), .bl (decide (x = "Swap")), .bl (decide (x = "Mirror"))]) (ea_cons (is_ "Turn" H (Ex.refl H) (by decide) (by decide) _ rfl) (ea_cons (is_ "Lift" H (Ex.refl H) (by decide) (by decide) _ rfl) (ea_cons (is_ "Swap" H (Ex.refl H) (by decide) (by decide) _ rfl) (ea_cons (is_ "Mirror" H (Ex.refl H) (by decide) (by decide) _ rfl) ea_nil)))) (by simp)) fun p H1 hp e1 h1 => ?_
    have ev2 : EvL (tOp rCat (tVar 1) (tLst (tCons (tCB (rIsi K) (tCons (tVar 0) (tCons (tC (.ref (He.ga K "Neighbours"))) tNil))) (tCons (tCB (rIsi K) (tCons (tVar 0) (tCons (tC (.ref (He.ga K "Gaps"))) tNil))) (tCons (tCB (rIsi K) (tCons (tVar 0) (tCons (tC (.ref (He.ga K "Changes"))) tNil))) tNil))))) [some (V.ref a), some (V.ref p)] H1
        ([decide (x = "Turn"), decide (x = "Lift"), decide (x = "Swap"), decide (x = "Mirror"), decide (x = "Neighbours"), decide (x = "Gaps"), decide (x = "Changes")].map V.bl) := fun H2 e2 Q q =>
      (ev_var (i := 1) rfl) H2 e2 _ fun H3 e3 => (el_lst (vs := [.bl (decide (x = "Neighbours")), .bl (decide (x = "Gaps")), .bl (decide (x = "Changes"))]) (ea_cons (is_ "Neighbours" H1 e1 (by decide) (by decide) _ rfl) (ea_cons (is_ "Gaps" H1 e1 (by decide) (by decide) _ rfl) (ea_cons (is_ "Changes" H1 e1 (by decide) (by decide) _ rfl) ea_nil))) (by simp)) H3 (e2.trans e3) _ fun r H4 hr e4 h4 =>
        ⟨p, r, _, _, rfl, rfl, ((e2.trans e3).trans e4) _ _ h1, h4, sz_of (by simp), fun u hu => q u _ (fresh_back (e3.trans e4) hu) ((e3.trans e4).trans (Ex.new hu)) upd_same⟩
    refine q_asgL ev2 fun r H2 hr e2 h2 => ?_
    dsimp only [List.set]
    have c1 := ev_isO T (σ := [some (V.ref a), some (V.ref r)]) (H := H2) (te := tVar 0) (ev_var rfl) ⟨a, dx, fs, x, rfl, hx, (e1.trans e2) _ _ ha⟩
    refine s_ret (v := .bl (true && true)) (ev_and2 c1 ?_) fun H3 e3 => q H3 ((e1.trans e2).trans e3)
    have cnt : [decide (x = "Turn"), decide (x = "Lift"), decide (x = "Swap"), decide (x = "Mirror"), decide (x = "Neighbours"), decide (x = "Gaps"), decide (x = "Changes")].count true < 2 := by
      exact mem8 (Pr := fun x => [decide (x = "Turn"), decide (x = "Lift"), decide (x = "Swap"), decide (x = "Mirror"), decide (x = "Neighbours"), decide (x = "Gaps"), decide (x = "Changes")].count true < 2) (by decide) (by decide) (by decide) (by decide) (by decide) (by decide) (by decide) (by decide) x hx
    refine ev_is (ev_op (ev_countB (k := true) (ev_var rfl) (sq_of h2)) ev_c rv_I0) ?_
    exact congrArg V.bl (decide_eq_true (by omega))

theorem sv_kinds {K : PySem.W.Frag} {H : Hp} {v : V} (o : ObjAt K H v) : SpV (sp_kinds K) [v] H (.bl true) := spv_of fun H1 e1 Q E q => ⟨v, rfl, o.mono e1, q⟩
def sp_beats : Sp := fun vs H Q E => ∃ (c n : Int), vs = [.int c, .int n] ∧ 1 < n ∧ n ≤ 100 ∧ RetU [.int (biI c n), .int (bjI c n)] H Q
theorem sc__law_beats_by : FnScope ["_law_cell", "_law_size", "_law_i"] ["_law_cell", "_law_size"] (defScope s__law_beats_by) := ⟨rfl, rfl, rfl, by decide +kernel, rfl, by decide +kernel, by decide +kernel⟩
theorem ok__law_beats_by {P : Program} {w : World} {K : PySem.W.Frag} {mg : Str → Option Value} {base : Heap} (T : TXT K mg) : OK P w K mg base "_law_beats_by" ["_law_cell", "_law_size"] 1 (sp_beats) := by
  obtain ⟨fd, F⟩ := T.def_ 44
  refine ⟨_, fd, T.glo 21, F.kp, F.bindsN (fun _ _ _ _ _ _ us hl => match us, hl with | [_, _], _ => rfl), F.ok sc__law_beats_by (fun vs H Q E h => ?_) (fun cdv A outer s H vs Q E hr h => ?_), F.bindsA (fun _ _ _ _ _ _ us hl => match us, hl with | [_, _], _ => rfl)⟩
  · first | (obtain ⟨rfl, _⟩ := h; rfl) | (obtain ⟨_, rfl, _⟩ := h; rfl) | (obtain ⟨_, _, rfl, _⟩ := h; rfl) | (obtain ⟨_, _, _, rfl, _⟩ := h; rfl) | (obtain ⟨_, _, _, _, rfl, _⟩ := h; rfl) | (obtain ⟨_, _, _, _, _, rfl, _⟩ := h; rfl) | (obtain ⟨_, _, _, _, _, _, rfl, _⟩ := h; rfl) | (obtain ⟨_, _, _, _, _, _, _, rfl, _⟩ := h; rfl) | (obtain ⟨_, _, _, _, _, _, _, _, rfl, _⟩ := h; rfl)
  · replace F : FunD K "_law_beats_by" "_law_beats_by" (defArgs s__law_beats_by) (defBody s__law_beats_by) (defScope s__law_beats_by) [] [] (He.ga K "_law_beats_by") fd := F
    refine ⟨_, (pss_cons (ps_set (i := 2) sc__law_beats_by.nd rfl (Or.inl rfl) (pe_op op_mod (pe_op op_fdiv (pv 0) pe_int) (pe_op op_sub (pv 1) pe_int)))
      (pss_one (ps_ret (pe_tup (pa_cons (pv 2) (pa_cons (pe_op op_add (pe_op op_add (pv 2) pe_int) (pe_op op_mod (pe_op op_fdiv (pv 0) pe_int) (pe_op op_sub (pe_op op_sub (pv 1) pe_int) (pv 2)))) pa_nil)))))), ?_⟩
    obtain ⟨c, n, rfl, h1, h2, q⟩ := h
    dsimp only [cxOf, L2.start, List.map_cons, List.map_nil, List.length_cons, List.length_nil, Nat.reduceAdd, Nat.reduceSub, List.replicate_succ, List.replicate_zero, List.cons_append, List.nil_append, Nat.zero_add, List.reduceReplicate, List.map]
    have z := bi_bd (c := c) (n := n) h1
    refine q_asg (v := .int (biI c n)) (by apply ev_is; (focus ((repeat' (first | with_reducible exact ev_c | ((with_reducible show Ev (tVar _) _ _ _); exact ev_var rfl) | with_reducible exact ea_nil | with_reducible exact eo_none | with_reducible refine' ea_cons ?_ ?_ | with_reducible refine' eo_some ?_ | with_reducible refine' ev_and2 ?_ ?_ | with_reducible refine' ev_or2 ?_ ?_ | with_reducible refine' ev_notV ?_ | with_reducible exact ru_I | with_reducible refine' ev_un ?_ ?_ | with_reducible exact rv_I0 | with_reducible exact rv_isN | with_reducible exact rv_notN | with_reducible refine' rv_I ?_ | with_reducible refine' rv_eq ?_ | with_reducible refine' rv_ne ?_ | with_reducible refine' ev_op ?_ ?_ ?_ | with_reducible refine' ev_chain2 ?_ ?_ ?_ ?_ ?_ | with_reducible refine' et_B ?_ | with_reducible refine' et_test ?_ | with_reducible refine' et_and2 ?_ ?_ | with_reducible refine' et_or2 ?_ ?_ | with_reducible refine' et_not ?_ | with_reducible refine' ev_call ?_ ?_ | with_reducible refine' ev_callS ?_ ?_ | with_reducible refine' ev_cb ?_ ?_ | with_reducible exact isi_bool (by assumption) | with_reducible exact isi_int (by assumption) | with_reducible exact isi_list (by assumption) | with_reducible exact rc_len (by assumption) | with_reducible exact rc_sum (by assumption) | with_reducible exact rc_abs | with_reducible exact isi_listL (by assumption) | with_reducible exact isi_intI | with_reducible exact isi_boolI | with_reducible exact rc_lenT (by assumption) | with_reducible exact isi_tup (by assumption) | with_reducible exact rv_eqL (by assumption) (by assumption) | with_reducible exact rv_neL (by assumption) (by assumption) | with_reducible exact rv_neT (by assumption) (by assumption) | with_reducible exact rv_ixL (by assumption) (by assumption) | with_reducible exact rv_ixT (by assumption) (by assumption) | with_reducible refine' ev_din ?_ ?_ (by assumption) | with_reducible refine' ev_dnotin ?_ ?_ (by assumption) | with_reducible refine' ev_dget ?_ ?_ (by assumption) (by assumption) | ((with_reducible show SpV _ _ _ _); assumption) | ((with_reducible show RV _ _ _ _ _); assumption) | ((with_reducible show RC _ _ _ _); assumption) | ((with_reducible show CDiv _ _); exact ⟨by omega, by omega⟩) | ((with_reducible show CMul _ _); first | exact .inl ⟨by omega, by omega⟩ | exact .inr ⟨by omega, by omega⟩) | ((with_reducible show CPow _ _); exact ⟨by omega, by omega, by first | decide | assumption | omega⟩) | ((with_reducible show (0 : Int) < _); omega) | ((with_reducible show (0 : Int) ≤ _); omega) | ((with_reducible show scal _ _ = true); rfl))))); rfl) fun H1 e1 => ?_
    refine s_retU2 (xs := [.int (biI c n), .int (bjI c n)]) (ea_cons (by (repeat' (first | with_reducible exact ev_c | ((with_reducible show Ev (tVar _) _ _ _); exact ev_var rfl) | with_reducible exact ea_nil | with_reducible exact eo_none | with_reducible refine' ea_cons ?_ ?_ | with_reducible refine' eo_some ?_ | with_reducible refine' ev_and2 ?_ ?_ | with_reducible refine' ev_or2 ?_ ?_ | with_reducible refine' ev_notV ?_ | with_reducible exact ru_I | with_reducible refine' ev_un ?_ ?_ | with_reducible exact rv_I0 | with_reducible exact rv_isN | with_reducible exact rv_notN | with_reducible refine' rv_I ?_ | with_reducible refine' rv_eq ?_ | with_reducible refine' rv_ne ?_ | with_reducible refine' ev_op ?_ ?_ ?_ | with_reducible refine' ev_chain2 ?_ ?_ ?_ ?_ ?_ | with_reducible refine' et_B ?_ | with_reducible refine' et_test ?_ | with_reducible refine' et_and2 ?_ ?_ | with_reducible refine' et_or2 ?_ ?_ | with_reducible refine' et_not ?_ | with_reducible refine' ev_call ?_ ?_ | with_reducible refine' ev_callS ?_ ?_ | with_reducible refine' ev_cb ?_ ?_ | with_reducible exact isi_bool (by assumption) | with_reducible exact isi_int (by assumption) | with_reducible exact isi_list (by assumption) | with_reducible exact rc_len (by assumption) | with_reducible exact rc_sum (by assumption) | with_reducible exact rc_abs | with_reducible exact isi_listL (by assumption) | with_reducible exact isi_intI | with_reducible exact isi_boolI | with_reducible exact rc_lenT (by assumption) | with_reducible exact isi_tup (by assumption) | with_reducible exact rv_eqL (by assumption) (by assumption) | with_reducible exact rv_neL (by assumption) (by assumption) | with_reducible exact rv_neT (by assumption) (by assumption) | with_reducible exact rv_ixL (by assumption) (by assumption) | with_reducible exact rv_ixT (by assumption) (by assumption) | with_reducible refine' ev_din ?_ ?_ (by assumption) | with_reducible refine' ev_dnotin ?_ ?_ (by assumption) | with_reducible refine' ev_dget ?_ ?_ (by assumption) (by assumption) | ((with_reducible show SpV _ _ _ _); assumption) | ((with_reducible show RV _ _ _ _ _); assumption) | ((with_reducible show RC _ _ _ _); assumption) | ((with_reducible show CDiv _ _); exact ⟨by omega, by omega⟩) | ((with_reducible show CMul _ _); first | exact .inl ⟨by omega, by omega⟩ | exact .inr ⟨by omega, by omega⟩) | ((with_reducible show CPow _ _); exact ⟨by omega, by omega, by first | decide | assumption | omega⟩) | ((with_reducible show (0 : Int) < _); omega) | ((with_reducible show (0 : Int) ≤ _); omega) | ((with_reducible show scal _ _ = true); rfl)))) (ea_cons ?_ ea_nil)) (by simp) fun p H2 hp e2 h2 => q p H2 (fresh_back e1 hp) (e1.trans e2) h2
    apply ev_is
    focus ((repeat' (first | with_reducible exact ev_c | ((with_reducible show Ev (tVar _) _ _ _); exact ev_var rfl) | with_reducible exact ea_nil | with_reducible exact eo_none | with_reducible refine' ea_cons ?_ ?_ | with_reducible refine' eo_some ?_ | with_reducible refine' ev_and2 ?_ ?_ | with_reducible refine' ev_or2 ?_ ?_ | with_reducible refine' ev_notV ?_ | with_reducible exact ru_I | with_reducible refine' ev_un ?_ ?_ | with_reducible exact rv_I0 | with_reducible exact rv_isN | with_reducible exact rv_notN | with_reducible refine' rv_I ?_ | with_reducible refine' rv_eq ?_ | with_reducible refine' rv_ne ?_ | with_reducible refine' ev_op ?_ ?_ ?_ | with_reducible refine' ev_chain2 ?_ ?_ ?_ ?_ ?_ | with_reducible refine' et_B ?_ | with_reducible refine' et_test ?_ | with_reducible refine' et_and2 ?_ ?_ | with_reducible refine' et_or2 ?_ ?_ | with_reducible refine' et_not ?_ | with_reducible refine' ev_call ?_ ?_ | with_reducible refine' ev_callS ?_ ?_ | with_reducible refine' ev_cb ?_ ?_ | with_reducible exact isi_bool (by assumption) | with_reducible exact isi_int (by assumption) | with_reducible exact isi_list (by assumption) | with_reducible exact rc_len (by assumption) | with_reducible exact rc_sum (by assumption) | with_reducible exact rc_abs | with_reducible exact isi_listL (by assumption) | with_reducible exact isi_intI | with_reducible exact isi_boolI | with_reducible exact rc_lenT (by assumption) | with_reducible exact isi_tup (by assumption) | with_reducible exact rv_eqL (by assumption) (by assumption) | with_reducible exact rv_neL (by assumption) (by assumption) | with_reducible exact rv_neT (by assumption) (by assumption) | with_reducible exact rv_ixL (by assumption) (by assumption) | with_reducible exact rv_ixT (by assumption) (by assumption) | with_reducible refine' ev_din ?_ ?_ (by assumption) | with_reducible refine' ev_dnotin ?_ ?_ (by assumption) | with_reducible refine' ev_dget ?_ ?_ (by assumption) (by assumption) | ((with_reducible show SpV _ _ _ _); assumption) | ((with_reducible show RV _ _ _ _ _); assumption) | ((with_reducible show RC _ _ _ _); assumption) | ((with_reducible show CDiv _ _); exact ⟨by omega, by omega⟩) | ((with_reducible show CMul _ _); first | exact .inl ⟨by omega, by omega⟩ | exact .inr ⟨by omega, by omega⟩) | ((with_reducible show CPow _ _); exact ⟨by omega, by omega, by first | decide | assumption | omega⟩) | ((with_reducible show (0 : Int) < _); omega) | ((with_reducible show (0 : Int) ≤ _); omega) | ((with_reducible show scal _ _ = true); rfl))))
    rfl

theorem su_beats {H : Hp} {c n : Int} (h1 : 1 < n) (h2 : n ≤ 100) : SpU sp_beats [.int c, .int n] H [.int (biI c n), .int (bjI c n)] := fun H1 e Q k E => ⟨c, n, rfl, h1, h2, k⟩
def sp_oneby (K : PySem.W.Frag) : Sp := fun vs H Q E => ∃ (c : Int) (n : Nat), vs = [.int c, .int (n : Int)] ∧ 1 ≤ n ∧ n ≤ 9 ∧ ∀ v' H', Ex H H' → SimAt K (fun a => H a = none) H' v' (simOf c n) → Q v' H'
theorem sc__law_one_by : FnScope ["_law_cell", "_law_size", "_law_kind", "_law_k", "_law_pair"] ["_law_cell", "_law_size"] (defScope s__law_one_by) := ⟨rfl, rfl, rfl, by decide +kernel, rfl, by decide +kernel, by decide +kernel⟩
theorem ok__law_one_by {P : Program} {w : World} {K : PySem.W.Frag} {mg : Str → Option Value} {base : Heap} (T : TXT K mg) : OK P w K mg base "_law_one_by" ["_law_cell", "_law_size"] 3 (sp_oneby K) := by
  have O__law_beats_by := ok__law_beats_by (P := P) (w := w) (base := base) T
  have I_Turn := oki_Turn (P := P) (w := w) (base := base) T
  have I_Lift := oki_Lift (P := P) (w := w) (base := base) T
  have I_Swap := oki_Swap (P := P) (w := w) (base := base) T
  have I_Neighbours := oki_Neighbours (P := P) (w := w) (base := base) T
  have I_Gaps := oki_Gaps (P := P) (w := w) (base := base) T
  obtain ⟨fd, F⟩ := T.def_ 45
  refine ⟨_, fd, T.glo 22, F.kp, F.bindsN (fun _ _ _ _ _ _ us hl => match us, hl with | [_, _], _ => rfl), F.ok sc__law_one_by (fun vs H Q E h => ?_) (fun cdv A outer s H vs Q E hr h => ?_), F.bindsA (fun _ _ _ _ _ _ us hl => match us, hl with | [_, _], _ => rfl)⟩
  · first | (obtain ⟨rfl, _⟩ := h; rfl) | (obtain ⟨_, rfl, _⟩ := h; rfl) | (obtain ⟨_, _, rfl, _⟩ := h; rfl) | (obtain ⟨_, _, _, rfl, _⟩ := h; rfl) | (obtain ⟨_, _, _, _, rfl, _⟩ := h; rfl) | (obtain ⟨_, _, _, _, _, rfl, _⟩ := h; rfl) | (obtain ⟨_, _, _, _, _, _, rfl, _⟩ := h; rfl) | (obtain ⟨_, _, _, _, _, _, _, rfl, _⟩ := h; rfl) | (obtain ⟨_, _, _, _, _, _, _, _, rfl, _⟩ := h; rfl)
  · replace F : FunD K "_law_one_by" "_law_one_by" (defArgs s__law_one_by) (defBody s__law_one_by) (defScope s__law_one_by) [] [] (He.ga K "_law_one_by") fd := F
    refine ⟨_, (pss_cons (ps_set (i := 2) sc__law_one_by.nd rfl (Or.inl rfl) (pe_op op_mod (pv 0) pe_int))
      (pss_cons (ps_set (i := 3) sc__law_one_by.nd rfl (Or.inl rfl) (pe_op op_sub (pe_op op_mod (pe_op op_fdiv (pv 0) pe_int) pe_int) pe_int))
      (pss_cons (ps_if (pt_cmpR op_eq (pv 2) pe_int (nomark _))
        (pss_one (ps_ret (pe_mkI I_Turn (hr.mono (by first | decide | omega)) (by rfl) (passes_call (takes_of rfl rfl rfl rfl) (fun _ _ _ _ h => h)) (pa_cons (pv 3) pa_nil))))
        pss_nil)
      (pss_cons (ps_if (pt_cmpR op_eq (pv 2) pe_int (nomark _))
        (pss_one (ps_ret (pe_mkI I_Lift (hr.mono (by first | decide | omega)) (by rfl) (passes_call (takes_of rfl rfl rfl rfl) (fun _ _ _ _ h => h)) (pa_cons (pv 3) pa_nil))))
        pss_nil)
      (pss_cons (ps_if (PW.pt (pw_and (pt_cmpR op_eq (pv 2) pe_int (nomark _)) (pw_and1 (pt_cmpR op_gt (pv 1) pe_int (nomark _)))))
        (pss_cons (ps_set (i := 4) sc__law_one_by.nd rfl (Or.inl rfl) (pe_own O__law_beats_by (hr.mono (by decide)) (by rfl) (passes_call (takes_of rfl rfl rfl rfl) (fun _ _ _ _ h => h)) (pa_cons (pv 0) (pa_cons (pv 1) pa_nil))))
      (pss_one (ps_ret (pe_mkI I_Swap (hr.mono (by first | decide | omega)) (by rfl) (passes_call (takes_of rfl rfl rfl rfl) (fun _ _ _ _ h => h)) (pa_cons (pe_ix (k_ixT K) (pv 4) pe_int (fun _ _ => rfl)) (pa_cons (pe_ix (k_ixT K) (pv 4) pe_int (fun _ _ => rfl)) pa_nil))))))
        pss_nil)
      (pss_cons (ps_if (PW.pt (pw_and (pt_cmpR op_eq (pv 2) pe_int (nomark _)) (pw_and1 (pt_cmpR op_gt (pv 1) pe_int (nomark _)))))
        (pss_one (ps_ret (pe_mkI I_Neighbours (hr.mono (by first | decide | omega)) (by rfl) (passes_call (takes_of rfl rfl rfl rfl) (fun _ _ _ _ h => h)) (pa_cons (pe_op op_mod (pe_op op_fdiv (pv 0) pe_int) (pv 1)) pa_nil))))
        pss_nil)
      (pss_cons (ps_if (pt_cmpR op_eq (pv 2) pe_int (nomark _))
        (pss_one (ps_ret (pe_mk00 (mk0_ok (tx_fb T 62)) (by rfl) (T.glo 36))))
        pss_nil)
      (pss_cons (ps_if (pt_cmpR op_eq (pv 2) pe_int (nomark _))
        (pss_one (ps_ret (pe_mkI I_Gaps (hr.mono (by first | decide | omega)) (by rfl) (passes_call (takes_of rfl rfl rfl rfl) (fun _ _ _ _ h => h)) (pa_cons (pv 3) pa_nil))))
        pss_nil)
      (pss_one (ps_ret (pe_mk00 (mk0_ok (tx_fb T 9)) (by rfl) (T.glo 31)))))))))))), ?_⟩
    obtain ⟨c, n, rfl, h1, h9, q⟩ := h
    dsimp only [cxOf, L2.start, List.map_cons, List.map_nil, List.length_cons, List.length_nil, Nat.reduceAdd, Nat.reduceSub, List.replicate_succ, List.replicate_zero, List.cons_append, List.nil_append, Nat.zero_add, List.reduceReplicate, List.map]
    unfold simOf at q
    refine q_asg (v := .int (c % 7)) (by (repeat' (first | with_reducible exact ev_c | ((with_reducible show Ev (tVar _) _ _ _); exact ev_var rfl) | with_reducible exact ea_nil | with_reducible exact eo_none | with_reducible refine' ea_cons ?_ ?_ | with_reducible refine' eo_some ?_ | with_reducible refine' ev_and2 ?_ ?_ | with_reducible refine' ev_or2 ?_ ?_ | with_reducible refine' ev_notV ?_ | with_reducible exact ru_I | with_reducible refine' ev_un ?_ ?_ | with_reducible exact rv_I0 | with_reducible exact rv_isN | with_reducible exact rv_notN | with_reducible refine' rv_I ?_ | with_reducible refine' rv_eq ?_ | with_reducible refine' rv_ne ?_ | with_reducible refine' ev_op ?_ ?_ ?_ | with_reducible refine' ev_chain2 ?_ ?_ ?_ ?_ ?_ | with_reducible refine' et_B ?_ | with_reducible refine' et_test ?_ | with_reducible refine' et_and2 ?_ ?_ | with_reducible refine' et_or2 ?_ ?_ | with_reducible refine' et_not ?_ | with_reducible refine' ev_call ?_ ?_ | with_reducible refine' ev_callS ?_ ?_ | with_reducible refine' ev_cb ?_ ?_ | with_reducible exact isi_bool (by assumption) | with_reducible exact isi_int (by assumption) | with_reducible exact isi_list (by assumption) | with_reducible exact rc_len (by assumption) | with_reducible exact rc_sum (by assumption) | with_reducible exact rc_abs | with_reducible exact isi_listL (by assumption) | with_reducible exact isi_intI | with_reducible exact isi_boolI | with_reducible exact rc_lenT (by assumption) | with_reducible exact isi_tup (by assumption) | with_reducible exact rv_eqL (by assumption) (by assumption) | with_reducible exact rv_neL (by assumption) (by assumption) | with_reducible exact rv_neT (by assumption) (by assumption) | with_reducible exact rv_ixL (by assumption) (by assumption) | with_reducible exact rv_ixT (by assumption) (by assumption) | with_reducible refine' ev_din ?_ ?_ (by assumption) | with_reducible refine' ev_dnotin ?_ ?_ (by assumption) | with_reducible refine' ev_dget ?_ ?_ (by assumption) (by assumption) | ((with_reducible show SpV _ _ _ _); assumption) | ((with_reducible show RV _ _ _ _ _); assumption) | ((with_reducible show RC _ _ _ _); assumption) | ((with_reducible show CDiv _ _); exact ⟨by omega, by omega⟩) | ((with_reducible show CMul _ _); first | exact .inl ⟨by omega, by omega⟩ | exact .inr ⟨by omega, by omega⟩) | ((with_reducible show CPow _ _); exact ⟨by omega, by omega, by first | decide | assumption | omega⟩) | ((with_reducible show (0 : Int) < _); omega) | ((with_reducible show (0 : Int) ≤ _); omega) | ((with_reducible show scal _ _ = true); rfl)))) fun H2 e2 => ?_
    refine q_asg (v := .int (c / 7 % 19 - 9)) (by (repeat' (first | with_reducible exact ev_c | ((with_reducible show Ev (tVar _) _ _ _); exact ev_var rfl) | with_reducible exact ea_nil | with_reducible exact eo_none | with_reducible refine' ea_cons ?_ ?_ | with_reducible refine' eo_some ?_ | with_reducible refine' ev_and2 ?_ ?_ | with_reducible refine' ev_or2 ?_ ?_ | with_reducible refine' ev_notV ?_ | with_reducible exact ru_I | with_reducible refine' ev_un ?_ ?_ | with_reducible exact rv_I0 | with_reducible exact rv_isN | with_reducible exact rv_notN | with_reducible refine' rv_I ?_ | with_reducible refine' rv_eq ?_ | with_reducible refine' rv_ne ?_ | with_reducible refine' ev_op ?_ ?_ ?_ | with_reducible refine' ev_chain2 ?_ ?_ ?_ ?_ ?_ | with_reducible refine' et_B ?_ | with_reducible refine' et_test ?_ | with_reducible refine' et_and2 ?_ ?_ | with_reducible refine' et_or2 ?_ ?_ | with_reducible refine' et_not ?_ | with_reducible refine' ev_call ?_ ?_ | with_reducible refine' ev_callS ?_ ?_ | with_reducible refine' ev_cb ?_ ?_ | with_reducible exact isi_bool (by assumption) | with_reducible exact isi_int (by assumption) | with_reducible exact isi_list (by assumption) | with_reducible exact rc_len (by assumption) | with_reducible exact rc_sum (by assumption) | with_reducible exact rc_abs | with_reducible exact isi_listL (by assumption) | with_reducible exact isi_intI | with_reducible exact isi_boolI | with_reducible exact rc_lenT (by assumption) | with_reducible exact isi_tup (by assumption) | with_reducible exact rv_eqL (by assumption) (by assumption) | with_reducible exact rv_neL (by assumption) (by assumption) | with_reducible exact rv_neT (by assumption) (by assumption) | with_reducible exact rv_ixL (by assumption) (by assumption) | with_reducible exact rv_ixT (by assumption) (by assumption) | with_reducible refine' ev_din ?_ ?_ (by assumption) | with_reducible refine' ev_dnotin ?_ ?_ (by assumption) | with_reducible refine' ev_dget ?_ ?_ (by assumption) (by assumption) | ((with_reducible show SpV _ _ _ _); assumption) | ((with_reducible show RV _ _ _ _ _); assumption) | ((with_reducible show RC _ _ _ _); assumption) | ((with_reducible show CDiv _ _); exact ⟨by omega, by omega⟩) | ((with_reducible show CMul _ _); first | exact .inl ⟨by omega, by omega⟩ | exact .inr ⟨by omega, by omega⟩) | ((with_reducible show CPow _ _); exact ⟨by omega, by omega, by first | decide | assumption | omega⟩) | ((with_reducible show (0 : Int) < _); omega) | ((with_reducible show (0 : Int) ≤ _); omega) | ((with_reducible show scal _ _ = true); rfl)))) fun H3 e3 => ?_
    have e0 := e2.trans e3
    clear e2 e3
    refine q_when (b := decide (c % 7 = 0)) (by apply et_is; (focus ((repeat' (first | with_reducible exact ev_c | ((with_reducible show Ev (tVar _) _ _ _); exact ev_var rfl) | with_reducible exact ea_nil | with_reducible exact eo_none | with_reducible refine' ea_cons ?_ ?_ | with_reducible refine' eo_some ?_ | with_reducible refine' ev_and2 ?_ ?_ | with_reducible refine' ev_or2 ?_ ?_ | with_reducible refine' ev_notV ?_ | with_reducible exact ru_I | with_reducible refine' ev_un ?_ ?_ | with_reducible exact rv_I0 | with_reducible exact rv_isN | with_reducible exact rv_notN | with_reducible refine' rv_I ?_ | with_reducible refine' rv_eq ?_ | with_reducible refine' rv_ne ?_ | with_reducible refine' ev_op ?_ ?_ ?_ | with_reducible refine' ev_chain2 ?_ ?_ ?_ ?_ ?_ | with_reducible refine' et_B ?_ | with_reducible refine' et_test ?_ | with_reducible refine' et_and2 ?_ ?_ | with_reducible refine' et_or2 ?_ ?_ | with_reducible refine' et_not ?_ | with_reducible refine' ev_call ?_ ?_ | with_reducible refine' ev_callS ?_ ?_ | with_reducible refine' ev_cb ?_ ?_ | with_reducible exact isi_bool (by assumption) | with_reducible exact isi_int (by assumption) | with_reducible exact isi_list (by assumption) | with_reducible exact rc_len (by assumption) | with_reducible exact rc_sum (by assumption) | with_reducible exact rc_abs | with_reducible exact isi_listL (by assumption) | with_reducible exact isi_intI | with_reducible exact isi_boolI | with_reducible exact rc_lenT (by assumption) | with_reducible exact isi_tup (by assumption) | with_reducible exact rv_eqL (by assumption) (by assumption) | with_reducible exact rv_neL (by assumption) (by assumption) | with_reducible exact rv_neT (by assumption) (by assumption) | with_reducible exact rv_ixL (by assumption) (by assumption) | with_reducible exact rv_ixT (by assumption) (by assumption) | with_reducible refine' ev_din ?_ ?_ (by assumption) | with_reducible refine' ev_dnotin ?_ ?_ (by assumption) | with_reducible refine' ev_dget ?_ ?_ (by assumption) (by assumption) | ((with_reducible show SpV _ _ _ _); assumption) | ((with_reducible show RV _ _ _ _ _); assumption) | ((with_reducible show RC _ _ _ _); assumption) | ((with_reducible show CDiv _ _); exact ⟨by omega, by omega⟩) | ((with_reducible show CMul _ _); first | exact .inl ⟨by omega, by omega⟩ | exact .inr ⟨by omega, by omega⟩) | ((with_reducible show CPow _ _); exact ⟨by omega, by omega, by first | decide | assumption | omega⟩) | ((with_reducible show (0 : Int) < _); omega) | ((with_reducible show (0 : Int) ≤ _); omega) | ((with_reducible show scal _ _ = true); rfl))))); exact dec_int.trans (by rw [Bool.eq_iff_iff]; simp)) (fun hb H1 e1 => ?_) (fun hb H1 e1 => ?_)
    · rw [if_pos (of_decide_eq_true hb)] at q
      exact make1 (ea_cons (ev_var rfl) ea_nil) fun x dx H5 e5 hx hh => q _ _ ((e0.trans e1).trans e5) ⟨x, dx, rfl, fresh_back (e0.trans e1) hx, hh, fun _ => .int _⟩
    rw [if_neg (of_decide_eq_false hb)] at q
    clear hb
    replace e0 := e0.trans e1
    clear e1
    refine q_when (b := decide (c % 7 = 1)) (by apply et_is; (focus ((repeat' (first | with_reducible exact ev_c | ((with_reducible show Ev (tVar _) _ _ _); exact ev_var rfl) | with_reducible exact ea_nil | with_reducible exact eo_none | with_reducible refine' ea_cons ?_ ?_ | with_reducible refine' eo_some ?_ | with_reducible refine' ev_and2 ?_ ?_ | with_reducible refine' ev_or2 ?_ ?_ | with_reducible refine' ev_notV ?_ | with_reducible exact ru_I | with_reducible refine' ev_un ?_ ?_ | with_reducible exact rv_I0 | with_reducible exact rv_isN | with_reducible exact rv_notN | with_reducible refine' rv_I ?_ | with_reducible refine' rv_eq ?_ | with_reducible refine' rv_ne ?_ | with_reducible refine' ev_op ?_ ?_ ?_ | with_reducible refine' ev_chain2 ?_ ?_ ?_ ?_ ?_ | with_reducible refine' et_B ?_ | with_reducible refine' et_test ?_ | with_reducible refine' et_and2 ?_ ?_ | with_reducible refine' et_or2 ?_ ?_ | with_reducible refine' et_not ?_ | with_reducible refine' ev_call ?_ ?_ | with_reducible refine' ev_callS ?_ ?_ | with_reducible refine' ev_cb ?_ ?_ | with_reducible exact isi_bool (by assumption) | with_reducible exact isi_int (by assumption) | with_reducible exact isi_list (by assumption) | with_reducible exact rc_len (by assumption) | with_reducible exact rc_sum (by assumption) | with_reducible exact rc_abs | with_reducible exact isi_listL (by assumption) | with_reducible exact isi_intI | with_reducible exact isi_boolI | with_reducible exact rc_lenT (by assumption) | with_reducible exact isi_tup (by assumption) | with_reducible exact rv_eqL (by assumption) (by assumption) | with_reducible exact rv_neL (by assumption) (by assumption) | with_reducible exact rv_neT (by assumption) (by assumption) | with_reducible exact rv_ixL (by assumption) (by assumption) | with_reducible exact rv_ixT (by assumption) (by assumption) | with_reducible refine' ev_din ?_ ?_ (by assumption) | with_reducible refine' ev_dnotin ?_ ?_ (by assumption) | with_reducible refine' ev_dget ?_ ?_ (by assumption) (by assumption) | ((with_reducible show SpV _ _ _ _); assumption) | ((with_reducible show RV _ _ _ _ _); assumption) | ((with_reducible show RC _ _ _ _); assumption) | ((with_reducible show CDiv _ _); exact ⟨by omega, by omega⟩) | ((with_reducible show CMul _ _); first | exact .inl ⟨by omega, by omega⟩ | exact .inr ⟨by omega, by omega⟩) | ((with_reducible show CPow _ _); exact ⟨by omega, by omega, by first | decide | assumption | omega⟩) | ((with_reducible show (0 : Int) < _); omega) | ((with_reducible show (0 : Int) ≤ _); omega) | ((with_reducible show scal _ _ = true); rfl))))); exact dec_int.trans (by rw [Bool.eq_iff_iff]; simp)) (fun hb H1 e1 => ?_) (fun hb H1 e1 => ?_)
    · rw [if_pos (of_decide_eq_true hb)] at q
      exact make1 (ea_cons (ev_var rfl) ea_nil) fun x dx H5 e5 hx hh => q _ _ ((e0.trans e1).trans e5) ⟨x, dx, rfl, fresh_back (e0.trans e1) hx, hh, fun _ => .int _⟩
    rw [if_neg (of_decide_eq_false hb)] at q
    clear hb
    replace e0 := e0.trans e1
    clear e1
    refine q_when (b := decide (c % 7 = 2) && decide ((1 : Int) < (n : Int))) (by apply et_is; (focus ((repeat' (first | with_reducible exact ev_c | ((with_reducible show Ev (tVar _) _ _ _); exact ev_var rfl) | with_reducible exact ea_nil | with_reducible exact eo_none | with_reducible refine' ea_cons ?_ ?_ | with_reducible refine' eo_some ?_ | with_reducible refine' ev_and2 ?_ ?_ | with_reducible refine' ev_or2 ?_ ?_ | with_reducible refine' ev_notV ?_ | with_reducible exact ru_I | with_reducible refine' ev_un ?_ ?_ | with_reducible exact rv_I0 | with_reducible exact rv_isN | with_reducible exact rv_notN | with_reducible refine' rv_I ?_ | with_reducible refine' rv_eq ?_ | with_reducible refine' rv_ne ?_ | with_reducible refine' ev_op ?_ ?_ ?_ | with_reducible refine' ev_chain2 ?_ ?_ ?_ ?_ ?_ | with_reducible refine' et_B ?_ | with_reducible refine' et_test ?_ | with_reducible refine' et_and2 ?_ ?_ | with_reducible refine' et_or2 ?_ ?_ | with_reducible refine' et_not ?_ | with_reducible refine' ev_call ?_ ?_ | with_reducible refine' ev_callS ?_ ?_ | with_reducible refine' ev_cb ?_ ?_ | with_reducible exact isi_bool (by assumption) | with_reducible exact isi_int (by assumption) | with_reducible exact isi_list (by assumption) | with_reducible exact rc_len (by assumption) | with_reducible exact rc_sum (by assumption) | with_reducible exact rc_abs | with_reducible exact isi_listL (by assumption) | with_reducible exact isi_intI | with_reducible exact isi_boolI | with_reducible exact rc_lenT (by assumption) | with_reducible exact isi_tup (by assumption) | with_reducible exact rv_eqL (by assumption) (by assumption) | with_reducible exact rv_neL (by assumption) (by assumption) | with_reducible exact rv_neT (by assumption) (by assumption) | with_reducible exact rv_ixL (by assumption) (by assumption) | with_reducible exact rv_ixT (by assumption) (by assumption) | with_reducible refine' ev_din ?_ ?_ (by assumption) | with_reducible refine' ev_dnotin ?_ ?_ (by assumption) | with_reducible refine' ev_dget ?_ ?_ (by assumption) (by assumption) | ((with_reducible show SpV _ _ _ _); assumption) | ((with_reducible show RV _ _ _ _ _); assumption) | ((with_reducible show RC _ _ _ _); assumption) | ((with_reducible show CDiv _ _); exact ⟨by omega, by omega⟩) | ((with_reducible show CMul _ _); first | exact .inl ⟨by omega, by omega⟩ | exact .inr ⟨by omega, by omega⟩) | ((with_reducible show CPow _ _); exact ⟨by omega, by omega, by first | decide | assumption | omega⟩) | ((with_reducible show (0 : Int) < _); omega) | ((with_reducible show (0 : Int) ≤ _); omega) | ((with_reducible show scal _ _ = true); rfl))))); exact congrArg (· && decide ((1 : Int) < (n : Int))) (dec_int.trans (by rw [Bool.eq_iff_iff]; simp))) (fun hb H1 e1 => ?_) (fun hb H1 e1 => ?_)
    · rw [Bool.and_eq_true, decide_eq_true_iff, decide_eq_true_iff] at hb
      have hb3 : c % 7 = 2 ∧ 1 < n := ⟨hb.1, by omega⟩
      rw [if_pos hb3] at q
      have sb := su_beats (H := H1) (c := c) (n := (n : Int)) hb.2 (by omega)
      refine q_asgU (eu_call (by (repeat' (first | with_reducible exact ev_c | ((with_reducible show Ev (tVar _) _ _ _); exact ev_var rfl) | with_reducible exact ea_nil | with_reducible exact eo_none | with_reducible refine' ea_cons ?_ ?_ | with_reducible refine' eo_some ?_ | with_reducible refine' ev_and2 ?_ ?_ | with_reducible refine' ev_or2 ?_ ?_ | with_reducible refine' ev_notV ?_ | with_reducible exact ru_I | with_reducible refine' ev_un ?_ ?_ | with_reducible exact rv_I0 | with_reducible exact rv_isN | with_reducible exact rv_notN | with_reducible refine' rv_I ?_ | with_reducible refine' rv_eq ?_ | with_reducible refine' rv_ne ?_ | with_reducible refine' ev_op ?_ ?_ ?_ | with_reducible refine' ev_chain2 ?_ ?_ ?_ ?_ ?_ | with_reducible refine' et_B ?_ | with_reducible refine' et_test ?_ | with_reducible refine' et_and2 ?_ ?_ | with_reducible refine' et_or2 ?_ ?_ | with_reducible refine' et_not ?_ | with_reducible refine' ev_call ?_ ?_ | with_reducible refine' ev_callS ?_ ?_ | with_reducible refine' ev_cb ?_ ?_ | with_reducible exact isi_bool (by assumption) | with_reducible exact isi_int (by assumption) | with_reducible exact isi_list (by assumption) | with_reducible exact rc_len (by assumption) | with_reducible exact rc_sum (by assumption) | with_reducible exact rc_abs | with_reducible exact isi_listL (by assumption) | with_reducible exact isi_intI | with_reducible exact isi_boolI | with_reducible exact rc_lenT (by assumption) | with_reducible exact isi_tup (by assumption) | with_reducible exact rv_eqL (by assumption) (by assumption) | with_reducible exact rv_neL (by assumption) (by assumption) | with_reducible exact rv_neT (by assumption) (by assumption) | with_reducible exact rv_ixL (by assumption) (by assumption) | with_reducible exact rv_ixT (by assumption) (by assumption) | with_reducible refine' ev_din ?_ ?_ (by assumption) | with_reducible refine' ev_dnotin ?_ ?_ (by assumption) | with_reducible refine' ev_dget ?_ ?_ (by assumption) (by assumption) | ((with_reducible show SpV _ _ _ _); assumption) | ((with_reducible show RV _ _ _ _ _); assumption) | ((with_reducible show RC _ _ _ _); assumption) | ((with_reducible show CDiv _ _); exact ⟨by omega, by omega⟩) | ((with_reducible show CMul _ _); first | exact .inl ⟨by omega, by omega⟩ | exact .inr ⟨by omega, by omega⟩) | ((with_reducible show CPow _ _); exact ⟨by omega, by omega, by first | decide | assumption | omega⟩) | ((with_reducible show (0 : Int) < _); omega) | ((with_reducible show (0 : Int) ≤ _); omega) | ((with_reducible show scal _ _ = true); rfl)))) sb) fun p H6 hp e6 h6 => ?_
      have st : SqT K H6 p [.int (biI c n), .int (bjI c n)] := st_of h6
      have g0 : atI [V.int (biI c n), .int (bjI c n)] 0 = some (.int (biI c n)) := rfl
      have g1 : atI [V.int (biI c n), .int (bjI c n)] 1 = some (.int (bjI c n)) := rfl
      refine make2 (v := .int (biI c n)) (u := .int (bjI c n)) (by (repeat' (first | with_reducible exact ev_c | ((with_reducible show Ev (tVar _) _ _ _); exact ev_var rfl) | with_reducible exact ea_nil | with_reducible exact eo_none | with_reducible refine' ea_cons ?_ ?_ | with_reducible refine' eo_some ?_ | with_reducible refine' ev_and2 ?_ ?_ | with_reducible refine' ev_or2 ?_ ?_ | with_reducible refine' ev_notV ?_ | with_reducible exact ru_I | with_reducible refine' ev_un ?_ ?_ | with_reducible exact rv_I0 | with_reducible exact rv_isN | with_reducible exact rv_notN | with_reducible refine' rv_I ?_ | with_reducible refine' rv_eq ?_ | with_reducible refine' rv_ne ?_ | with_reducible refine' ev_op ?_ ?_ ?_ | with_reducible refine' ev_chain2 ?_ ?_ ?_ ?_ ?_ | with_reducible refine' et_B ?_ | with_reducible refine' et_test ?_ | with_reducible refine' et_and2 ?_ ?_ | with_reducible refine' et_or2 ?_ ?_ | with_reducible refine' et_not ?_ | with_reducible refine' ev_call ?_ ?_ | with_reducible refine' ev_callS ?_ ?_ | with_reducible refine' ev_cb ?_ ?_ | with_reducible exact isi_bool (by assumption) | with_reducible exact isi_int (by assumption) | with_reducible exact isi_list (by assumption) | with_reducible exact rc_len (by assumption) | with_reducible exact rc_sum (by assumption) | with_reducible exact rc_abs | with_reducible exact isi_listL (by assumption) | with_reducible exact isi_intI | with_reducible exact isi_boolI | with_reducible exact rc_lenT (by assumption) | with_reducible exact isi_tup (by assumption) | with_reducible exact rv_eqL (by assumption) (by assumption) | with_reducible exact rv_neL (by assumption) (by assumption) | with_reducible exact rv_neT (by assumption) (by assumption) | with_reducible exact rv_ixL (by assumption) (by assumption) | with_reducible exact rv_ixT (by assumption) (by assumption) | with_reducible refine' ev_din ?_ ?_ (by assumption) | with_reducible refine' ev_dnotin ?_ ?_ (by assumption) | with_reducible refine' ev_dget ?_ ?_ (by assumption) (by assumption) | ((with_reducible show SpV _ _ _ _); assumption) | ((with_reducible show RV _ _ _ _ _); assumption) | ((with_reducible show RC _ _ _ _); assumption) | ((with_reducible show CDiv _ _); exact ⟨by omega, by omega⟩) | ((with_reducible show CMul _ _); first | exact .inl ⟨by omega, by omega⟩ | exact .inr ⟨by omega, by omega⟩) | ((with_reducible show CPow _ _); exact ⟨by omega, by omega, by first | decide | assumption | omega⟩) | ((with_reducible show (0 : Int) < _); omega) | ((with_reducible show (0 : Int) ≤ _); omega) | ((with_reducible show scal _ _ = true); rfl)))) fun x dx H5 e5 hx hh => ?_
      exact q _ _ (((e0.trans e1).trans e6).trans e5) ⟨x, dx, rfl, fresh_back ((e0.trans e1).trans e6) hx, hh, fun _ => .int _, fun _ => .int _⟩
    have hb2 : ¬ (c % 7 = 2 ∧ 1 < n) := fun ⟨z1, z2⟩ => by
      rw [decide_eq_true z1, decide_eq_true (show (1 : Int) < (n : Int) by omega)] at hb
      cases hb
    rw [if_neg hb2] at q
    clear hb2 hb
    replace e0 := e0.trans e1
    clear e1
    refine q_when (b := decide (c % 7 = 3) && decide ((1 : Int) < (n : Int))) (by apply et_is; (focus ((repeat' (first | with_reducible exact ev_c | ((with_reducible show Ev (tVar _) _ _ _); exact ev_var rfl) | with_reducible exact ea_nil | with_reducible exact eo_none | with_reducible refine' ea_cons ?_ ?_ | with_reducible refine' eo_some ?_ | with_reducible refine' ev_and2 ?_ ?_ | with_reducible refine' ev_or2 ?_ ?_ | with_reducible refine' ev_notV ?_ | with_reducible exact ru_I | with_reducible refine' ev_un ?_ ?_ | with_reducible exact rv_I0 | with_reducible exact rv_isN | with_reducible exact rv_notN | with_reducible refine' rv_I ?_ | with_reducible refine' rv_eq ?_ | with_reducible refine' rv_ne ?_ | with_reducible refine' ev_op ?_ ?_ ?_ | with_reducible refine' ev_chain2 ?_ ?_ ?_ ?_ ?_ | with_reducible refine' et_B ?_ | with_reducible refine' et_test ?_ | with_reducible refine' et_and2 ?_ ?_ | with_reducible refine' et_or2 ?_ ?_ | with_reducible refine' et_not ?_ | with_reducible refine' ev_call ?_ ?_ | with_reducible refine' ev_callS ?_ ?_ | with_reducible refine' ev_cb ?_ ?_ | with_reducible exact isi_bool (by assumption) | with_reducible exact isi_int (by assumption) | with_reducible exact isi_list (by assumption) | with_reducible exact rc_len (by assumption) | with_reducible exact rc_sum (by assumption) | with_reducible exact rc_abs | with_reducible exact isi_listL (by assumption) | with_reducible exact isi_intI | with_reducible exact isi_boolI | with_reducible exact rc_lenT (by assumption) | with_reducible exact isi_tup (by assumption) | with_reducible exact rv_eqL (by assumption) (by assumption) | with_reducible exact rv_neL (by assumption) (by assumption) | with_reducible exact rv_neT (by assumption) (by assumption) | with_reducible exact rv_ixL (by assumption) (by assumption) | with_reducible exact rv_ixT (by assumption) (by assumption) | with_reducible refine' ev_din ?_ ?_ (by assumption) | with_reducible refine' ev_dnotin ?_ ?_ (by assumption) | with_reducible refine' ev_dget ?_ ?_ (by assumption) (by assumption) | ((with_reducible show SpV _ _ _ _); assumption) | ((with_reducible show RV _ _ _ _ _); assumption) | ((with_reducible show RC _ _ _ _); assumption) | ((with_reducible show CDiv _ _); exact ⟨by omega, by omega⟩) | ((with_reducible show CMul _ _); first | exact .inl ⟨by omega, by omega⟩ | exact .inr ⟨by omega, by omega⟩) | ((with_reducible show CPow _ _); exact ⟨by omega, by omega, by first | decide | assumption | omega⟩) | ((with_reducible show (0 : Int) < _); omega) | ((with_reducible show (0 : Int) ≤ _); omega) | ((with_reducible show scal _ _ = true); rfl))))); exact congrArg (· && decide ((1 : Int) < (n : Int))) (dec_int.trans (by rw [Bool.eq_iff_iff]; simp))) (fun hb H1 e1 => ?_) (fun hb H1 e1 => ?_)
    · rw [Bool.and_eq_true, decide_eq_true_iff, decide_eq_true_iff] at hb
      have hb3 : c % 7 = 3 ∧ 1 < n := ⟨hb.1, by omega⟩
      rw [if_pos hb3] at q
      exact make1 (v := .int (c / 7 % (n : Int))) (ea_cons (by (repeat' (first | with_reducible exact ev_c | ((with_reducible show Ev (tVar _) _ _ _); exact ev_var rfl) | with_reducible exact ea_nil | with_reducible exact eo_none | with_reducible refine' ea_cons ?_ ?_ | with_reducible refine' eo_some ?_ | with_reducible refine' ev_and2 ?_ ?_ | with_reducible refine' ev_or2 ?_ ?_ | with_reducible refine' ev_notV ?_ | with_reducible exact ru_I | with_reducible refine' ev_un ?_ ?_ | with_reducible exact rv_I0 | with_reducible exact rv_isN | with_reducible exact rv_notN | with_reducible refine' rv_I ?_ | with_reducible refine' rv_eq ?_ | with_reducible refine' rv_ne ?_ | with_reducible refine' ev_op ?_ ?_ ?_ | with_reducible refine' ev_chain2 ?_ ?_ ?_ ?_ ?_ | with_reducible refine' et_B ?_ | with_reducible refine' et_test ?_ | with_reducible refine' et_and2 ?_ ?_ | with_reducible refine' et_or2 ?_ ?_ | with_reducible refine' et_not ?_ | with_reducible refine' ev_call ?_ ?_ | with_reducible refine' ev_callS ?_ ?_ | with_reducible refine' ev_cb ?_ ?_ | with_reducible exact isi_bool (by assumption) | with_reducible exact isi_int (by assumption) | with_reducible exact isi_list (by assumption) | with_reducible exact rc_len (by assumption) | with_reducible exact rc_sum (by assumption) | with_reducible exact rc_abs | with_reducible exact isi_listL (by assumption) | with_reducible exact isi_intI | with_reducible exact isi_boolI | with_reducible exact rc_lenT (by assumption) | with_reducible exact isi_tup (by assumption) | with_reducible exact rv_eqL (by assumption) (by assumption) | with_reducible exact rv_neL (by assumption) (by assumption) | with_reducible exact rv_neT (by assumption) (by assumption) | with_reducible exact rv_ixL (by assumption) (by assumption) | with_reducible exact rv_ixT (by assumption) (by assumption) | with_reducible refine' ev_din ?_ ?_ (by assumption) | with_reducible refine' ev_dnotin ?_ ?_ (by assumption) | with_reducible refine' ev_dget ?_ ?_ (by assumption) (by assumption) | ((with_reducible show SpV _ _ _ _); assumption) | ((with_reducible show RV _ _ _ _ _); assumption) | ((with_reducible show RC _ _ _ _); assumption) | ((with_reducible show CDiv _ _); exact ⟨by omega, by omega⟩) | ((with_reducible show CMul _ _); first | exact .inl ⟨by omega, by omega⟩ | exact .inr ⟨by omega, by omega⟩) | ((with_reducible show CPow _ _); exact ⟨by omega, by omega, by first | decide | assumption | omega⟩) | ((with_reducible show (0 : Int) < _); omega) | ((with_reducible show (0 : Int) ≤ _); omega) | ((with_reducible show scal _ _ = true); rfl)))) ea_nil) fun x dx H5 e5 hx hh => q _ _ ((e0.trans e1).trans e5) ⟨x, dx, rfl, fresh_back (e0.trans e1) hx, hh, fun _ => .int _⟩
    have hb2 : ¬ (c % 7 = 3 ∧ 1 < n) := fun ⟨z1, z2⟩ => by
      rw [decide_eq_true z1, decide_eq_true (show (1 : Int) < (n : Int) by omega)] at hb
      cases hb
    rw [if_neg hb2] at q
    clear hb2 hb
    replace e0 := e0.trans e1
    clear e1
    refine q_when (b := decide (c % 7 = 4)) (by apply et_is; (focus ((repeat' (first | with_reducible exact ev_c | ((with_reducible show Ev (tVar _) _ _ _); exact ev_var rfl) | with_reducible exact ea_nil | with_reducible exact eo_none | with_reducible refine' ea_cons ?_ ?_ | with_reducible refine' eo_some ?_ | with_reducible refine' ev_and2 ?_ ?_ | with_reducible refine' ev_or2 ?_ ?_ | with_reducible refine' ev_notV ?_ | with_reducible exact ru_I | with_reducible refine' ev_un ?_ ?_ | with_reducible exact rv_I0 | with_reducible exact rv_isN | with_reducible exact rv_notN | with_reducible refine' rv_I ?_ | with_reducible refine' rv_eq ?_ | with_reducible refine' rv_ne ?_ | with_reducible refine' ev_op ?_ ?_ ?_ | with_reducible refine' ev_chain2 ?_ ?_ ?_ ?_ ?_ | with_reducible refine' et_B ?_ | with_reducible refine' et_test ?_ | with_reducible refine' et_and2 ?_ ?_ | with_reducible refine' et_or2 ?_ ?_ | with_reducible refine' et_not ?_ | with_reducible refine' ev_call ?_ ?_ | with_reducible refine' ev_callS ?_ ?_ | with_reducible refine' ev_cb ?_ ?_ | with_reducible exact isi_bool (by assumption) | with_reducible exact isi_int (by assumption) | with_reducible exact isi_list (by assumption) | with_reducible exact rc_len (by assumption) | with_reducible exact rc_sum (by assumption) | with_reducible exact rc_abs | with_reducible exact isi_listL (by assumption) | with_reducible exact isi_intI | with_reducible exact isi_boolI | with_reducible exact rc_lenT (by assumption) | with_reducible exact isi_tup (by assumption) | with_reducible exact rv_eqL (by assumption) (by assumption) | with_reducible exact rv_neL (by assumption) (by assumption) | with_reducible exact rv_neT (by assumption) (by assumption) | with_reducible exact rv_ixL (by assumption) (by assumption) | with_reducible exact rv_ixT (by assumption) (by assumption) | with_reducible refine' ev_din ?_ ?_ (by assumption) | with_reducible refine' ev_dnotin ?_ ?_ (by assumption) | with_reducible refine' ev_dget ?_ ?_ (by assumption) (by assumption) | ((with_reducible show SpV _ _ _ _); assumption) | ((with_reducible show RV _ _ _ _ _); assumption) | ((with_reducible show RC _ _ _ _); assumption) | ((with_reducible show CDiv _ _); exact ⟨by omega, by omega⟩) | ((with_reducible show CMul _ _); first | exact .inl ⟨by omega, by omega⟩ | exact .inr ⟨by omega, by omega⟩) | ((with_reducible show CPow _ _); exact ⟨by omega, by omega, by first | decide | assumption | omega⟩) | ((with_reducible show (0 : Int) < _); omega) | ((with_reducible show (0 : Int) ≤ _); omega) | ((with_reducible show scal _ _ = true); rfl))))); exact dec_int.trans (by rw [Bool.eq_iff_iff]; simp)) (fun hb H1 e1 => ?_) (fun hb H1 e1 => ?_)
    · rw [if_pos (of_decide_eq_true hb)] at q
      exact make0 (x := "") fun x dx H5 e5 hx hh => q _ _ ((e0.trans e1).trans e5) ⟨x, dx, rfl, fresh_back (e0.trans e1) hx, hh, True.intro⟩
    rw [if_neg (of_decide_eq_false hb)] at q
    clear hb
    replace e0 := e0.trans e1
    clear e1
    refine q_when (b := decide (c % 7 = 5)) (by apply et_is; (focus ((repeat' (first | with_reducible exact ev_c | ((with_reducible show Ev (tVar _) _ _ _); exact ev_var rfl) | with_reducible exact ea_nil | with_reducible exact eo_none | with_reducible refine' ea_cons ?_ ?_ | with_reducible refine' eo_some ?_ | with_reducible refine' ev_and2 ?_ ?_ | with_reducible refine' ev_or2 ?_ ?_ | with_reducible refine' ev_notV ?_ | with_reducible exact ru_I | with_reducible refine' ev_un ?_ ?_ | with_reducible exact rv_I0 | with_reducible exact rv_isN | with_reducible exact rv_notN | with_reducible refine' rv_I ?_ | with_reducible refine' rv_eq ?_ | with_reducible refine' rv_ne ?_ | with_reducible refine' ev_op ?_ ?_ ?_ | with_reducible refine' ev_chain2 ?_ ?_ ?_ ?_ ?_ | with_reducible refine' et_B ?_ | with_reducible refine' et_test ?_ | with_reducible refine' et_and2 ?_ ?_ | with_reducible refine' et_or2 ?_ ?_ | with_reducible refine' et_not ?_ | with_reducible refine' ev_call ?_ ?_ | with_reducible refine' ev_callS ?_ ?_ | with_reducible refine' ev_cb ?_ ?_ | with_reducible exact isi_bool (by assumption) | with_reducible exact isi_int (by assumption) | with_reducible exact isi_list (by assumption) | with_reducible exact rc_len (by assumption) | with_reducible exact rc_sum (by assumption) | with_reducible exact rc_abs | with_reducible exact isi_listL (by assumption) | with_reducible exact isi_intI | with_reducible exact isi_boolI | with_reducible exact rc_lenT (by assumption) | with_reducible exact isi_tup (by assumption) | with_reducible exact rv_eqL (by assumption) (by assumption) | with_reducible exact rv_neL (by assumption) (by assumption) | with_reducible exact rv_neT (by assumption) (by assumption) | with_reducible exact rv_ixL (by assumption) (by assumption) | with_reducible exact rv_ixT (by assumption) (by assumption) | with_reducible refine' ev_din ?_ ?_ (by assumption) | with_reducible refine' ev_dnotin ?_ ?_ (by assumption) | with_reducible refine' ev_dget ?_ ?_ (by assumption) (by assumption) | ((with_reducible show SpV _ _ _ _); assumption) | ((with_reducible show RV _ _ _ _ _); assumption) | ((with_reducible show RC _ _ _ _); assumption) | ((with_reducible show CDiv _ _); exact ⟨by omega, by omega⟩) | ((with_reducible show CMul _ _); first | exact .inl ⟨by omega, by omega⟩ | exact .inr ⟨by omega, by omega⟩) | ((with_reducible show CPow _ _); exact ⟨by omega, by omega, by first | decide | assumption | omega⟩) | ((with_reducible show (0 : Int) < _); omega) | ((with_reducible show (0 : Int) ≤ _); omega) | ((with_reducible show scal _ _ = true); rfl))))); exact dec_int.trans (by rw [Bool.eq_iff_iff]; simp)) (fun hb H1 e1 => ?_) (fun hb H1 e1 => ?_)
    · rw [if_pos (of_decide_eq_true hb)] at q
      exact make1 (ea_cons (ev_var rfl) ea_nil) fun x dx H5 e5 hx hh => q _ _ ((e0.trans e1).trans e5) ⟨x, dx, rfl, fresh_back (e0.trans e1) hx, hh, fun _ => .int _⟩
    rw [if_neg (of_decide_eq_false hb)] at q
    clear hb
    replace e0 := e0.trans e1
    clear e1
    exact make0 (x := "") fun x dx H5 e5 hx hh => q _ _ (e0.trans e5) ⟨x, dx, rfl, fresh_back e0 hx, hh, True.intro⟩

def sp_byhand (K : PySem.W.Frag) : Sp := fun vs H Q E => ∃ (a : Addr) (c : Int) (n : Nat) (b : Int) (ns : List Int), vs = [.ref a, .int c] ∧ H a = some (.lst (ns.map V.int)) ∧ 1 ≤ n ∧ n ≤ 9 ∧ PatB n b ns ∧ b ≤ 990000 ∧ ∀ p H', (H p = none ∨ p = a) → Ex H H' → H' p = some (.lst (((simOf c n).to ns).map V.int)) → Q (.ref p) H'
theorem sc__law_by_hand : FnScope ["_law_pattern", "_law_cell", "_law_size", "_law_kind", "_law_k", "_law_pair"] ["_law_pattern", "_law_cell"] (defScope s__law_by_hand) := ⟨rfl, rfl, rfl, by decide +kernel, rfl, by decide +kernel, by decide +kernel⟩
theorem ok__law_by_hand {P : Program} {w : World} {K : PySem.W.Frag} {mg : Str → Option Value} {base : Heap} (T : TXT K mg) : OK P w K mg base "_law_by_hand" ["_law_pattern", "_law_cell"] 7 (sp_byhand K) := by
  have O_turned := ok_turned (P := P) (w := w) (base := base) T
  have O_lifted := ok_lifted (P := P) (w := w) (base := base) T
  have O__law_beats_by := ok__law_beats_by (P := P) (w := w) (base := base) T
  have O_swapped := ok_swapped (P := P) (w := w) (base := base) T
  have O_neighbours := ok_neighbours (P := P) (w := w) (base := base) T
  have O_mirrored := ok_mirrored (P := P) (w := w) (base := base) T
  have O_gaps := ok_gaps (P := P) (w := w) (base := base) T
  obtain ⟨fd, F⟩ := T.def_ 46
  refine ⟨_, fd, T.glo 23, F.kp, F.bindsN (fun _ _ _ _ _ _ us hl => match us, hl with | [_, _], _ => rfl), F.ok sc__law_by_hand (fun vs H Q E h => ?_) (fun cdv A outer s H vs Q E hr h => ?_), F.bindsA (fun _ _ _ _ _ _ us hl => match us, hl with | [_, _], _ => rfl)⟩
  · first | (obtain ⟨rfl, _⟩ := h; rfl) | (obtain ⟨_, rfl, _⟩ := h; rfl) | (obtain ⟨_, _, rfl, _⟩ := h; rfl) | (obtain ⟨_, _, _, rfl, _⟩ := h; rfl) | (obtain ⟨_, _, _, _, rfl, _⟩ := h; rfl) | (obtain ⟨_, _, _, _, _, rfl, _⟩ := h; rfl) | (obtain ⟨_, _, _, _, _, _, rfl, _⟩ := h; rfl) | (obtain ⟨_, _, _, _, _, _, _, rfl, _⟩ := h; rfl) | (obtain ⟨_, _, _, _, _, _, _, _, rfl, _⟩ := h; rfl)
  · replace F : FunD K "_law_by_hand" "_law_by_hand" (defArgs s__law_by_hand) (defBody s__law_by_hand) (defScope s__law_by_hand) [] [] (He.ga K "_law_by_hand") fd := F
    refine ⟨_, (pss_cons (ps_set (i := 2) sc__law_by_hand.nd rfl (Or.inl rfl) (pe_callB (id := "len") (k_len K) (by rfl) (T.free 43) (by decide +kernel) (pa_cons (pv 0) pa_nil)))
      (pss_cons (ps_set (i := 3) sc__law_by_hand.nd rfl (Or.inl rfl) (pe_op op_mod (pv 1) pe_int))
      (pss_cons (ps_set (i := 4) sc__law_by_hand.nd rfl (Or.inl rfl) (pe_op op_sub (pe_op op_mod (pe_op op_fdiv (pv 1) pe_int) pe_int) pe_int))
      (pss_cons (ps_if (pt_cmpR op_eq (pv 3) pe_int (nomark _))
        (pss_one (ps_ret (pe_own O_turned (hr.mono (by decide)) (by rfl) (passes_call (takes_of rfl rfl rfl rfl) (fun _ _ _ _ h => h)) (pa_cons (pv 0) (pa_cons (pv 4) pa_nil)))))
        pss_nil)
      (pss_cons (ps_if (pt_cmpR op_eq (pv 3) pe_int (nomark _))
        (pss_one (ps_ret (pe_own O_lifted (hr.mono (by decide)) (by rfl) (passes_call (takes_of rfl rfl rfl rfl) (fun _ _ _ _ h => h)) (pa_cons (pv 0) (pa_cons (pv 4) pa_nil)))))
        pss_nil)
      (pss_cons (ps_if (PW.pt (pw_and (pt_cmpR op_eq (pv 3) pe_int (nomark _)) (pw_and1 (pt_cmpR op_gt (pv 2) pe_int (nomark _)))))
        (pss_cons (ps_set (i := 5) sc__law_by_hand.nd rfl (Or.inl rfl) (pe_own O__law_beats_by (hr.mono (by decide)) (by rfl) (passes_call (takes_of rfl rfl rfl rfl) (fun _ _ _ _ h => h)) (pa_cons (pv 1) (pa_cons (pv 2) pa_nil))))
      (pss_one (ps_ret (pe_own O_swapped (hr.mono (by decide)) (by rfl) (passes_call (takes_of rfl rfl rfl rfl) (fun _ _ _ _ h => h)) (pa_cons (pv 0) (pa_cons (pe_ix (k_ixT K) (pv 5) pe_int (fun _ _ => rfl)) (pa_cons (pe_ix (k_ixT K) (pv 5) pe_int (fun _ _ => rfl)) pa_nil)))))))
        pss_nil)
      (pss_cons (ps_if (PW.pt (pw_and (pt_cmpR op_eq (pv 3) pe_int (nomark _)) (pw_and1 (pt_cmpR op_gt (pv 2) pe_int (nomark _)))))
        (pss_one (ps_ret (pe_own O_neighbours (hr.mono (by decide)) (by rfl) (passes_call (takes_of rfl rfl rfl rfl) (fun _ _ _ _ h => h)) (pa_cons (pv 0) (pa_cons (pe_op op_mod (pe_op op_fdiv (pv 1) pe_int) (pv 2)) pa_nil)))))
        pss_nil)
      (pss_cons (ps_if (pt_cmpR op_eq (pv 3) pe_int (nomark _))
        (pss_one (ps_ret (pe_own O_mirrored (hr.mono (by decide)) (by rfl) (passes_call (takes_of rfl rfl rfl rfl) (fun _ _ _ _ h => h)) (pa_cons (pv 0) pa_nil))))
        pss_nil)
      (pss_cons (ps_if (pt_cmpR op_eq (pv 3) pe_int (nomark _))
        (pss_one (ps_ret (pe_own O_gaps (hr.mono (by decide)) (by rfl) (passes_call (takes_of rfl rfl rfl rfl) (fun _ _ _ _ h => h)) (pa_cons (pv 0) (pa_cons (pv 4) pa_nil)))))
        pss_nil)
      (pss_one (ps_ret (pv 0)))))))))))), ?_⟩
    obtain ⟨a, c, n, b, ns, rfl, ha, h1, h9, p, hb0, q⟩ := h
    dsimp only [cxOf, L2.start, List.map_cons, List.map_nil, List.length_cons, List.length_nil, Nat.reduceAdd, Nat.reduceSub, List.replicate_succ, List.replicate_zero, List.cons_append, List.nil_append, Nat.zero_add, List.reduceReplicate, List.map]
    have g : ∀ (s : Sim), Drawn n s → (∀ p H', (H p = none ∨ p = a) → Ex H H' → H' p = some (.lst ((s.to ns).map V.int)) → Q (.ref p) H') → ∀ H1, Ex H H1 → Give K (s.done (some (ns.map V.int))) H1 Q E := fun s d q H1 e1 => by
      rw [drawn_done d h1 h9 p (by omega)]
      exact fun p H2 hp e2 h2 => q p H2 (.inl (fresh_back e1 hp)) (e1.trans e2) h2
    have d := simOf_drawn c h1
    unfold simOf at q d
    have hs : SqL K H a (ns.map V.int) := sq_of ha
    have ln := p.len
    refine q_asg (v := .int (n : Int)) (by rw [← ln, ← List.length_map (as := ns) (f := V.int)]; (repeat' (first | with_reducible exact ev_c | ((with_reducible show Ev (tVar _) _ _ _); exact ev_var rfl) | with_reducible exact ea_nil | with_reducible exact eo_none | with_reducible refine' ea_cons ?_ ?_ | with_reducible refine' eo_some ?_ | with_reducible refine' ev_and2 ?_ ?_ | with_reducible refine' ev_or2 ?_ ?_ | with_reducible refine' ev_notV ?_ | with_reducible exact ru_I | with_reducible refine' ev_un ?_ ?_ | with_reducible exact rv_I0 | with_reducible exact rv_isN | with_reducible exact rv_notN | with_reducible refine' rv_I ?_ | with_reducible refine' rv_eq ?_ | with_reducible refine' rv_ne ?_ | with_reducible refine' ev_op ?_ ?_ ?_ | with_reducible refine' ev_chain2 ?_ ?_ ?_ ?_ ?_ | with_reducible refine' et_B ?_ | with_reducible refine' et_test ?_ | with_reducible refine' et_and2 ?_ ?_ | with_reducible refine' et_or2 ?_ ?_ | with_reducible refine' et_not ?_ | with_reducible refine' ev_call ?_ ?_ | with_reducible refine' ev_callS ?_ ?_ | with_reducible refine' ev_cb ?_ ?_ | with_reducible exact isi_bool (by assumption) | with_reducible exact isi_int (by assumption) | with_reducible exact isi_list (by assumption) | with_reducible exact rc_len (by assumption) | with_reducible exact rc_sum (by assumption) | with_reducible exact rc_abs | with_reducible exact isi_listL (by assumption) | with_reducible exact isi_intI | with_reducible exact isi_boolI | with_reducible exact rc_lenT (by assumption) | with_reducible exact isi_tup (by assumption) | with_reducible exact rv_eqL (by assumption) (by assumption) | with_reducible exact rv_neL (by assumption) (by assumption) | with_reducible exact rv_neT (by assumption) (by assumption) | with_reducible exact rv_ixL (by assumption) (by assumption) | with_reducible exact rv_ixT (by assumption) (by assumption) | with_reducible refine' ev_din ?_ ?_ (by assumption) | with_reducible refine' ev_dnotin ?_ ?_ (by assumption) | with_reducible refine' ev_dget ?_ ?_ (by assumption) (by assumption) | ((with_reducible show SpV _ _ _ _); assumption) | ((with_reducible show RV _ _ _ _ _); assumption) | ((with_reducible show RC _ _ _ _); assumption) | ((with_reducible show CDiv _ _); exact ⟨by omega, by omega⟩) | ((with_reducible show CMul _ _); first | exact .inl ⟨by omega, by omega⟩ | exact .inr ⟨by omega, by omega⟩) | ((with_reducible show CPow _ _); exact ⟨by omega, by omega, by first | decide | assumption | omega⟩) | ((with_reducible show (0 : Int) < _); omega) | ((with_reducible show (0 : Int) ≤ _); omega) | ((with_reducible show scal _ _ = true); rfl)))) fun H4 e4 => ?_
    refine q_asg (v := .int (c % 7)) (by (repeat' (first | with_reducible exact ev_c | ((with_reducible show Ev (tVar _) _ _ _); exact ev_var rfl) | with_reducible exact ea_nil | with_reducible exact eo_none | with_reducible refine' ea_cons ?_ ?_ | with_reducible refine' eo_some ?_ | with_reducible refine' ev_and2 ?_ ?_ | with_reducible refine' ev_or2 ?_ ?_ | with_reducible refine' ev_notV ?_ | with_reducible exact ru_I | with_reducible refine' ev_un ?_ ?_ | with_reducible exact rv_I0 | with_reducible exact rv_isN | with_reducible exact rv_notN | with_reducible refine' rv_I ?_ | with_reducible refine' rv_eq ?_ | with_reducible refine' rv_ne ?_ | with_reducible refine' ev_op ?_ ?_ ?_ | with_reducible refine' ev_chain2 ?_ ?_ ?_ ?_ ?_ | with_reducible refine' et_B ?_ | with_reducible refine' et_test ?_ | with_reducible refine' et_and2 ?_ ?_ | with_reducible refine' et_or2 ?_ ?_ | with_reducible refine' et_not ?_ | with_reducible refine' ev_call ?_ ?_ | with_reducible refine' ev_callS ?_ ?_ | with_reducible refine' ev_cb ?_ ?_ | with_reducible exact isi_bool (by assumption) | with_reducible exact isi_int (by assumption) | with_reducible exact isi_list (by assumption) | with_reducible exact rc_len (by assumption) | with_reducible exact rc_sum (by assumption) | with_reducible exact rc_abs | with_reducible exact isi_listL (by assumption) | with_reducible exact isi_intI | with_reducible exact isi_boolI | with_reducible exact rc_lenT (by assumption) | with_reducible exact isi_tup (by assumption) | with_reducible exact rv_eqL (by assumption) (by assumption) | with_reducible exact rv_neL (by assumption) (by assumption) | with_reducible exact rv_neT (by assumption) (by assumption) | with_reducible exact rv_ixL (by assumption) (by assumption) | with_reducible exact rv_ixT (by assumption) (by assumption) | with_reducible refine' ev_din ?_ ?_ (by assumption) | with_reducible refine' ev_dnotin ?_ ?_ (by assumption) | with_reducible refine' ev_dget ?_ ?_ (by assumption) (by assumption) | ((with_reducible show SpV _ _ _ _); assumption) | ((with_reducible show RV _ _ _ _ _); assumption) | ((with_reducible show RC _ _ _ _); assumption) | ((with_reducible show CDiv _ _); exact ⟨by omega, by omega⟩) | ((with_reducible show CMul _ _); first | exact .inl ⟨by omega, by omega⟩ | exact .inr ⟨by omega, by omega⟩) | ((with_reducible show CPow _ _); exact ⟨by omega, by omega, by first | decide | assumption | omega⟩) | ((with_reducible show (0 : Int) < _); omega) | ((with_reducible show (0 : Int) ≤ _); omega) | ((with_reducible show scal _ _ = true); rfl)))) fun H2 e2 => ?_
    refine q_asg (v := .int (c / 7 % 19 - 9)) (by (repeat' (first | with_reducible exact ev_c | ((with_reducible show Ev (tVar _) _ _ _); exact ev_var rfl) | with_reducible exact ea_nil | with_reducible exact eo_none | with_reducible refine' ea_cons ?_ ?_ | with_reducible refine' eo_some ?_ | with_reducible refine' ev_and2 ?_ ?_ | with_reducible refine' ev_or2 ?_ ?_ | with_reducible refine' ev_notV ?_ | with_reducible exact ru_I | with_reducible refine' ev_un ?_ ?_ | with_reducible exact rv_I0 | with_reducible exact rv_isN | with_reducible exact rv_notN | with_reducible refine' rv_I ?_ | with_reducible refine' rv_eq ?_ | with_reducible refine' rv_ne ?_ | with_reducible refine' ev_op ?_ ?_ ?_ | with_reducible refine' ev_chain2 ?_ ?_ ?_ ?_ ?_ | with_reducible refine' et_B ?_ | with_reducible refine' et_test ?_ | with_reducible refine' et_and2 ?_ ?_ | with_reducible refine' et_or2 ?_ ?_ | with_reducible refine' et_not ?_ | with_reducible refine' ev_call ?_ ?_ | with_reducible refine' ev_callS ?_ ?_ | with_reducible refine' ev_cb ?_ ?_ | with_reducible exact isi_bool (by assumption) | with_reducible exact isi_int (by assumption) | with_reducible exact isi_list (by assumption) | with_reducible exact rc_len (by assumption) | with_reducible exact rc_sum (by assumption) | with_reducible exact rc_abs | with_reducible exact isi_listL (by assumption) | with_reducible exact isi_intI | with_reducible exact isi_boolI | with_reducible exact rc_lenT (by assumption) | with_reducible exact isi_tup (by assumption) | with_reducible exact rv_eqL (by assumption) (by assumption) | with_reducible exact rv_neL (by assumption) (by assumption) | with_reducible exact rv_neT (by assumption) (by assumption) | with_reducible exact rv_ixL (by assumption) (by assumption) | with_reducible exact rv_ixT (by assumption) (by assumption) | with_reducible refine' ev_din ?_ ?_ (by assumption) | with_reducible refine' ev_dnotin ?_ ?_ (by assumption) | with_reducible refine' ev_dget ?_ ?_ (by assumption) (by assumption) | ((with_reducible show SpV _ _ _ _); assumption) | ((with_reducible show RV _ _ _ _ _); assumption) | ((with_reducible show RC _ _ _ _); assumption) | ((with_reducible show CDiv _ _); exact ⟨by omega, by omega⟩) | ((with_reducible show CMul _ _); first | exact .inl ⟨by omega, by omega⟩ | exact .inr ⟨by omega, by omega⟩) | ((with_reducible show CPow _ _); exact ⟨by omega, by omega, by first | decide | assumption | omega⟩) | ((with_reducible show (0 : Int) < _); omega) | ((with_reducible show (0 : Int) ≤ _); omega) | ((with_reducible show scal _ _ = true); rfl)))) fun H3 e3 => ?_
    have e0 := (e4.trans e2).trans e3
    clear e4 e2 e3
    refine q_when (b := decide (c % 7 = 0)) (by apply et_is; (focus ((repeat' (first | with_reducible exact ev_c | ((with_reducible show Ev (tVar _) _ _ _); exact ev_var rfl) | with_reducible exact ea_nil | with_reducible exact eo_none | with_reducible refine' ea_cons ?_ ?_ | with_reducible refine' eo_some ?_ | with_reducible refine' ev_and2 ?_ ?_ | with_reducible refine' ev_or2 ?_ ?_ | with_reducible refine' ev_notV ?_ | with_reducible exact ru_I | with_reducible refine' ev_un ?_ ?_ | with_reducible exact rv_I0 | with_reducible exact rv_isN | with_reducible exact rv_notN | with_reducible refine' rv_I ?_ | with_reducible refine' rv_eq ?_ | with_reducible refine' rv_ne ?_ | with_reducible refine' ev_op ?_ ?_ ?_ | with_reducible refine' ev_chain2 ?_ ?_ ?_ ?_ ?_ | with_reducible refine' et_B ?_ | with_reducible refine' et_test ?_ | with_reducible refine' et_and2 ?_ ?_ | with_reducible refine' et_or2 ?_ ?_ | with_reducible refine' et_not ?_ | with_reducible refine' ev_call ?_ ?_ | with_reducible refine' ev_callS ?_ ?_ | with_reducible refine' ev_cb ?_ ?_ | with_reducible exact isi_bool (by assumption) | with_reducible exact isi_int (by assumption) | with_reducible exact isi_list (by assumption) | with_reducible exact rc_len (by assumption) | with_reducible exact rc_sum (by assumption) | with_reducible exact rc_abs | with_reducible exact isi_listL (by assumption) | with_reducible exact isi_intI | with_reducible exact isi_boolI | with_reducible exact rc_lenT (by assumption) | with_reducible exact isi_tup (by assumption) | with_reducible exact rv_eqL (by assumption) (by assumption) | with_reducible exact rv_neL (by assumption) (by assumption) | with_reducible exact rv_neT (by assumption) (by assumption) | with_reducible exact rv_ixL (by assumption) (by assumption) | with_reducible exact rv_ixT (by assumption) (by assumption) | with_reducible refine' ev_din ?_ ?_ (by assumption) | with_reducible refine' ev_dnotin ?_ ?_ (by assumption) | with_reducible refine' ev_dget ?_ ?_ (by assumption) (by assumption) | ((with_reducible show SpV _ _ _ _); assumption) | ((with_reducible show RV _ _ _ _ _); assumption) | ((with_reducible show RC _ _ _ _); assumption) | ((with_reducible show CDiv _ _); exact ⟨by omega, by omega⟩) | ((with_reducible show CMul _ _); first | exact .inl ⟨by omega, by omega⟩ | exact .inr ⟨by omega, by omega⟩) | ((with_reducible show CPow _ _); exact ⟨by omega, by omega, by first | decide | assumption | omega⟩) | ((with_reducible show (0 : Int) < _); omega) | ((with_reducible show (0 : Int) ≤ _); omega) | ((with_reducible show scal _ _ = true); rfl))))); exact dec_int.trans (by rw [Bool.eq_iff_iff]; simp)) (fun hb H1 e1 => ?_) (fun hb H1 e1 => ?_)
    · rw [if_pos (of_decide_eq_true hb)] at q d
      exact s_retT (vs := [.ref a, .int (c / 7 % 19 - 9)]) (by (repeat' (first | with_reducible exact ev_c | ((with_reducible show Ev (tVar _) _ _ _); exact ev_var rfl) | with_reducible exact ea_nil | with_reducible exact eo_none | with_reducible refine' ea_cons ?_ ?_ | with_reducible refine' eo_some ?_ | with_reducible refine' ev_and2 ?_ ?_ | with_reducible refine' ev_or2 ?_ ?_ | with_reducible refine' ev_notV ?_ | with_reducible exact ru_I | with_reducible refine' ev_un ?_ ?_ | with_reducible exact rv_I0 | with_reducible exact rv_isN | with_reducible exact rv_notN | with_reducible refine' rv_I ?_ | with_reducible refine' rv_eq ?_ | with_reducible refine' rv_ne ?_ | with_reducible refine' ev_op ?_ ?_ ?_ | with_reducible refine' ev_chain2 ?_ ?_ ?_ ?_ ?_ | with_reducible refine' et_B ?_ | with_reducible refine' et_test ?_ | with_reducible refine' et_and2 ?_ ?_ | with_reducible refine' et_or2 ?_ ?_ | with_reducible refine' et_not ?_ | with_reducible refine' ev_call ?_ ?_ | with_reducible refine' ev_callS ?_ ?_ | with_reducible refine' ev_cb ?_ ?_ | with_reducible exact isi_bool (by assumption) | with_reducible exact isi_int (by assumption) | with_reducible exact isi_list (by assumption) | with_reducible exact rc_len (by assumption) | with_reducible exact rc_sum (by assumption) | with_reducible exact rc_abs | with_reducible exact isi_listL (by assumption) | with_reducible exact isi_intI | with_reducible exact isi_boolI | with_reducible exact rc_lenT (by assumption) | with_reducible exact isi_tup (by assumption) | with_reducible exact rv_eqL (by assumption) (by assumption) | with_reducible exact rv_neL (by assumption) (by assumption) | with_reducible exact rv_neT (by assumption) (by assumption) | with_reducible exact rv_ixL (by assumption) (by assumption) | with_reducible exact rv_ixT (by assumption) (by assumption) | with_reducible refine' ev_din ?_ ?_ (by assumption) | with_reducible refine' ev_dnotin ?_ ?_ (by assumption) | with_reducible refine' ev_dget ?_ ?_ (by assumption) (by assumption) | ((with_reducible show SpV _ _ _ _); assumption) | ((with_reducible show RV _ _ _ _ _); assumption) | ((with_reducible show RC _ _ _ _); assumption) | ((with_reducible show CDiv _ _); exact ⟨by omega, by omega⟩) | ((with_reducible show CMul _ _); first | exact .inl ⟨by omega, by omega⟩ | exact .inr ⟨by omega, by omega⟩) | ((with_reducible show CPow _ _); exact ⟨by omega, by omega, by first | decide | assumption | omega⟩) | ((with_reducible show (0 : Int) < _); omega) | ((with_reducible show (0 : Int) ≤ _); omega) | ((with_reducible show scal _ _ = true); rfl)))) fun H5 e5 => ⟨_, _, _, rfl, Row.of ((e0.trans e1).trans e5 _ _ ha), .int _, g _ d q H5 ((e0.trans e1).trans e5)⟩
    rw [if_neg (of_decide_eq_false hb)] at q d
    clear hb
    replace e0 := e0.trans e1
    clear e1
    refine q_when (b := decide (c % 7 = 1)) (by apply et_is; (focus ((repeat' (first | with_reducible exact ev_c | ((with_reducible show Ev (tVar _) _ _ _); exact ev_var rfl) | with_reducible exact ea_nil | with_reducible exact eo_none | with_reducible refine' ea_cons ?_ ?_ | with_reducible refine' eo_some ?_ | with_reducible refine' ev_and2 ?_ ?_ | with_reducible refine' ev_or2 ?_ ?_ | with_reducible refine' ev_notV ?_ | with_reducible exact ru_I | with_reducible refine' ev_un ?_ ?_ | with_reducible exact rv_I0 | with_reducible exact rv_isN | with_reducible exact rv_notN | with_reducible refine' rv_I ?_ | with_reducible refine' rv_eq ?_ | with_reducible refine' rv_ne ?_ | with_reducible refine' ev_op ?_ ?_ ?_ | with_reducible refine' ev_chain2 ?_ ?_ ?_ ?_ ?_ | with_reducible refine' et_B ?_ | with_reducible refine' et_test ?_ | with_reducible refine' et_and2 ?_ ?_ | with_reducible refine' et_or2 ?_ ?_ | with_reducible refine' et_not ?_ | with_reducible refine' ev_call ?_ ?_ | with_reducible refine' ev_callS ?_ ?_ | with_reducible refine' ev_cb ?_ ?_ | with_reducible exact isi_bool (by assumption) | with_reducible exact isi_int (by assumption) | with_reducible exact isi_list (by assumption) | with_reducible exact rc_len (by assumption) | with_reducible exact rc_sum (by assumption) | with_reducible exact rc_abs | with_reducible exact isi_listL (by assumption) | with_reducible exact isi_intI | with_reducible exact isi_boolI | with_reducible exact rc_lenT (by assumption) | with_reducible exact isi_tup (by assumption) | with_reducible exact rv_eqL (by assumption) (by assumption) | with_reducible exact rv_neL (by assumption) (by assumption) | with_reducible exact rv_neT (by assumption) (by assumption) | with_reducible exact rv_ixL (by assumption) (by assumption) | with_reducible exact rv_ixT (by assumption) (by assumption) | with_reducible refine' ev_din ?_ ?_ (by assumption) | with_reducible refine' ev_dnotin ?_ ?_ (by assumption) | with_reducible refine' ev_dget ?_ ?_ (by assumption) (by assumption) | ((with_reducible show SpV _ _ _ _); assumption) | ((with_reducible show RV _ _ _ _ _); assumption) | ((with_reducible show RC _ _ _ _); assumption) | ((with_reducible show CDiv _ _); exact ⟨by omega, by omega⟩) | ((with_reducible show CMul _ _); first | exact .inl ⟨by omega, by omega⟩ | exact .inr ⟨by omega, by omega⟩) | ((with_reducible show CPow _ _); exact ⟨by omega, by omega, by first | decide | assumption | omega⟩) | ((with_reducible show (0 : Int) < _); omega) | ((with_reducible show (0 : Int) ≤ _); omega) | ((with_reducible show scal _ _ = true); rfl))))); exact dec_int.trans (by rw [Bool.eq_iff_iff]; simp)) (fun hb H1 e1 => ?_) (fun hb H1 e1 => ?_)
    · rw [if_pos (of_decide_eq_true hb)] at q d
      exact s_retT (vs := [.ref a, .int (c / 7 % 19 - 9)]) (by (repeat' (first | with_reducible exact ev_c | ((with_reducible show Ev (tVar _) _ _ _); exact ev_var rfl) | with_reducible exact ea_nil | with_reducible exact eo_none | with_reducible refine' ea_cons ?_ ?_ | with_reducible refine' eo_some ?_ | with_reducible refine' ev_and2 ?_ ?_ | with_reducible refine' ev_or2 ?_ ?_ | with_reducible refine' ev_notV ?_ | with_reducible exact ru_I | with_reducible refine' ev_un ?_ ?_ | with_reducible exact rv_I0 | with_reducible exact rv_isN | with_reducible exact rv_notN | with_reducible refine' rv_I ?_ | with_reducible refine' rv_eq ?_ | with_reducible refine' rv_ne ?_ | with_reducible refine' ev_op ?_ ?_ ?_ | with_reducible refine' ev_chain2 ?_ ?_ ?_ ?_ ?_ | with_reducible refine' et_B ?_ | with_reducible refine' et_test ?_ | with_reducible refine' et_and2 ?_ ?_ | with_reducible refine' et_or2 ?_ ?_ | with_reducible refine' et_not ?_ | with_reducible refine' ev_call ?_ ?_ | with_reducible refine' ev_callS ?_ ?_ | with_reducible refine' ev_cb ?_ ?_ | with_reducible exact isi_bool (by assumption) | with_reducible exact isi_int (by assumption) | with_reducible exact isi_list (by assumption) | with_reducible exact rc_len (by assumption) | with_reducible exact rc_sum (by assumption) | with_reducible exact rc_abs | with_reducible exact isi_listL (by assumption) | with_reducible exact isi_intI | with_reducible exact isi_boolI | with_reducible exact rc_lenT (by assumption) | with_reducible exact isi_tup (by assumption) | with_reducible exact rv_eqL (by assumption) (by assumption) | with_reducible exact rv_neL (by assumption) (by assumption) | with_reducible exact rv_neT (by assumption) (by assumption) | with_reducible exact rv_ixL (by assumption) (by assumption) | with_reducible exact rv_ixT (by assumption) (by assumption) | with_reducible refine' ev_din ?_ ?_ (by assumption) | with_reducible refine' ev_dnotin ?_ ?_ (by assumption) | with_reducible refine' ev_dget ?_ ?_ (by assumption) (by assumption) | ((with_reducible show SpV _ _ _ _); assumption) | ((with_reducible show RV _ _ _ _ _); assumption) | ((with_reducible show RC _ _ _ _); assumption) | ((with_reducible show CDiv _ _); exact ⟨by omega, by omega⟩) | ((with_reducible show CMul _ _); first | exact .inl ⟨by omega, by omega⟩ | exact .inr ⟨by omega, by omega⟩) | ((with_reducible show CPow _ _); exact ⟨by omega, by omega, by first | decide | assumption | omega⟩) | ((with_reducible show (0 : Int) < _); omega) | ((with_reducible show (0 : Int) ≤ _); omega) | ((with_reducible show scal _ _ = true); rfl)))) fun H5 e5 => ⟨_, _, _, rfl, Row.of ((e0.trans e1).trans e5 _ _ ha), .int _, g _ d q H5 ((e0.trans e1).trans e5)⟩
    rw [if_neg (of_decide_eq_false hb)] at q d
    clear hb
    replace e0 := e0.trans e1
    clear e1
    refine q_when (b := decide (c % 7 = 2) && decide ((1 : Int) < (n : Int))) (by apply et_is; (focus ((repeat' (first | with_reducible exact ev_c | ((with_reducible show Ev (tVar _) _ _ _); exact ev_var rfl) | with_reducible exact ea_nil | with_reducible exact eo_none | with_reducible refine' ea_cons ?_ ?_ | with_reducible refine' eo_some ?_ | with_reducible refine' ev_and2 ?_ ?_ | with_reducible refine' ev_or2 ?_ ?_ | with_reducible refine' ev_notV ?_ | with_reducible exact ru_I | with_reducible refine' ev_un ?_ ?_ | with_reducible exact rv_I0 | with_reducible exact rv_isN | with_reducible exact rv_notN | with_reducible refine' rv_I ?_ | with_reducible refine' rv_eq ?_ | with_reducible refine' rv_ne ?_ | with_reducible refine' ev_op ?_ ?_ ?_ | with_reducible refine' ev_chain2 ?_ ?_ ?_ ?_ ?_ | with_reducible refine' et_B ?_ | with_reducible refine' et_test ?_ | with_reducible refine' et_and2 ?_ ?_ | with_reducible refine' et_or2 ?_ ?_ | with_reducible refine' et_not ?_ | with_reducible refine' ev_call ?_ ?_ | with_reducible refine' ev_callS ?_ ?_ | with_reducible refine' ev_cb ?_ ?_ | with_reducible exact isi_bool (by assumption) | with_reducible exact isi_int (by assumption) | with_reducible exact isi_list (by assumption) | with_reducible exact rc_len (by assumption) | with_reducible exact rc_sum (by assumption) | with_reducible exact rc_abs | with_reducible exact isi_listL (by assumption) | with_reducible exact isi_intI | with_reducible exact isi_boolI | with_reducible exact rc_lenT (by assumption) | with_reducible exact isi_tup (by assumption) | with_reducible exact rv_eqL (by assumption) (by assumption) | with_reducible exact rv_neL (by assumption) (by assumption) | with_reducible exact rv_neT (by assumption) (by assumption) | with_reducible exact rv_ixL (by assumption) (by assumption) | with_reducible exact rv_ixT (by assumption) (by assumption) | with_reducible refine' ev_din ?_ ?_ (by assumption) | with_reducible refine' ev_dnotin ?_ ?_ (by assumption) | with_reducible refine' ev_dget ?_ ?_ (by assumption) (by assumption) | ((with_reducible show SpV _ _ _ _); assumption) | ((with_reducible show RV _ _ _ _ _); assumption) | ((with_reducible show RC _ _ _ _); assumption) | ((with_reducible show CDiv _ _); exact ⟨by omega, by omega⟩) | ((with_reducible show CMul _ _); first | exact .inl ⟨by omega, by omega⟩ | exact .inr ⟨by omega, by omega⟩) | ((with_reducible show CPow _ _); exact ⟨by omega, by omega, by first | decide | assumption | omega⟩) | ((with_reducible show (0 : Int) < _); omega) | ((with_reducible show (0 : Int) ≤ _); omega) | ((with_reducible show scal _ _ = true); rfl))))); exact congrArg (· && decide ((1 : Int) < (n : Int))) (dec_int.trans (by rw [Bool.eq_iff_iff]; simp))) (fun hb H1 e1 => ?_) (fun hb H1 e1 => ?_)
    · rw [Bool.and_eq_true, decide_eq_true_iff, decide_eq_true_iff] at hb
      have hb3 : c % 7 = 2 ∧ 1 < n := ⟨hb.1, by omega⟩
      rw [if_pos hb3] at q d
      have sb := su_beats (H := H1) (c := c) (n := (n : Int)) hb.2 (by omega)
      refine q_asgU (eu_call (by (repeat' (first | with_reducible exact ev_c | ((with_reducible show Ev (tVar _) _ _ _); exact ev_var rfl) | with_reducible exact ea_nil | with_reducible exact eo_none | with_reducible refine' ea_cons ?_ ?_ | with_reducible refine' eo_some ?_ | with_reducible refine' ev_and2 ?_ ?_ | with_reducible refine' ev_or2 ?_ ?_ | with_reducible refine' ev_notV ?_ | with_reducible exact ru_I | with_reducible refine' ev_un ?_ ?_ | with_reducible exact rv_I0 | with_reducible exact rv_isN | with_reducible exact rv_notN | with_reducible refine' rv_I ?_ | with_reducible refine' rv_eq ?_ | with_reducible refine' rv_ne ?_ | with_reducible refine' ev_op ?_ ?_ ?_ | with_reducible refine' ev_chain2 ?_ ?_ ?_ ?_ ?_ | with_reducible refine' et_B ?_ | with_reducible refine' et_test ?_ | with_reducible refine' et_and2 ?_ ?_ | with_reducible refine' et_or2 ?_ ?_ | with_reducible refine' et_not ?_ | with_reducible refine' ev_call ?_ ?_ | with_reducible refine' ev_callS ?_ ?_ | with_reducible refine' ev_cb ?_ ?_ | with_reducible exact isi_bool (by assumption) | with_reducible exact isi_int (by assumption) | with_reducible exact isi_list (by assumption) | with_reducible exact rc_len (by assumption) | with_reducible exact rc_sum (by assumption) | with_reducible exact rc_abs | with_reducible exact isi_listL (by assumption) | with_reducible exact isi_intI | with_reducible exact isi_boolI | with_reducible exact rc_lenT (by assumption) | with_reducible exact isi_tup (by assumption) | with_reducible exact rv_eqL (by assumption) (by assumption) | with_reducible exact rv_neL (by assumption) (by assumption) | with_reducible exact rv_neT (by assumption) (by assumption) | with_reducible exact rv_ixL (by assumption) (by assumption) | with_reducible exact rv_ixT (by assumption) (by assumption) | with_reducible refine' ev_din ?_ ?_ (by assumption) | with_reducible refine' ev_dnotin ?_ ?_ (by assumption) | with_reducible refine' ev_dget ?_ ?_ (by assumption) (by assumption) | ((with_reducible show SpV _ _ _ _); assumption) | ((with_reducible show RV _ _ _ _ _); assumption) | ((with_reducible show RC _ _ _ _); assumption) | ((with_reducible show CDiv _ _); exact ⟨by omega, by omega⟩) | ((with_reducible show CMul _ _); first | exact .inl ⟨by omega, by omega⟩ | exact .inr ⟨by omega, by omega⟩) | ((with_reducible show CPow _ _); exact ⟨by omega, by omega, by first | decide | assumption | omega⟩) | ((with_reducible show (0 : Int) < _); omega) | ((with_reducible show (0 : Int) ≤ _); omega) | ((with_reducible show scal _ _ = true); rfl)))) sb) fun p H6 hp e6 h6 => ?_
      have st : SqT K H6 p [.int (biI c n), .int (bjI c n)] := st_of h6
      have g0 : atI [V.int (biI c n), .int (bjI c n)] 0 = some (.int (biI c n)) := rfl
      have g1 : atI [V.int (biI c n), .int (bjI c n)] 1 = some (.int (bjI c n)) := rfl
      exact s_retT (vs := [.ref a, .int (biI c n), .int (bjI c n)]) (by (repeat' (first | with_reducible exact ev_c | ((with_reducible show Ev (tVar _) _ _ _); exact ev_var rfl) | with_reducible exact ea_nil | with_reducible exact eo_none | with_reducible refine' ea_cons ?_ ?_ | with_reducible refine' eo_some ?_ | with_reducible refine' ev_and2 ?_ ?_ | with_reducible refine' ev_or2 ?_ ?_ | with_reducible refine' ev_notV ?_ | with_reducible exact ru_I | with_reducible refine' ev_un ?_ ?_ | with_reducible exact rv_I0 | with_reducible exact rv_isN | with_reducible exact rv_notN | with_reducible refine' rv_I ?_ | with_reducible refine' rv_eq ?_ | with_reducible refine' rv_ne ?_ | with_reducible refine' ev_op ?_ ?_ ?_ | with_reducible refine' ev_chain2 ?_ ?_ ?_ ?_ ?_ | with_reducible refine' et_B ?_ | with_reducible refine' et_test ?_ | with_reducible refine' et_and2 ?_ ?_ | with_reducible refine' et_or2 ?_ ?_ | with_reducible refine' et_not ?_ | with_reducible refine' ev_call ?_ ?_ | with_reducible refine' ev_callS ?_ ?_ | with_reducible refine' ev_cb ?_ ?_ | with_reducible exact isi_bool (by assumption) | with_reducible exact isi_int (by assumption) | with_reducible exact isi_list (by assumption) | with_reducible exact rc_len (by assumption) | with_reducible exact rc_sum (by assumption) | with_reducible exact rc_abs | with_reducible exact isi_listL (by assumption) | with_reducible exact isi_intI | with_reducible exact isi_boolI | with_reducible exact rc_lenT (by assumption) | with_reducible exact isi_tup (by assumption) | with_reducible exact rv_eqL (by assumption) (by assumption) | with_reducible exact rv_neL (by assumption) (by assumption) | with_reducible exact rv_neT (by assumption) (by assumption) | with_reducible exact rv_ixL (by assumption) (by assumption) | with_reducible exact rv_ixT (by assumption) (by assumption) | with_reducible refine' ev_din ?_ ?_ (by assumption) | with_reducible refine' ev_dnotin ?_ ?_ (by assumption) | with_reducible refine' ev_dget ?_ ?_ (by assumption) (by assumption) | ((with_reducible show SpV _ _ _ _); assumption) | ((with_reducible show RV _ _ _ _ _); assumption) | ((with_reducible show RC _ _ _ _); assumption) | ((with_reducible show CDiv _ _); exact ⟨by omega, by omega⟩) | ((with_reducible show CMul _ _); first | exact .inl ⟨by omega, by omega⟩ | exact .inr ⟨by omega, by omega⟩) | ((with_reducible show CPow _ _); exact ⟨by omega, by omega, by first | decide | assumption | omega⟩) | ((with_reducible show (0 : Int) < _); omega) | ((with_reducible show (0 : Int) ≤ _); omega) | ((with_reducible show scal _ _ = true); rfl)))) fun H5 e5 => ⟨_, _, _, _, rfl, Row.of (((e0.trans e1).trans e6).trans e5 _ _ ha), .int _, .int _, g _ d q H5 (((e0.trans e1).trans e6).trans e5)⟩
    have hb2 : ¬ (c % 7 = 2 ∧ 1 < n) := fun ⟨z1, z2⟩ => by
      rw [decide_eq_true z1, decide_eq_true (show (1 : Int) < (n : Int) by omega)] at hb
      cases hb
    rw [if_neg hb2] at q d
    clear hb2 hb
    replace e0 := e0.trans e1
    clear e1
    refine q_when (b := decide (c % 7 = 3) && decide ((1 : Int) < (n : Int))) (by apply et_is; (focus ((repeat' (first | with_reducible exact ev_c | ((with_reducible show Ev (tVar _) _ _ _); exact ev_var rfl) | with_reducible exact ea_nil | with_reducible exact eo_none | with_reducible refine' ea_cons ?_ ?_ | with_reducible refine' eo_some ?_ | with_reducible refine' ev_and2 ?_ ?_ | with_reducible refine' ev_or2 ?_ ?_ | with_reducible refine' ev_notV ?_ | with_reducible exact ru_I | with_reducible refine' ev_un ?_ ?_ | with_reducible exact rv_I0 | with_reducible exact rv_isN | with_reducible exact rv_notN | with_reducible refine' rv_I ?_ | with_reducible refine' rv_eq ?_ | with_reducible refine' rv_ne ?_ | with_reducible refine' ev_op ?_ ?_ ?_ | with_reducible refine' ev_chain2 ?_ ?_ ?_ ?_ ?_ | with_reducible refine' et_B ?_ | with_reducible refine' et_test ?_ | with_reducible refine' et_and2 ?_ ?_ | with_reducible refine' et_or2 ?_ ?_ | with_reducible refine' et_not ?_ | with_reducible refine' ev_call ?_ ?_ | with_reducible refine' ev_callS ?_ ?_ | with_reducible refine' ev_cb ?_ ?_ | with_reducible exact isi_bool (by assumption) | with_reducible exact isi_int (by assumption) | with_reducible exact isi_list (by assumption) | with_reducible exact rc_len (by assumption) | with_reducible exact rc_sum (by assumption) | with_reducible exact rc_abs | with_reducible exact isi_listL (by assumption) | with_reducible exact isi_intI | with_reducible exact isi_boolI | with_reducible exact rc_lenT (by assumption) | with_reducible exact isi_tup (by assumption) | with_reducible exact rv_eqL (by assumption) (by assumption) | with_reducible exact rv_neL (by assumption) (by assumption) | with_reducible exact rv_neT (by assumption) (by assumption) | with_reducible exact rv_ixL (by assumption) (by assumption) | with_reducible exact rv_ixT (by assumption) (by assumption) | with_reducible refine' ev_din ?_ ?_ (by assumption) | with_reducible refine' ev_dnotin ?_ ?_ (by assumption) | with_reducible refine' ev_dget ?_ ?_ (by assumption) (by assumption) | ((with_reducible show SpV _ _ _ _); assumption) | ((with_reducible show RV _ _ _ _ _); assumption) | ((with_reducible show RC _ _ _ _); assumption) | ((with_reducible show CDiv _ _); exact ⟨by omega, by omega⟩) | ((with_reducible show CMul _ _); first | exact .inl ⟨by omega, by omega⟩ | exact .inr ⟨by omega, by omega⟩) | ((with_reducible show CPow _ _); exact ⟨by omega, by omega, by first | decide | assumption | omega⟩) | ((with_reducible show (0 : Int) < _); omega) | ((with_reducible show (0 : Int) ≤ _); omega) | ((with_reducible show scal _ _ = true); rfl))))); exact congrArg (· && decide ((1 : Int) < (n : Int))) (dec_int.trans (by rw [Bool.eq_iff_iff]; simp))) (fun hb H1 e1 => ?_) (fun hb H1 e1 => ?_)
    · rw [Bool.and_eq_true, decide_eq_true_iff, decide_eq_true_iff] at hb
      have hb3 : c % 7 = 3 ∧ 1 < n := ⟨hb.1, by omega⟩
      rw [if_pos hb3] at q d
      exact s_retT (vs := [.ref a, .int (c / 7 % (n : Int))]) (by (repeat' (first | with_reducible exact ev_c | ((with_reducible show Ev (tVar _) _ _ _); exact ev_var rfl) | with_reducible exact ea_nil | with_reducible exact eo_none | with_reducible refine' ea_cons ?_ ?_ | with_reducible refine' eo_some ?_ | with_reducible refine' ev_and2 ?_ ?_ | with_reducible refine' ev_or2 ?_ ?_ | with_reducible refine' ev_notV ?_ | with_reducible exact ru_I | with_reducible refine' ev_un ?_ ?_ | with_reducible exact rv_I0 | with_reducible exact rv_isN | with_reducible exact rv_notN | with_reducible refine' rv_I ?_ | with_reducible refine' rv_eq ?_ | with_reducible refine' rv_ne ?_ | with_reducible refine' ev_op ?_ ?_ ?_ | with_reducible refine' ev_chain2 ?_ ?_ ?_ ?_ ?_ | with_reducible refine' et_B ?_ | with_reducible refine' et_test ?_ | with_reducible refine' et_and2 ?_ ?_ | with_reducible refine' et_or2 ?_ ?_ | with_reducible refine' et_not ?_ | with_reducible refine' ev_call ?_ ?_ | with_reducible refine' ev_callS ?_ ?_ | with_reducible refine' ev_cb ?_ ?_ | with_reducible exact isi_bool (by assumption) | with_reducible exact isi_int (by assumption) | with_reducible exact isi_list (by assumption) | with_reducible exact rc_len (by assumption) | with_reducible exact rc_sum (by assumption) | with_reducible exact rc_abs | with_reducible exact isi_listL (by assumption) | with_reducible exact isi_intI | with_reducible exact isi_boolI | with_reducible exact rc_lenT (by assumption) | with_reducible exact isi_tup (by assumption) | with_reducible exact rv_eqL (by assumption) (by assumption) | with_reducible exact rv_neL (by assumption) (by assumption) | with_reducible exact rv_neT (by assumption) (by assumption) | with_reducible exact rv_ixL (by assumption) (by assumption) | with_reducible exact rv_ixT (by assumption) (by assumption) | with_reducible refine' ev_din ?_ ?_ (by assumption) | with_reducible refine' ev_dnotin ?_ ?_ (by assumption) | with_reducible refine' ev_dget ?_ ?_ (by assumption) (by assumption) | ((with_reducible show SpV _ _ _ _); assumption) | ((with_reducible show RV _ _ _ _ _); assumption) | ((with_reducible show RC _ _ _ _); assumption) | ((with_reducible show CDiv _ _); exact ⟨by omega, by omega⟩) | ((with_reducible show CMul _ _); first | exact .inl ⟨by omega, by omega⟩ | exact .inr ⟨by omega, by omega⟩) | ((with_reducible show CPow _ _); exact ⟨by omega, by omega, by first | decide | assumption | omega⟩) | ((with_reducible show (0 : Int) < _); omega) | ((with_reducible show (0 : Int) ≤ _); omega) | ((with_reducible show scal _ _ = true); rfl)))) fun H5 e5 => ⟨_, _, _, rfl, Row.of ((e0.trans e1).trans e5 _ _ ha), .int _, g _ d q H5 ((e0.trans e1).trans e5)⟩
    have hb2 : ¬ (c % 7 = 3 ∧ 1 < n) := fun ⟨z1, z2⟩ => by
      rw [decide_eq_true z1, decide_eq_true (show (1 : Int) < (n : Int) by omega)] at hb
      cases hb
    rw [if_neg hb2] at q d
    clear hb2 hb
    replace e0 := e0.trans e1
    clear e1
    refine q_when (b := decide (c % 7 = 4)) (by apply et_is; (focus ((repeat' (first | with_reducible exact ev_c | ((with_reducible show Ev (tVar _) _ _ _); exact ev_var rfl) | with_reducible exact ea_nil | with_reducible exact eo_none | with_reducible refine' ea_cons ?_ ?_ | with_reducible refine' eo_some ?_ | with_reducible refine' ev_and2 ?_ ?_ | with_reducible refine' ev_or2 ?_ ?_ | with_reducible refine' ev_notV ?_ | with_reducible exact ru_I | with_reducible refine' ev_un ?_ ?_ | with_reducible exact rv_I0 | with_reducible exact rv_isN | with_reducible exact rv_notN | with_reducible refine' rv_I ?_ | with_reducible refine' rv_eq ?_ | with_reducible refine' rv_ne ?_ | with_reducible refine' ev_op ?_ ?_ ?_ | with_reducible refine' ev_chain2 ?_ ?_ ?_ ?_ ?_ | with_reducible refine' et_B ?_ | with_reducible refine' et_test ?_ | with_reducible refine' et_and2 ?_ ?_ | with_reducible refine' et_or2 ?_ ?_ | with_reducible refine' et_not ?_ | with_reducible refine' ev_call ?_ ?_ | with_reducible refine' ev_callS ?_ ?_ | with_reducible refine' ev_cb ?_ ?_ | with_reducible exact isi_bool (by assumption) | with_reducible exact isi_int (by assumption) | with_reducible exact isi_list (by assumption) | with_reducible exact rc_len (by assumption) | with_reducible exact rc_sum (by assumption) | with_reducible exact rc_abs | with_reducible exact isi_listL (by assumption) | with_reducible exact isi_intI | with_reducible exact isi_boolI | with_reducible exact rc_lenT (by assumption) | with_reducible exact isi_tup (by assumption) | with_reducible exact rv_eqL (by assumption) (by assumption) | with_reducible exact rv_neL (by assumption) (by assumption) | with_reducible exact rv_neT (by assumption) (by assumption) | with_reducible exact rv_ixL (by assumption) (by assumption) | with_reducible exact rv_ixT (by assumption) (by assumption) | with_reducible refine' ev_din ?_ ?_ (by assumption) | with_reducible refine' ev_dnotin ?_ ?_ (by assumption) | with_reducible refine' ev_dget ?_ ?_ (by assumption) (by assumption) | ((with_reducible show SpV _ _ _ _); assumption) | ((with_reducible show RV _ _ _ _ _); assumption) | ((with_reducible show RC _ _ _ _); assumption) | ((with_reducible show CDiv _ _); exact ⟨by omega, by omega⟩) | ((with_reducible show CMul _ _); first | exact .inl ⟨by omega, by omega⟩ | exact .inr ⟨by omega, by omega⟩) | ((with_reducible show CPow _ _); exact ⟨by omega, by omega, by first | decide | assumption | omega⟩) | ((with_reducible show (0 : Int) < _); omega) | ((with_reducible show (0 : Int) ≤ _); omega) | ((with_reducible show scal _ _ = true); rfl))))); exact dec_int.trans (by rw [Bool.eq_iff_iff]; simp)) (fun hb H1 e1 => ?_) (fun hb H1 e1 => ?_)
    · rw [if_pos (of_decide_eq_true hb)] at q d
      exact s_retT (vs := [.ref a]) (by (repeat' (first | with_reducible exact ev_c | ((with_reducible show Ev (tVar _) _ _ _); exact ev_var rfl) | with_reducible exact ea_nil | with_reducible exact eo_none | with_reducible refine' ea_cons ?_ ?_ | with_reducible refine' eo_some ?_ | with_reducible refine' ev_and2 ?_ ?_ | with_reducible refine' ev_or2 ?_ ?_ | with_reducible refine' ev_notV ?_ | with_reducible exact ru_I | with_reducible refine' ev_un ?_ ?_ | with_reducible exact rv_I0 | with_reducible exact rv_isN | with_reducible exact rv_notN | with_reducible refine' rv_I ?_ | with_reducible refine' rv_eq ?_ | with_reducible refine' rv_ne ?_ | with_reducible refine' ev_op ?_ ?_ ?_ | with_reducible refine' ev_chain2 ?_ ?_ ?_ ?_ ?_ | with_reducible refine' et_B ?_ | with_reducible refine' et_test ?_ | with_reducible refine' et_and2 ?_ ?_ | with_reducible refine' et_or2 ?_ ?_ | with_reducible refine' et_not ?_ | with_reducible refine' ev_call ?_ ?_ | with_reducible refine' ev_callS ?_ ?_ | with_reducible refine' ev_cb ?_ ?_ | with_reducible exact isi_bool (by assumption) | with_reducible exact isi_int (by assumption) | with_reducible exact isi_list (by assumption) | with_reducible exact rc_len (by assumption) | with_reducible exact rc_sum (by assumption) | with_reducible exact rc_abs | with_reducible exact isi_listL (by assumption) | with_reducible exact isi_intI | with_reducible exact isi_boolI | with_reducible exact rc_lenT (by assumption) | with_reducible exact isi_tup (by assumption) | with_reducible exact rv_eqL (by assumption) (by assumption) | with_reducible exact rv_neL (by assumption) (by assumption) | with_reducible exact rv_neT (by assumption) (by assumption) | with_reducible exact rv_ixL (by assumption) (by assumption) | with_reducible exact rv_ixT (by assumption) (by assumption) | with_reducible refine' ev_din ?_ ?_ (by assumption) | with_reducible refine' ev_dnotin ?_ ?_ (by assumption) | with_reducible refine' ev_dget ?_ ?_ (by assumption) (by assumption) | ((with_reducible show SpV _ _ _ _); assumption) | ((with_reducible show RV _ _ _ _ _); assumption) | ((with_reducible show RC _ _ _ _); assumption) | ((with_reducible show CDiv _ _); exact ⟨by omega, by omega⟩) | ((with_reducible show CMul _ _); first | exact .inl ⟨by omega, by omega⟩ | exact .inr ⟨by omega, by omega⟩) | ((with_reducible show CPow _ _); exact ⟨by omega, by omega, by first | decide | assumption | omega⟩) | ((with_reducible show (0 : Int) < _); omega) | ((with_reducible show (0 : Int) ≤ _); omega) | ((with_reducible show scal _ _ = true); rfl)))) fun H5 e5 => ⟨_, _, rfl, Row.of ((e0.trans e1).trans e5 _ _ ha), g _ d q H5 ((e0.trans e1).trans e5)⟩
    rw [if_neg (of_decide_eq_false hb)] at q d
    clear hb
    replace e0 := e0.trans e1
    clear e1
    refine q_when (b := decide (c % 7 = 5)) (by apply et_is; (focus ((repeat' (first | with_reducible exact ev_c | ((with_reducible show Ev (tVar _) _ _ _); exact ev_var rfl) | with_reducible exact ea_nil | with_reducible exact eo_none | with_reducible refine' ea_cons ?_ ?_ | with_reducible refine' eo_some ?_ | with_reducible refine' ev_and2 ?_ ?_ | with_reducible refine' ev_or2 ?_ ?_ | with_reducible refine' ev_notV ?_ | with_reducible exact ru_I | with_reducible refine' ev_un ?_ ?_ | with_reducible exact rv_I0 | with_reducible exact rv_isN | with_reducible exact rv_notN | with_reducible refine' rv_I ?_ | with_reducible refine' rv_eq ?_ | with_reducible refine' rv_ne ?_ | with_reducible refine' ev_op ?_ ?_ ?_ | with_reducible refine' ev_chain2 ?_ ?_ ?_ ?_ ?_ | with_reducible refine' et_B ?_ | with_reducible refine' et_test ?_ | with_reducible refine' et_and2 ?_ ?_ | with_reducible refine' et_or2 ?_ ?_ | with_reducible refine' et_not ?_ | with_reducible refine' ev_call ?_ ?_ | with_reducible refine' ev_callS ?_ ?_ | with_reducible refine' ev_cb ?_ ?_ | with_reducible exact isi_bool (by assumption) | with_reducible exact isi_int (by assumption) | with_reducible exact isi_list (by assumption) | with_reducible exact rc_len (by assumption) | with_reducible exact rc_sum (by assumption) | with_reducible exact rc_abs | with_reducible exact isi_listL (by assumption) | with_reducible exact isi_intI | with_reducible exact isi_boolI | with_reducible exact rc_lenT (by assumption) | with_reducible exact isi_tup (by assumption) | with_reducible exact rv_eqL (by assumption) (by assumption) | with_reducible exact rv_neL (by assumption) (by assumption) | with_reducible exact rv_neT (by assumption) (by assumption) | with_reducible exact rv_ixL (by assumption) (by assumption) | with_reducible exact rv_ixT (by assumption) (by assumption) | with_reducible refine' ev_din ?_ ?_ (by assumption) | with_reducible refine' ev_dnotin ?_ ?_ (by assumption) | with_reducible refine' ev_dget ?_ ?_ (by assumption) (by assumption) | ((with_reducible show SpV _ _ _ _); assumption) | ((with_reducible show RV _ _ _ _ _); assumption) | ((with_reducible show RC _ _ _ _); assumption) | ((with_reducible show CDiv _ _); exact ⟨by omega, by omega⟩) | ((with_reducible show CMul _ _); first | exact .inl ⟨by omega, by omega⟩ | exact .inr ⟨by omega, by omega⟩) | ((with_reducible show CPow _ _); exact ⟨by omega, by omega, by first | decide | assumption | omega⟩) | ((with_reducible show (0 : Int) < _); omega) | ((with_reducible show (0 : Int) ≤ _); omega) | ((with_reducible show scal _ _ = true); rfl))))); exact dec_int.trans (by rw [Bool.eq_iff_iff]; simp)) (fun hb H1 e1 => ?_) (fun hb H1 e1 => ?_)
    · rw [if_pos (of_decide_eq_true hb)] at q d
      exact s_retT (vs := [.ref a, .int (c / 7 % 19 - 9)]) (by (repeat' (first | with_reducible exact ev_c | ((with_reducible show Ev (tVar _) _ _ _); exact ev_var rfl) | with_reducible exact ea_nil | with_reducible exact eo_none | with_reducible refine' ea_cons ?_ ?_ | with_reducible refine' eo_some ?_ | with_reducible refine' ev_and2 ?_ ?_ | with_reducible refine' ev_or2 ?_ ?_ | with_reducible refine' ev_notV ?_ | with_reducible exact ru_I | with_reducible refine' ev_un ?_ ?_ | with_reducible exact rv_I0 | with_reducible exact rv_isN | with_reducible exact rv_notN | with_reducible refine' rv_I ?_ | with_reducible refine' rv_eq ?_ | with_reducible refine' rv_ne ?_ | with_reducible refine' ev_op ?_ ?_ ?_ | with_reducible refine' ev_chain2 ?_ ?_ ?_ ?_ ?_ | with_reducible refine' et_B ?_ | with_reducible refine' et_test ?_ | with_reducible refine' et_and2 ?_ ?_ | with_reducible refine' et_or2 ?_ ?_ | with_reducible refine' et_not ?_ | with_reducible refine' ev_call ?_ ?_ | with_reducible refine' ev_callS ?_ ?_ | with_reducible refine' ev_cb ?_ ?_ | with_reducible exact isi_bool (by assumption) | with_reducible exact isi_int (by assumption) | with_reducible exact isi_list (by assumption) | with_reducible exact rc_len (by assumption) | with_reducible exact rc_sum (by assumption) | with_reducible exact rc_abs | with_reducible exact isi_listL (by assumption) | with_reducible exact isi_intI | with_reducible exact isi_boolI | with_reducible exact rc_lenT (by assumption) | with_reducible exact isi_tup (by assumption) | with_reducible exact rv_eqL (by assumption) (by assumption) | with_reducible exact rv_neL (by assumption) (by assumption) | with_reducible exact rv_neT (by assumption) (by assumption) | with_reducible exact rv_ixL (by assumption) (by assumption) | with_reducible exact rv_ixT (by assumption) (by assumption) | with_reducible refine' ev_din ?_ ?_ (by assumption) | with_reducible refine' ev_dnotin ?_ ?_ (by assumption) | with_reducible refine' ev_dget ?_ ?_ (by assumption) (by assumption) | ((with_reducible show SpV _ _ _ _); assumption) | ((with_reducible show RV _ _ _ _ _); assumption) | ((with_reducible show RC _ _ _ _); assumption) | ((with_reducible show CDiv _ _); exact ⟨by omega, by omega⟩) | ((with_reducible show CMul _ _); first | exact .inl ⟨by omega, by omega⟩ | exact .inr ⟨by omega, by omega⟩) | ((with_reducible show CPow _ _); exact ⟨by omega, by omega, by first | decide | assumption | omega⟩) | ((with_reducible show (0 : Int) < _); omega) | ((with_reducible show (0 : Int) ≤ _); omega) | ((with_reducible show scal _ _ = true); rfl)))) fun H5 e5 => ⟨_, _, _, rfl, Row.of ((e0.trans e1).trans e5 _ _ ha), .int _, g _ d q H5 ((e0.trans e1).trans e5)⟩
    rw [if_neg (of_decide_eq_false hb)] at q d
    clear hb
    replace e0 := e0.trans e1
    clear e1
    exact s_ret (v := .ref a) (by (repeat' (first | with_reducible exact ev_c | ((with_reducible show Ev (tVar _) _ _ _); exact ev_var rfl) | with_reducible exact ea_nil | with_reducible exact eo_none | with_reducible refine' ea_cons ?_ ?_ | with_reducible refine' eo_some ?_ | with_reducible refine' ev_and2 ?_ ?_ | with_reducible refine' ev_or2 ?_ ?_ | with_reducible refine' ev_notV ?_ | with_reducible exact ru_I | with_reducible refine' ev_un ?_ ?_ | with_reducible exact rv_I0 | with_reducible exact rv_isN | with_reducible exact rv_notN | with_reducible refine' rv_I ?_ | with_reducible refine' rv_eq ?_ | with_reducible refine' rv_ne ?_ | with_reducible refine' ev_op ?_ ?_ ?_ | with_reducible refine' ev_chain2 ?_ ?_ ?_ ?_ ?_ | with_reducible refine' et_B ?_ | with_reducible refine' et_test ?_ | with_reducible refine' et_and2 ?_ ?_ | with_reducible refine' et_or2 ?_ ?_ | with_reducible refine' et_not ?_ | with_reducible refine' ev_call ?_ ?_ | with_reducible refine' ev_callS ?_ ?_ | with_reducible refine' ev_cb ?_ ?_ | with_reducible exact isi_bool (by assumption) | with_reducible exact isi_int (by assumption) | with_reducible exact isi_list (by assumption) | with_reducible exact rc_len (by assumption) | with_reducible exact rc_sum (by assumption) | with_reducible exact rc_abs | with_reducible exact isi_listL (by assumption) | with_reducible exact isi_intI | with_reducible exact isi_boolI | with_reducible exact rc_lenT (by assumption) | with_reducible exact isi_tup (by assumption) | with_reducible exact rv_eqL (by assumption) (by assumption) | with_reducible exact rv_neL (by assumption) (by assumption) | with_reducible exact rv_neT (by assumption) (by assumption) | with_reducible exact rv_ixL (by assumption) (by assumption) | with_reducible exact rv_ixT (by assumption) (by assumption) | with_reducible refine' ev_din ?_ ?_ (by assumption) | with_reducible refine' ev_dnotin ?_ ?_ (by assumption) | with_reducible refine' ev_dget ?_ ?_ (by assumption) (by assumption) | ((with_reducible show SpV _ _ _ _); assumption) | ((with_reducible show RV _ _ _ _ _); assumption) | ((with_reducible show RC _ _ _ _); assumption) | ((with_reducible show CDiv _ _); exact ⟨by omega, by omega⟩) | ((with_reducible show CMul _ _); first | exact .inl ⟨by omega, by omega⟩ | exact .inr ⟨by omega, by omega⟩) | ((with_reducible show CPow _ _); exact ⟨by omega, by omega, by first | decide | assumption | omega⟩) | ((with_reducible show (0 : Int) < _); omega) | ((with_reducible show (0 : Int) ≤ _); omega) | ((with_reducible show scal _ _ = true); rfl)))) fun H5 e5 => q a H5 (.inr rfl) (e0.trans e5) ((e0.trans e5) _ _ ha)

end TB

/-! ### the law k15: changes beyond the bounds -/
namespace TB
open PySem PySem.Spec PyProof.Rows L2 Evl
section
variable {K : PySem.W.Frag} {σ : L2.St} {H H' : Hp} {t1 t2 te tl : TE} {ta : TA} {tu tz : TS} {g : TG} {D : Ends}
/-- a for over a list that is made on the way, known by a word -/
theorem q_forD {R : List V → Hp → Prop} (h : ∀ Q : VK, (∀ p xs H2, Ex H H2 → H2 p = some (.lst xs) → R xs H2 → Q (.ref p) H2) → te σ H Q)
    (Pv : Hp → Nat → L2.St → Hp → Prop) (h0 : ∀ HB, Ex H HB → Pv HB 0 σ HB) (hk : ∀ HB i σ' H', Pv HB i σ' H' → Ex HB H')
    (hs : ∀ HB xs i x σ' H', Ex H HB → R xs HB → xs[i]? = some x → Pv HB i σ' H' → g x σ' H' fun σ2 H2 => tu { D with nx := Pv HB (i + 1), ct := Pv HB (i + 1), bk := tz D } σ2 H2)
    (hd : ∀ HB i σ' H', Ex H HB → Pv HB i σ' H' → tz D σ' H') : tSeq (tFor (iList K te) g tu) tz D σ H :=
  h _ fun p xs H2 e h2 r => ⟨p, rfl, ⟨xs, sq_of h2⟩, for_list (D := { D with nx := tz D }) (Pv H2) (h0 H2 e) (fun i σ' H' _ q => sq_of (hk _ _ _ _ q _ _ h2)) (fun i x σ' H' hi q => hs H2 xs i x σ' H' e r hi q) (fun σ' H' q => hd H2 _ σ' H' e q)⟩
end
theorem exm_oob {K : PySem.W.Frag} {mg : Str → Option Value} (T : TXT K mg) : PySem.W.exmOne K (.ref (He.ga K "OutOfBounds")) (.ref (He.ga K "OutOfBounds")) = some true := He.exm_ok (T.fact 54)
def oneone : Option (List V) := some ([(1 : Int), 1].map V.int)
def FarS (s : Sim) : Prop := s.done oneone = .err "OutOfBounds" ∧ s.undo.done oneone = .err "OutOfBounds"
/-- refuses (1, 1) -/
def sp_oob (K : PySem.W.Frag) (v : V) : Sp := fun vs H Q E => ∃ pt, vs = [v, .ref pt] ∧ H pt = some (.lst ([(1 : Int), 1].map V.int)) ∧ ∀ H2, Ex H H2 → E (.ref (He.ga K "OutOfBounds")) none H2
theorem oob_of {P : Program} {w : World} {K : PySem.W.Frag} {mg : Str → Option Value} {base : Heap} {F : Fam} {k : Nat} {H : Hp} {v : V} {c : F.I} (h : HasM P w K mg base k H v "done" (sp_done K F v c)) (hc : F.done c oneone = .err "OutOfBounds") : HasM P w K mg base k H v "done" (sp_oob K v) := by
  obtain ⟨a, C, dx, fs, sp', h1, h2, h3, h4, h5⟩ := h
  refine ⟨a, C, dx, fs, sp', h1, h2, h3, h4, fun vs H1 Q E e ⟨pt, ev, hp, g⟩ => h5 vs H1 Q E e ⟨.ref pt, oneone, ev, Row.of hp, ?_⟩⟩
  rw [hc]
  exact g
theorem far_row {K : PySem.W.Frag} {s : Sim} (h : FarS s) : rowDone (simF K) [s.undo, s] oneone = .err "OutOfBounds" := by
  show goRe _ (goRe ((simF K).done s.undo) (Sim.done .plain oneone)) = _
  have e : Sim.done .plain oneone = .lst ([(1 : Int), 1].map V.int) := by
    exact door_pat (f := fun ns => .lst (ns.map V.int)) (ns := [1, 1]) ⟨by decide, by decide, fun n hn => by simp at hn; omega⟩ (by decide)
  rw [e]
  show goRe _ (Sim.done s.undo oneone) = _
  rw [h.2]
  rfl
def sp_far (K : PySem.W.Frag) : Sp := fun vs H Q E => ∃ v s p, vs = [v] ∧ SimAt K p H v s ∧ s.can ∧ FarS s ∧ RetV (.bl true) H Q
theorem sc__law_far_right : FnScope ["_law_far", "_law_undoing", "_law_one", "_law_refused"] ["_law_far"] (defScope s__law_far_right) := ⟨rfl, rfl, rfl, by decide +kernel, rfl, by decide +kernel, by decide +kernel⟩
theorem ok__law_far_right {P : Program} {w : World} {K : PySem.W.Frag} {mg : Str → Option Value} {base : Heap} (T : TXT K mg) : OK P w K mg base "_law_far_right" ["_law_far"] 12 (sp_far K) := by
  have I_Changes := oki_Changes (P := P) (w := w) (base := base) T
  obtain ⟨fd, F⟩ := T.def_ 48
  refine ⟨_, fd, T.glo 25, F.kp, F.bindsN (fun _ _ _ _ _ _ us hl => match us, hl with | [_], _ => rfl), F.ok sc__law_far_right (fun vs H Q E h => ?_) (fun cdv A outer s H vs Q E hr h => ?_), F.bindsA (fun _ _ _ _ _ _ us hl => match us, hl with | [_], _ => rfl)⟩
  · first | (obtain ⟨rfl, _⟩ := h; rfl) | (obtain ⟨_, rfl, _⟩ := h; rfl) | (obtain ⟨_, _, rfl, _⟩ := h; rfl) | (obtain ⟨_, _, _, rfl, _⟩ := h; rfl) | (obtain ⟨_, _, _, _, rfl, _⟩ := h; rfl) | (obtain ⟨_, _, _, _, _, rfl, _⟩ := h; rfl) | (obtain ⟨_, _, _, _, _, _, rfl, _⟩ := h; rfl) | (obtain ⟨_, _, _, _, _, _, _, rfl, _⟩ := h; rfl) | (obtain ⟨_, _, _, _, _, _, _, _, rfl, _⟩ := h; rfl)
  · replace F : FunD K "_law_far_right" "_law_far_right" (defArgs s__law_far_right) (defBody s__law_far_right) (defScope s__law_far_right) [] [] (He.ga K "_law_far_right") fd := F
    refine ⟨_, (pss_cons (ps_set (i := 1) sc__law_far_right.nd rfl (Or.inl rfl) (pe_methD0 (P := P) (w := w) (K := K) (mg := mg) (base := base) (k := 10) (pv 0) (hr.mono (by first | decide | omega)) (passes_call (takes_of rfl rfl rfl rfl) (fun _ _ _ _ h => h))))
      (pss_cons (ps_if (pt_not (pt_val (pe_callB (id := "isinstance") (k_isi K) (by rfl) (T.free 42) (by decide +kernel) (pa_cons (pv 1) (pa_cons (pe_cls (T.glo 31)) pa_nil)))))
        (pss_one (ps_ret pe_bl))
        pss_nil)
      (pss_cons (ps_for (passes_of rfl) rfl (k_piL K (pe_lst (pa_cons (pv 0) (pa_cons (pv 1) (pa_cons (pe_mkI I_Changes (hr.mono (by first | decide | omega)) (by rfl) (passes_call (takes_of rfl rfl rfl rfl) (fun _ _ _ _ h => h)) (pa_cons (pe_lst (pa_cons (pv 1) (pa_cons (pv 0) pa_nil))) pa_nil)) pa_nil))))) (pg_name (i := 2) sc__law_far_right.nd rfl (Or.inl rfl))
        (pss_cons (ps_set (i := 3) sc__law_far_right.nd rfl (Or.inl rfl) pe_bl)
      (pss_cons (ps_try_only rfl rfl ⟨rfl, by decide, .inl (T.glo 29)⟩ (takes_of rfl rfl rfl rfl) (fun W pn xe tk hp => (pss_one (ps_expr (pe_methDS (P := P) (w := w) (K := K) (mg := mg) (base := base) (k := 10) (pv 2) (hr.mono (by first | decide | omega)) (fun σ => passAt tk σ) (pa_cons (pe_lst (pa_cons pe_int (pa_cons pe_int pa_nil))) pa_nil)))))
        (fun a oe cls d pn hz hf => (pss_one (ps_set (i := 3) sc__law_far_right.nd rfl (Or.inl rfl) pe_bl))))
      (pss_one (ps_if (pt_not (pt_val (pv 3)))
        (pss_one (ps_ret pe_bl))
        pss_nil)))))
      (pss_one (ps_ret pe_bl))))), ?_⟩
    obtain ⟨v, s, p, rfl, hv, hc, hf, q⟩ := h
    dsimp only [cxOf, L2.start, List.map_cons, List.map_nil, List.length_cons, List.length_nil, Nat.reduceAdd, Nat.reduceSub, List.replicate_succ, List.replicate_zero, List.cons_append, List.nil_append, Nat.zero_add, List.reduceReplicate, List.map]
    have F1 : FamOk P w K mg base (simF K) (8+1) := sim_ok T
    have F2 : FamOk P w K mg base (rowF K (simF K)) 10 := row_ok T (j := 8) (by omega) F1
    refine t_meth (vs := []) ((F1.undone hv).up (by omega)) (ev_var rfl) (fun _ _ => ea_nil) fun H0 e0 => ⟨rfl, hc, fun u H1 e1 hu => ?_⟩
    have e01 := e0.trans e1
    have hv1 := F1.mono e01 hv
    dsimp only [List.set]
    refine q_when (b := !true) (et_not (et_B (ev_isO T (ev_var rfl) (SimAt.obj hu)))) (fun h => by cases h) (fun _ H2 e2 => ?_)
    have hv2 : SimAt K p H2 v s := F1.mono e2 hv1
    have hu2 : SimAt K _ H2 u s.undo := F1.mono e2 hu
    refine q_forD (R := fun xs H' => ∀ x ∈ xs, HasM P w K mg base 10 H' x "done" (sp_oob K x)) (fun Q2 kQ => ?_) (fun HB i σ' H' => ∃ y z, σ' = [some v, some u, y, z] ∧ Ex HB H') (fun HB e => ⟨_, _, rfl, Ex.refl HB⟩) (fun HB i σ' H' ⟨_, _, _, e⟩ => e) ?_ ?_
    · show tCons (tVar 0) (tCons (tVar 1) (tCons _ tNil)) _ H2 _
      refine (ev_var (i := 0) rfl) H2 (Ex.refl H2) _ fun H3 e3 => ?_
      show tCons (tVar 1) (tCons _ tNil) _ H3 _
      refine (ev_var (i := 1) rfl) H3 (Ex.refl H3) _ fun H4 e4 => ?_
      show tCons (tMake _ _ _ _ _) tNil _ H4 _
      refine makeR (fun xs H' => xs = [u, v]) (fun _ _ _ _ h => h) (fun P2 kP => ?_) (fun x dx l xs H5 e5 hx hl hne h1 h2 hxs => ⟨sz_of (by simp), fun r hr => ?_⟩)
      · exact (el_lst (vs := [u, v]) (ea_cons (ev_var (i := 1) rfl) (ea_cons (ev_var (i := 0) rfl) ea_nil)) (by simp)) H4 (Ex.refl H4) _ fun r H5 hr e5 h5 => kP r _ H5 e5 h5 rfl
      subst hxs
      have e25 := (e3.trans e4).trans e5
      have e26 := e25.trans (Ex.new (o := .lst [v, u, .ref x]) hr)
      have n1 : x ≠ r := fun z => by rw [z, hr] at h1; cases h1
      have n2 : l ≠ r := fun z => by rw [z, hr] at h2; cases h2
      refine kQ r _ _ e26 upd_same fun y hy => ?_
      have hv6 := F1.mono e26 hv2
      have hu6 := F1.mono e26 hu2
      rcases List.mem_cons.mp hy with rfl | hy
      · exact (oob_of (F1.done hv6) hf.1).up (by omega)
      rcases List.mem_cons.mp hy with rfl | hy
      · exact (oob_of (F1.done hu6) hf.2).up (by omega)
      rcases List.mem_cons.mp hy with rfl | hy
      · refine oob_of (F2.done (p := fun _ => True) (c := .inr [s.undo, s]) ?_) (far_row hf)
        refine ⟨x, dx, l, [u, v], rfl, True.intro, True.intro, by rw [upd_ne n1]; exact h1, by rw [upd_ne n2]; exact h2, ⟨rfl, fun i w2 c g1 g2 => ?_⟩, (show (2 : Nat) ≤ 40 by decide)⟩
        match i, g1, g2 with
        | 0, g1, g2 => cases g1; cases g2; exact hu6.imp fun _ _ _ _ => True.intro
        | 1, g1, g2 => cases g1; cases g2; exact hv6.imp fun _ _ _ _ => True.intro
      · cases hy
    · rintro HB xs i x σ' H' eB hR hi ⟨y, z, rfl, e⟩
      have hx := (hR x (List.mem_of_getElem? hi)).mono e
      refine q_asg (v := .bl false) (by (repeat' (first | with_reducible exact ev_c | ((with_reducible show Ev (tVar _) _ _ _); exact ev_var rfl) | with_reducible exact ea_nil | with_reducible exact eo_none | with_reducible refine' ea_cons ?_ ?_ | with_reducible refine' eo_some ?_ | with_reducible refine' ev_and2 ?_ ?_ | with_reducible refine' ev_or2 ?_ ?_ | with_reducible refine' ev_notV ?_ | with_reducible exact ru_I | with_reducible refine' ev_un ?_ ?_ | with_reducible exact rv_I0 | with_reducible exact rv_isN | with_reducible exact rv_notN | with_reducible refine' rv_I ?_ | with_reducible refine' rv_eq ?_ | with_reducible refine' rv_ne ?_ | with_reducible refine' ev_op ?_ ?_ ?_ | with_reducible refine' ev_chain2 ?_ ?_ ?_ ?_ ?_ | with_reducible refine' et_B ?_ | with_reducible refine' et_test ?_ | with_reducible refine' et_and2 ?_ ?_ | with_reducible refine' et_or2 ?_ ?_ | with_reducible refine' et_not ?_ | with_reducible refine' ev_call ?_ ?_ | with_reducible refine' ev_callS ?_ ?_ | with_reducible refine' ev_cb ?_ ?_ | with_reducible exact isi_bool (by assumption) | with_reducible exact isi_int (by assumption) | with_reducible exact isi_list (by assumption) | with_reducible exact rc_len (by assumption) | with_reducible exact rc_sum (by assumption) | with_reducible exact rc_abs | with_reducible exact isi_listL (by assumption) | with_reducible exact isi_intI | with_reducible exact isi_boolI | with_reducible exact rc_lenT (by assumption) | with_reducible exact isi_tup (by assumption) | with_reducible exact rv_eqL (by assumption) (by assumption) | with_reducible exact rv_neL (by assumption) (by assumption) | with_reducible exact rv_neT (by assumption) (by assumption) | with_reducible exact rv_ixL (by assumption) (by assumption) | with_reducible exact rv_ixT (by assumption) (by assumption) | with_reducible refine' ev_din ?_ ?_ (by assumption) | with_reducible refine' ev_dnotin ?_ ?_ (by assumption) | with_reducible refine' ev_dget ?_ ?_ (by assumption) (by assumption) | ((with_reducible show SpV _ _ _ _); assumption) | ((with_reducible show RV _ _ _ _ _); assumption) | ((with_reducible show RC _ _ _ _); assumption) | ((with_reducible show CDiv _ _); exact ⟨by omega, by omega⟩) | ((with_reducible show CMul _ _); first | exact .inl ⟨by omega, by omega⟩ | exact .inr ⟨by omega, by omega⟩) | ((with_reducible show CPow _ _); exact ⟨by omega, by omega, by first | decide | assumption | omega⟩) | ((with_reducible show (0 : Int) < _); omega) | ((with_reducible show (0 : Int) ≤ _); omega) | ((with_reducible show scal _ _ = true); rfl)))) fun H3 e3 => ?_
      change tDrop _ _ _ _
      refine t_methS (sp := sp_oob K x) (R := fun vs H' => ∃ pt, vs = [.ref pt] ∧ H' pt = some (.lst ([(1 : Int), 1].map V.int))) (hx.mono e3) (ev_var rfl) (fun H4 e4 Q3 k3 => ?_) (fun vs H4 e4 ⟨pt, ev, hp⟩ => ⟨pt, by rw [ev], hp, fun H5 e5 => ⟨true, exm_oob T, fun _ x hx => ?_, fun h => nomatch h⟩⟩)
      · exact (el_lst (vs := [.int 1, .int 1]) (ea_cons ev_c (ea_cons ev_c ea_nil)) (by simp)) H4 (Ex.refl H4) _ fun r H5 hr e5 h5 => k3 _ H5 e5 ⟨r, rfl, h5⟩
      refine s_asg (v := .bl true) ev_c fun H6 e6 => ?_
      dsimp only
      refine s_when (b := !true) (by (repeat' (first | with_reducible exact ev_c | ((with_reducible show Ev (tVar _) _ _ _); exact ev_var rfl) | with_reducible exact ea_nil | with_reducible exact eo_none | with_reducible refine' ea_cons ?_ ?_ | with_reducible refine' eo_some ?_ | with_reducible refine' ev_and2 ?_ ?_ | with_reducible refine' ev_or2 ?_ ?_ | with_reducible refine' ev_notV ?_ | with_reducible exact ru_I | with_reducible refine' ev_un ?_ ?_ | with_reducible exact rv_I0 | with_reducible exact rv_isN | with_reducible exact rv_notN | with_reducible refine' rv_I ?_ | with_reducible refine' rv_eq ?_ | with_reducible refine' rv_ne ?_ | with_reducible refine' ev_op ?_ ?_ ?_ | with_reducible refine' ev_chain2 ?_ ?_ ?_ ?_ ?_ | with_reducible refine' et_B ?_ | with_reducible refine' et_test ?_ | with_reducible refine' et_and2 ?_ ?_ | with_reducible refine' et_or2 ?_ ?_ | with_reducible refine' et_not ?_ | with_reducible refine' ev_call ?_ ?_ | with_reducible refine' ev_callS ?_ ?_ | with_reducible refine' ev_cb ?_ ?_ | with_reducible exact isi_bool (by assumption) | with_reducible exact isi_int (by assumption) | with_reducible exact isi_list (by assumption) | with_reducible exact rc_len (by assumption) | with_reducible exact rc_sum (by assumption) | with_reducible exact rc_abs | with_reducible exact isi_listL (by assumption) | with_reducible exact isi_intI | with_reducible exact isi_boolI | with_reducible exact rc_lenT (by assumption) | with_reducible exact isi_tup (by assumption) | with_reducible exact rv_eqL (by assumption) (by assumption) | with_reducible exact rv_neL (by assumption) (by assumption) | with_reducible exact rv_neT (by assumption) (by assumption) | with_reducible exact rv_ixL (by assumption) (by assumption) | with_reducible exact rv_ixT (by assumption) (by assumption) | with_reducible refine' ev_din ?_ ?_ (by assumption) | with_reducible refine' ev_dnotin ?_ ?_ (by assumption) | with_reducible refine' ev_dget ?_ ?_ (by assumption) (by assumption) | ((with_reducible show SpV _ _ _ _); assumption) | ((with_reducible show RV _ _ _ _ _); assumption) | ((with_reducible show RC _ _ _ _); assumption) | ((with_reducible show CDiv _ _); exact ⟨by omega, by omega⟩) | ((with_reducible show CMul _ _); first | exact .inl ⟨by omega, by omega⟩ | exact .inr ⟨by omega, by omega⟩) | ((with_reducible show CPow _ _); exact ⟨by omega, by omega, by first | decide | assumption | omega⟩) | ((with_reducible show (0 : Int) < _); omega) | ((with_reducible show (0 : Int) ≤ _); omega) | ((with_reducible show scal _ _ = true); rfl)))) (fun h => by cases h) (fun _ H7 e7 => ⟨_, _, rfl, ((((e.trans e3).trans e4).trans e5).trans e6).trans e7⟩)
    · rintro HB i σ' H' eB ⟨y, z, rfl, e⟩
      exact s_ret (v := .bl true) (by (repeat' (first | with_reducible exact ev_c | ((with_reducible show Ev (tVar _) _ _ _); exact ev_var rfl) | with_reducible exact ea_nil | with_reducible exact eo_none | with_reducible refine' ea_cons ?_ ?_ | with_reducible refine' eo_some ?_ | with_reducible refine' ev_and2 ?_ ?_ | with_reducible refine' ev_or2 ?_ ?_ | with_reducible refine' ev_notV ?_ | with_reducible exact ru_I | with_reducible refine' ev_un ?_ ?_ | with_reducible exact rv_I0 | with_reducible exact rv_isN | with_reducible exact rv_notN | with_reducible refine' rv_I ?_ | with_reducible refine' rv_eq ?_ | with_reducible refine' rv_ne ?_ | with_reducible refine' ev_op ?_ ?_ ?_ | with_reducible refine' ev_chain2 ?_ ?_ ?_ ?_ ?_ | with_reducible refine' et_B ?_ | with_reducible refine' et_test ?_ | with_reducible refine' et_and2 ?_ ?_ | with_reducible refine' et_or2 ?_ ?_ | with_reducible refine' et_not ?_ | with_reducible refine' ev_call ?_ ?_ | with_reducible refine' ev_callS ?_ ?_ | with_reducible refine' ev_cb ?_ ?_ | with_reducible exact isi_bool (by assumption) | with_reducible exact isi_int (by assumption) | with_reducible exact isi_list (by assumption) | with_reducible exact rc_len (by assumption) | with_reducible exact rc_sum (by assumption) | with_reducible exact rc_abs | with_reducible exact isi_listL (by assumption) | with_reducible exact isi_intI | with_reducible exact isi_boolI | with_reducible exact rc_lenT (by assumption) | with_reducible exact isi_tup (by assumption) | with_reducible exact rv_eqL (by assumption) (by assumption) | with_reducible exact rv_neL (by assumption) (by assumption) | with_reducible exact rv_neT (by assumption) (by assumption) | with_reducible exact rv_ixL (by assumption) (by assumption) | with_reducible exact rv_ixT (by assumption) (by assumption) | with_reducible refine' ev_din ?_ ?_ (by assumption) | with_reducible refine' ev_dnotin ?_ ?_ (by assumption) | with_reducible refine' ev_dget ?_ ?_ (by assumption) (by assumption) | ((with_reducible show SpV _ _ _ _); assumption) | ((with_reducible show RV _ _ _ _ _); assumption) | ((with_reducible show RC _ _ _ _); assumption) | ((with_reducible show CDiv _ _); exact ⟨by omega, by omega⟩) | ((with_reducible show CMul _ _); first | exact .inl ⟨by omega, by omega⟩ | exact .inr ⟨by omega, by omega⟩) | ((with_reducible show CPow _ _); exact ⟨by omega, by omega, by first | decide | assumption | omega⟩) | ((with_reducible show (0 : Int) < _); omega) | ((with_reducible show (0 : Int) ≤ _); omega) | ((with_reducible show scal _ _ = true); rfl)))) fun H5 e5 => q H5 ((((e01.trans e2).trans eB).trans e).trans e5)

end TB

/-! ### the law k15 -/
namespace TB
open PySem PySem.Spec PyProof.Rows L2 Evl
section
variable {P : Program} {w : World} {K : PySem.W.Frag} {mg : Str → Option Value} {base : Heap} {F : Fam} {k : Nat} {p p' : Addr → Prop} {H H' : Hp} {v z : V} {c : F.I} {σ : L2.St} {ta tb te : TE} {t : TA} {tz : TS} {m : Str} {sp : Sp} {vs : List V} {E : XK} {Q : VK} {D : Ends} {x : Str}
theorem q_te {i : Nat} (h : te σ H fun v H' => tz D (σ.set i (some v)) H') : tSeq (tAsg te (gName i)) tz D σ H := h
theorem t_consX {tr : TA} {Q : List V → Hp → Prop} (h : te σ H fun x H1 => tr σ H1 fun xs H2 => Q (x :: xs) H2) : tCons te tr σ H Q := h
theorem t_lstX (h : t σ H fun xs H1 => xs.length ≤ sizeLine ∧ ∀ p, H1 p = none → Q (.ref p) (upd H1 p (.lst xs))) : tLst t σ H Q := h
theorem t_callX {dvs : List V} (h : EvA t σ H vs) (k : ∀ H1, Ex H H1 → sp (vs ++ dvs) H1 Q E) : tCall sp dvs E t σ H Q := h H (Ex.refl H) _ fun H1 e1 => k H1 e1
theorem q_callX {dvs : List V} {i : Nat} (h : EvA t σ H vs) (k : ∀ H1, Ex H H1 → sp (vs ++ dvs) H1 (fun v H2 => tz D (σ.set i (some v)) H2) E) : tSeq (tAsg (tCall sp dvs E t) (gName i)) tz D σ H := h H (Ex.refl H) _ fun H1 e1 => k H1 e1
theorem s_callX {dvs : List V} {i : Nat} (h : EvA t σ H vs) (k : ∀ H1, Ex H H1 → sp (vs ++ dvs) H1 (fun v H2 => D.nx (σ.set i (some v)) H2) E) : tAsg (tCall sp dvs E t) (gName i) D σ H := h H (Ex.refl H) _ fun H1 e1 => k H1 e1
theorem s_clearE {l : Addr} {xs : List V} (h : Ev te σ H (.ref l)) (hl : H l = some (.lst xs)) (k : ∀ H1, Ex H H1 → D.nx σ (upd H1 l (.lst []))) : tDrop (tBM0 K "list" rClear te) D σ H :=
  h H (Ex.refl H) _ fun H1 e1 => ⟨.inl ⟨rfl, _, sq_of (e1 _ _ hl)⟩, l, _, rfl, rfl, e1 _ _ hl, k H1 e1⟩
theorem q_clearE {l : Addr} {xs : List V} (h : Ev te σ H (.ref l)) (hl : H l = some (.lst xs)) (k : ∀ H1, Ex H H1 → tz D σ (upd H1 l (.lst []))) : tSeq (tDrop (tBM0 K "list" rClear te)) tz D σ H :=
  s_clearE (D := { D with nx := tz D }) h hl k
/-- .. done(a list), a new list -/
theorem el_done {a : Addr} {ns ms : List Int} (h : HasM P w K mg base k H v "done" (sp_done K F v c)) (ha : Ev ta σ H v) (hv : Ev tb σ H (.ref a)) (hp : H a = some (.lst (ns.map V.int))) (hd : F.done c (some (ns.map V.int)) = .lst (ms.map V.int)) :
    EvL (tMethD P w K mg base k "done" E ta (tCons tb tNil)) σ H (ms.map V.int) := fun H1 e Q q =>
  t_meth (vs := [.ref a]) (h.mono e) (ha.mono e) (fun H2 e2 => ea_cons (hv.mono (e.trans e2)) ea_nil) fun H2 e2 => ⟨.ref a, _, rfl, Row.of ((e.trans e2) _ _ hp), by
    rw [hd]
    exact fun r H3 hr e3 h3 => q r H3 (fresh_back e2 hr) (e2.trans e3) h3⟩
theorem ev_balls {i : Int} (h : HasM P w K mg base k H v "balls" (sp_ballsM F v c)) (ha : Ev ta σ H v) (hv : Ev tb σ H (.int i)) (hc : F.can c) : Ev (tMethD P w K mg base k "balls" E ta (tCons tb tNil)) σ H (.int (F.balls c i)) := fun H1 e Q q =>
  t_meth (vs := [.int i]) (h.mono e) (ha.mono e) (fun H2 e2 => ea_cons (hv.mono (e.trans e2)) ea_nil) fun H2 e2 => ⟨i, rfl, hc, fun H3 e3 => q H3 (e2.trans e3)⟩
theorem el_undone {a : Addr} {ns ms : List Int} {E2 : XK} (O : FamOk P w K mg base F k) (hat : F.at_ p H v c) (hc : F.can c) (ha : Ev ta σ H v) (hv : ∀ H1, Ex H H1 → Ev tb σ H1 (.ref a)) (hp : H a = some (.lst (ns.map V.int))) (hd : F.done (F.undo c) (some (ns.map V.int)) = .lst (ms.map V.int)) :
    EvL (tMethD P w K mg base k "done" E (tMethD P w K mg base k "undone" E2 ta tNil) (tCons tb tNil)) σ H (ms.map V.int) := fun H1 e Q q => by
  show tMethD P w K mg base k "undone" E2 ta tNil σ H1 _
  refine t_meth (vs := []) (O.undone (O.mono e hat)) (ha.mono e) (fun _ _ => ea_nil) fun H2 e2 => ⟨rfl, hc, fun u H3 e3 hu => ?_⟩
  · obtain ⟨a', C, dx, fs, sp', h1, h2, h3, h4, h5⟩ := O.done hu
    refine ⟨a', C, dx, fs, sp', h1, h2, h3, h4, hv H3 ((e.trans e2).trans e3) H3 (Ex.refl H3) _ fun H4 e4 => h5 _ _ _ _ e4 ⟨.ref a, _, rfl, Row.of ((((e.trans e2).trans e3).trans e4) _ _ hp), ?_⟩⟩
    rw [hd]
    exact fun r H5 hr e5 h5 => q r H5 (fresh_back ((e2.trans e3).trans e4) hr) (((e2.trans e3).trans e4).trans e5) h5
end
/-! what is far -/
theorem oo_door (f : List Int → Re) : doorRe oneone f = f [1, 1] := door_pat (f := f) (ns := [1, 1]) ⟨by decide, by decide, fun n hn => by simp at hn; omega⟩ (by decide)
theorem far_no {x : Int} (h : x < -1000000 ∨ 1000000 < x) : inM (.int x) = false := by
  show (decide (-1000000 ≤ x) && decide (x ≤ 1000000)) = false
  rw [Bool.and_eq_false_iff, decide_eq_false_iff_not, decide_eq_false_iff_not]
  omega
theorem far_turn {x : Int} (h : x < -1000000 ∨ 1000000 < x) : FarS (.turn (.int x)) := ⟨(oo_door fun ns => numRe (.int x) fun i => .lst ((turnI ns i).map V.int)).trans (num_bad (f := fun i => .lst ((turnI [1, 1] i).map V.int)) (far_no h)),
  (oo_door fun ns => numRe (.int (-x)) fun i => .lst ((turnI ns i).map V.int)).trans (num_bad (f := fun i => .lst ((turnI [1, 1] i).map V.int)) (far_no (x := -x) (by omega)))⟩
theorem far_lift {x : Int} (h : x < -1000000 ∨ 1000000 < x) : FarS (.lift (.int x)) := ⟨(oo_door fun ns => numRe (.int x) fun i => keptRe (ns.map (· + i))).trans (num_bad (f := fun i => keptRe ([(1 : Int), 1].map (· + i))) (far_no h)),
  (oo_door fun ns => numRe (.int (-x)) fun i => keptRe (ns.map (· + i))).trans (num_bad (f := fun i => keptRe ([(1 : Int), 1].map (· + i))) (far_no (x := -x) (by omega)))⟩
theorem far_gap {x : Int} (h : x < -1000000 ∨ 1000000 < x) : FarS (.gap (.int x)) := ⟨(oo_door fun ns => numRe (.int x) fun i => keptRe (gapsI ns i)).trans (num_bad (f := fun i => keptRe (gapsI [1, 1] i)) (far_no h)), (oo_door fun ns => numRe (.int x) fun i => keptRe (gapsI ns i)).trans (num_bad (f := fun i => keptRe (gapsI [1, 1] i)) (far_no h))⟩
theorem far_swap {x y : Int} (h : 2 ≤ y) : FarS (.swap (.int x) (.int y)) := by
  have z : swapRe (.int x) (.int y) [1, 1] = .err "OutOfBounds" := swap_bad fun ⟨i, j, _, e2, _, hj⟩ => by
    cases e2
    simp at hj
    omega
  exact ⟨(oo_door fun ns => swapRe (.int x) (.int y) ns).trans z, (oo_door fun ns => swapRe (.int x) (.int y) ns).trans z⟩
theorem far_nb {x : Int} (h : 2 ≤ x) : FarS (.nb (.int x)) := by
  have z : nbRe (.int x) [1, 1] = .err "OutOfBounds" := nb_bad fun ⟨i, e2, _, hj⟩ => by
    cases e2
    simp at hj
    omega
  exact ⟨(oo_door fun ns => nbRe (.int x) ns).trans z, (oo_door fun ns => nbRe (.int x) ns).trans z⟩
/-! what is drawn -/
def itemOf (K : PySem.W.Frag) (n : Nat) (c : Int) : (rowF K (simF K)).I := if c % 5 = 0 then .inr [simOf c n, simOf (c / 5) n] else .inl (simOf c n)
def toK (K : PySem.W.Frag) : (rowF K (simF K)).I → List Int → List Int := toR (F := simF K) Sim.to
def okK (K : PySem.W.Frag) (n : Nat) : (rowF K (simF K)).I → Prop := okR (F := simF K) (Drawn n) 2 n
theorem itemOf_ok (K : PySem.W.Frag) {n : Nat} (h1 : 1 ≤ n) (c : Int) : okK K n (itemOf K n c) := by
  by_cases h : c % 5 = 0
  · rw [show itemOf K n c = .inr [simOf c n, simOf (c / 5) n] from if_pos h]
    refine ⟨(show (2 : Nat) ≤ 2 by decide), fun s hs => ?_⟩
    rcases List.mem_cons.mp hs with rfl | hs
    · exact simOf_drawn c h1
    rcases List.mem_cons.mp hs with rfl | hs
    · exact simOf_drawn _ h1
    · cases hs
  · rw [show itemOf K n c = .inl (simOf c n) from if_neg h]
    exact simOf_drawn c h1
theorem cells_cut (ns : List Int) : ∃ cells : List Int, cutV (ns.map V.int) (some 3) (some 40) = cells.map V.int ∧ cells.length ≤ 37 := by
  refine ⟨(ns.drop (min 3 ns.length)).take (min 40 ns.length - min 3 ns.length), ?_, ?_⟩
  · show cutV (ns.map V.int) (some ((3 : Nat) : Int)) (some ((40 : Nat) : Int)) = _
    unfold cutV
    rw [HT.sIx_nat, HT.sIx_nat, List.length_map, ← List.map_drop, ← List.map_take]
  · rw [List.length_take]
    omega
theorem pat_b {n : Nat} {c : Int} {ts : List Int} (h9 : n ≤ 9) (p : Pat n (c % 2) ts) : PatB n 36 ts := ⟨p.len, p.no, fun t ht => by
  obtain ⟨f0, f1, _⟩ := p.far t ht
  by_cases h : c % 2 = 0
  · have := f0 h
    omega
  · have := f1 (by omega)
    omega⟩
theorem s_byhand {K : PySem.W.Frag} {H : Hp} {a : Addr} {c : Int} {n : Nat} {b : Int} {ns : List Int} {Q : VK} {E : XK} (ha : H a = some (.lst (ns.map V.int))) (h1 : 1 ≤ n) (h9 : n ≤ 9) (p : PatB n b ns) (hb : b ≤ 990000)
    (k : ∀ p H', (H p = none ∨ p = a) → Ex H H' → H' p = some (.lst (((simOf c n).to ns).map V.int)) → Q (.ref p) H') : sp_byhand K [.ref a, .int c] H Q E := ⟨a, c, n, b, ns, rfl, ha, h1, h9, p, hb, k⟩
theorem sv_far {K : PySem.W.Frag} {H : Hp} {v : V} {s : Sim} {p : Addr → Prop} (hv : SimAt K p H v s) (hc : s.can) (hf : FarS s) : SpV (sp_far K) [v] H (.bl true) := spv_of fun H1 e1 Q E q => ⟨v, s, p, rfl, hv.frame fun b o _ z => e1 b o z, hc, hf, q⟩
def lawLevel : Nat := 14
theorem sc_law : FnScope ["_law_script", "_law_size", "_law_pattern", "_law_rows", "_law_due", "_law_cell", "_law_one", "_law_united", "_law_handed", "_law_found", "_law_undoing", "_law_far"] ["_law_script"] (defScope s_law) := ⟨rfl, rfl, rfl, by decide +kernel, rfl, by decide +kernel, by decide +kernel⟩
theorem ok_law {P : Program} {w : World} {K : PySem.W.Frag} {mg : Str → Option Value} (T : TXT K mg) : OKL P w K mg "law" ["_law_script"] 14 (sp_law K) := by
  obtain ⟨fd, F⟩ := T.def_ 49
  refine ⟨_, fd, T.glo 26, F.bindsA (fun _ _ _ _ _ _ us hl => match us, hl with | [_], _ => rfl), fun base => ?_⟩
  have O__law_cell_at := ok__law_cell_at (P := P) (w := w) (base := base) T
  have O__law_throws_by := ok__law_throws_by (P := P) (w := w) (base := base) T
  have O__law_one_by := ok__law_one_by (P := P) (w := w) (base := base) T
  have O__law_kinds_right := ok__law_kinds_right (P := P) (w := w) (base := base) T
  have O__law_by_hand := ok__law_by_hand (P := P) (w := w) (base := base) T
  have O__law_same := ok__law_same (P := P) (w := w) (base := base) T
  have O_balls_of := ok_balls_of (P := P) (w := w) (base := base) T
  have O__law_far_right := ok__law_far_right (P := P) (w := w) (base := base) T
  have I_Changes := oki_Changes (P := P) (w := w) (base := base) T
  have I_Neighbours := oki_Neighbours (P := P) (w := w) (base := base) T
  have I_Swap := oki_Swap (P := P) (w := w) (base := base) T
  have I_Gaps := oki_Gaps (P := P) (w := w) (base := base) T
  have I_Lift := oki_Lift (P := P) (w := w) (base := base) T
  have I_Turn := oki_Turn (P := P) (w := w) (base := base) T
  refine F.ok sc_law (fun vs H Q E h => ?_) (fun cdv A outer s H vs Q E hr h => ?_)
  · first | (obtain ⟨rfl, _⟩ := h; rfl) | (obtain ⟨_, rfl, _⟩ := h; rfl) | (obtain ⟨_, _, rfl, _⟩ := h; rfl) | (obtain ⟨_, _, _, rfl, _⟩ := h; rfl) | (obtain ⟨_, _, _, _, rfl, _⟩ := h; rfl) | (obtain ⟨_, _, _, _, _, rfl, _⟩ := h; rfl) | (obtain ⟨_, _, _, _, _, _, rfl, _⟩ := h; rfl) | (obtain ⟨_, _, _, _, _, _, _, rfl, _⟩ := h; rfl) | (obtain ⟨_, _, _, _, _, _, _, _, rfl, _⟩ := h; rfl)
  · replace F : FunD K "law" "law" (defArgs s_law) (defBody s_law) (defScope s_law) [] [] (He.ga K "law") fd := F
    refine ⟨_, (pss_cons (ps_set (i := 1) sc_law.nd rfl (Or.inl rfl) (pe_op op_add pe_int (pe_op op_mod (pe_own O__law_cell_at (hr.mono (by decide)) (by rfl) (passes_call (takes_of rfl rfl rfl rfl) (fun _ _ _ _ h => h)) (pa_cons (pv 0) (pa_cons pe_int pa_nil))) pe_int)))
      (pss_cons (ps_set (i := 2) sc_law.nd rfl (Or.inl rfl) (pe_own O__law_throws_by (hr.mono (by decide)) (by rfl) (passes_call (takes_of rfl rfl rfl rfl) (fun _ _ _ _ h => h)) (pa_cons (pv 1) (pa_cons (pe_own O__law_cell_at (hr.mono (by decide)) (by rfl) (passes_call (takes_of rfl rfl rfl rfl) (fun _ _ _ _ h => h)) (pa_cons (pv 0) (pa_cons pe_int pa_nil))) (pa_cons (pe_op op_mod (pe_own O__law_cell_at (hr.mono (by decide)) (by rfl) (passes_call (takes_of rfl rfl rfl rfl) (fun _ _ _ _ h => h)) (pa_cons (pv 0) (pa_cons pe_int pa_nil))) pe_int) pa_nil)))))
      (pss_cons (ps_set (i := 3) sc_law.nd rfl (Or.inl rfl) (pe_lst pa_nil))
      (pss_cons (ps_set (i := 4) sc_law.nd rfl (Or.inl rfl) (pe_callTy (T := "list") (k_list K) (by rfl) (T.free 44) (by decide +kernel) (pa_cons (pv 2) pa_nil)))
      (pss_cons (ps_for (passes_of rfl) rfl (k_piL K (pe_slice (k_slL K) (pv 0) (po_some pe_int) (po_some pe_int))) (pg_name (i := 5) sc_law.nd rfl (Or.inl rfl))
        (pss_cons (ps_set (i := 6) sc_law.nd rfl (Or.inl rfl) (pe_own O__law_one_by (hr.mono (by decide)) (by rfl) (passes_call (takes_of rfl rfl rfl rfl) (fun _ _ _ _ h => h)) (pa_cons (pv 5) (pa_cons (pv 1) pa_nil))))
      (pss_cons (ps_if (pt_not (pt_val (pe_own O__law_kinds_right (hr.mono (by decide)) (by rfl) (passes_call (takes_of rfl rfl rfl rfl) (fun _ _ _ _ h => h)) (pa_cons (pv 6) pa_nil))))
        (pss_one (ps_ret pe_bl))
        pss_nil)
      (pss_cons (ps_set (i := 4) sc_law.nd rfl (Or.inl rfl) (pe_own O__law_by_hand (hr.mono (by decide)) (by rfl) (passes_call (takes_of rfl rfl rfl rfl) (fun _ _ _ _ h => h)) (pa_cons (pv 4) (pa_cons (pv 5) pa_nil))))
      (pss_cons (ps_if (pt_cmpR op_eq (pe_op op_mod (pv 5) pe_int) pe_int (nomark _))
        (pss_cons (ps_set (i := 6) sc_law.nd rfl (Or.inl rfl) (pe_mkI I_Changes (hr.mono (by first | decide | omega)) (by rfl) (passes_call (takes_of rfl rfl rfl rfl) (fun _ _ _ _ h => h)) (pa_cons (pe_lst (pa_cons (pv 6) (pa_cons (pe_own O__law_one_by (hr.mono (by decide)) (by rfl) (passes_call (takes_of rfl rfl rfl rfl) (fun _ _ _ _ h => h)) (pa_cons (pe_op op_fdiv (pv 5) pe_int) (pa_cons (pv 1) pa_nil))) pa_nil))) pa_nil)))
      (pss_one (ps_set (i := 4) sc_law.nd rfl (Or.inl rfl) (pe_own O__law_by_hand (hr.mono (by decide)) (by rfl) (passes_call (takes_of rfl rfl rfl rfl) (fun _ _ _ _ h => h)) (pa_cons (pv 4) (pa_cons (pe_op op_fdiv (pv 5) pe_int) pa_nil))))))
        pss_nil)
      (pss_one (ps_expr (pe_bm PySem.F.plainAttrs_list PySem.F.slot_list_append PySem.F.type_list_append mt_append (pv 3) (pa_cons (pv 6) pa_nil)))))))))
      (pss_cons (ps_set (i := 7) sc_law.nd rfl (Or.inl rfl) (pe_mkI I_Changes (hr.mono (by first | decide | omega)) (by rfl) (passes_call (takes_of rfl rfl rfl rfl) (fun _ _ _ _ h => h)) (pa_cons (pv 3) pa_nil)))
      (pss_cons (ps_expr (pe_bm0 PySem.F.plainAttrs_list PySem.F.slot_list_clear PySem.F.type_list_clear mt_clear (pv 3)))
      (pss_cons (ps_set (i := 8) sc_law.nd rfl (Or.inl rfl) (pe_callTy (T := "list") (k_list K) (by rfl) (T.free 44) (by decide +kernel) (pa_cons (pv 2) pa_nil)))
      (pss_cons (ps_set (i := 9) sc_law.nd rfl (Or.inl rfl) (pe_methD (P := P) (w := w) (K := K) (mg := mg) (base := base) (k := 11) (pv 7) (hr.mono (by first | decide | omega)) (passes_call (takes_of rfl rfl rfl rfl) (fun _ _ _ _ h => h)) (pa_cons (pv 8) pa_nil)))
      (pss_cons (ps_if (PW.pt (pw_or (pt_cmpR (k_neD K (units_of hr)) (pv 8) (pv 2) (nomark _)) (pw_or (pt_not (pt_val (pe_own O__law_kinds_right (hr.mono (by decide)) (by rfl) (passes_call (takes_of rfl rfl rfl rfl) (fun _ _ _ _ h => h)) (pa_cons (pv 7) pa_nil)))) (pw_or1 (pt_not (pt_val (pe_own O__law_same (hr.mono (by decide)) (by rfl) (passes_call (takes_of rfl rfl rfl rfl) (fun _ _ _ _ h => h)) (pa_cons (pv 9) (pa_cons (pv 4) pa_nil)))))))))
        (pss_one (ps_ret pe_bl))
        pss_nil)
      (pss_cons (ps_if (pt_cmpR op_ne (pe_methD (P := P) (w := w) (K := K) (mg := mg) (base := base) (k := 11) (pv 7) (hr.mono (by first | decide | omega)) (passes_call (takes_of rfl rfl rfl rfl) (fun _ _ _ _ h => h)) (pa_cons (pe_op op_fdiv (pe_callB (id := "sum") (k_sum K rfl) (by rfl) (T.free 46) (by decide +kernel) (pa_cons (pv 2) pa_nil)) (pv 1)) pa_nil)) (pe_own O_balls_of (hr.mono (by decide)) (by rfl) (passes_call (takes_of rfl rfl rfl rfl) (fun _ _ _ _ h => h)) (pa_cons (pv 9) pa_nil)) (nomark _))
        (pss_one (ps_ret pe_bl))
        pss_nil)
      (pss_cons (ps_set (i := 10) sc_law.nd rfl (Or.inl rfl) (pe_methD0 (P := P) (w := w) (K := K) (mg := mg) (base := base) (k := 11) (pv 7) (hr.mono (by first | decide | omega)) (passes_call (takes_of rfl rfl rfl rfl) (fun _ _ _ _ h => h))))
      (pss_cons (ps_if (PW.pt (pw_or (pt_not (pt_val (pe_callB (id := "isinstance") (k_isi K) (by rfl) (T.free 42) (by decide +kernel) (pa_cons (pv 10) (pa_cons (pe_cls (T.glo 31)) pa_nil))))) (pw_or1 (pt_not (pt_val (pe_own O__law_same (hr.mono (by decide)) (by rfl) (passes_call (takes_of rfl rfl rfl rfl) (fun _ _ _ _ h => h)) (pa_cons (pe_methD (P := P) (w := w) (K := K) (mg := mg) (base := base) (k := 11) (pv 10) (hr.mono (by first | decide | omega)) (passes_call (takes_of rfl rfl rfl rfl) (fun _ _ _ _ h => h)) (pa_cons (pv 9) pa_nil)) (pa_cons (pv 2) pa_nil))))))))
        (pss_one (ps_ret pe_bl))
        pss_nil)
      (pss_cons (ps_if (pt_cmpR op_ne (pe_methD (P := P) (w := w) (K := K) (mg := mg) (base := base) (k := 11) (pv 10) (hr.mono (by first | decide | omega)) (passes_call (takes_of rfl rfl rfl rfl) (fun _ _ _ _ h => h)) (pa_cons (pe_own O_balls_of (hr.mono (by decide)) (by rfl) (passes_call (takes_of rfl rfl rfl rfl) (fun _ _ _ _ h => h)) (pa_cons (pv 9) pa_nil)) pa_nil)) (pe_own O_balls_of (hr.mono (by decide)) (by rfl) (passes_call (takes_of rfl rfl rfl rfl) (fun _ _ _ _ h => h)) (pa_cons (pv 2) pa_nil)) (nomark _))
        (pss_one (ps_ret pe_bl))
        pss_nil)
      (pss_cons (ps_set (i := 11) sc_law.nd rfl (Or.inl rfl) (pe_op op_mod (pe_own O__law_cell_at (hr.mono (by decide)) (by rfl) (passes_call (takes_of rfl rfl rfl rfl) (fun _ _ _ _ h => h)) (pa_cons (pv 0) (pa_cons pe_int pa_nil))) pe_int))
      (pss_cons (ps_for (passes_of rfl) rfl (k_piL K (pe_lst (pa_cons (pe_mkI I_Turn (hr.mono (by first | decide | omega)) (by rfl) (passes_call (takes_of rfl rfl rfl rfl) (fun _ _ _ _ h => h)) (pa_cons (pe_op op_add pe_int (pv 11)) pa_nil)) (pa_cons (pe_mkI I_Lift (hr.mono (by first | decide | omega)) (by rfl) (passes_call (takes_of rfl rfl rfl rfl) (fun _ _ _ _ h => h)) (pa_cons (pe_op op_sub (pe_un un_neg pe_int) (pv 11)) pa_nil)) (pa_cons (pe_mkI I_Gaps (hr.mono (by first | decide | omega)) (by rfl) (passes_call (takes_of rfl rfl rfl rfl) (fun _ _ _ _ h => h)) (pa_cons (pe_op op_add pe_int (pv 11)) pa_nil)) (pa_cons (pe_mkI I_Swap (hr.mono (by first | decide | omega)) (by rfl) (passes_call (takes_of rfl rfl rfl rfl) (fun _ _ _ _ h => h)) (pa_cons pe_int (pa_cons (pe_op op_add pe_int (pv 11)) pa_nil))) (pa_cons (pe_mkI I_Neighbours (hr.mono (by first | decide | omega)) (by rfl) (passes_call (takes_of rfl rfl rfl rfl) (fun _ _ _ _ h => h)) (pa_cons (pe_op op_add pe_int (pv 11)) pa_nil)) pa_nil))))))) (pg_name (i := 6) sc_law.nd rfl (Or.inl rfl))
        (pss_one (ps_if (pt_not (pt_val (pe_own O__law_far_right (hr.mono (by decide)) (by rfl) (passes_call (takes_of rfl rfl rfl rfl) (fun _ _ _ _ h => h)) (pa_cons (pv 6) pa_nil))))
        (pss_one (ps_ret pe_bl))
        pss_nil)))
      (pss_one (ps_ret (pe_and (pe_own O__law_same (hr.mono (by decide)) (by rfl) (passes_call (takes_of rfl rfl rfl rfl) (fun _ _ _ _ h => h)) (pa_cons (pe_methD (P := P) (w := w) (K := K) (mg := mg) (base := base) (k := 11) (pe_methD0 (P := P) (w := w) (K := K) (mg := mg) (base := base) (k := 11) (pv 10) (hr.mono (by first | decide | omega)) (passes_call (takes_of rfl rfl rfl rfl) (fun _ _ _ _ h => h))) (hr.mono (by first | decide | omega)) (passes_call (takes_of rfl rfl rfl rfl) (fun _ _ _ _ h => h)) (pa_cons (pv 2) pa_nil)) (pa_cons (pv 9) pa_nil))) (pe_one (pe_own O__law_same (hr.mono (by decide)) (by rfl) (passes_call (takes_of rfl rfl rfl rfl) (fun _ _ _ _ h => h)) (pa_cons (pe_methD (P := P) (w := w) (K := K) (mg := mg) (base := base) (k := 11) (pv 7) (hr.mono (by first | decide | omega)) (passes_call (takes_of rfl rfl rfl rfl) (fun _ _ _ _ h => h)) (pa_cons (pv 2) pa_nil)) (pa_cons (pv 9) pa_nil))))))))))))))))))))))), ?_⟩
    obtain ⟨a, ns, rfl, hs, q⟩ := h
    dsimp only [cxOf, L2.start, List.map_cons, List.map_nil, List.length_cons, List.length_nil, Nat.reduceAdd, Nat.reduceSub, List.replicate_succ, List.replicate_zero, List.cons_append, List.nil_append, Nat.zero_add, List.reduceReplicate, List.map]
    obtain ⟨n, hn, h1, h9⟩ : ∃ n : Nat, 1 + ns.getD 0 0 % 9 = (n : Int) ∧ 1 ≤ n ∧ n ≤ 9 := ⟨(1 + ns.getD 0 0 % 9).toNat, by omega, by omega, by omega⟩
    have F1 : FamOk P w K mg base (simF K) (8+1) := sim_ok T
    have F2 : FamOk P w K mg base (rowF K (simF K)) (9+1) := row_ok T (j := 8) (by omega) F1
    have F3 : FamOk P w K mg base (rowF K (rowF K (simF K))) 11 := row_ok T (j := 9) (by omega) F2
    have G2 : Good (rowF K (simF K)) n 2 (okK K n) (toK K) := row_good K (sim_good K h1 h9) h1 h9 (by omega) (by omega)
    have c0 := sv_cell (k := 0) hs
    refine q_asg (v := .int (n : Int)) (by rw [← hn]; (repeat' (first | with_reducible exact ev_c | ((with_reducible show Ev (tVar _) _ _ _); exact ev_var rfl) | with_reducible exact ea_nil | with_reducible exact eo_none | with_reducible refine' ea_cons ?_ ?_ | with_reducible refine' eo_some ?_ | with_reducible refine' ev_and2 ?_ ?_ | with_reducible refine' ev_or2 ?_ ?_ | with_reducible refine' ev_notV ?_ | with_reducible exact ru_I | with_reducible refine' ev_un ?_ ?_ | with_reducible exact rv_I0 | with_reducible exact rv_isN | with_reducible exact rv_notN | with_reducible refine' rv_I ?_ | with_reducible refine' rv_eq ?_ | with_reducible refine' rv_ne ?_ | with_reducible refine' ev_op ?_ ?_ ?_ | with_reducible refine' ev_chain2 ?_ ?_ ?_ ?_ ?_ | with_reducible refine' et_B ?_ | with_reducible refine' et_test ?_ | with_reducible refine' et_and2 ?_ ?_ | with_reducible refine' et_or2 ?_ ?_ | with_reducible refine' et_not ?_ | with_reducible refine' ev_call ?_ ?_ | with_reducible refine' ev_callS ?_ ?_ | with_reducible refine' ev_cb ?_ ?_ | with_reducible exact isi_bool (by assumption) | with_reducible exact isi_int (by assumption) | with_reducible exact isi_list (by assumption) | with_reducible exact rc_len (by assumption) | with_reducible exact rc_sum (by assumption) | with_reducible exact rc_abs | with_reducible exact isi_listL (by assumption) | with_reducible exact isi_intI | with_reducible exact isi_boolI | with_reducible exact rc_lenT (by assumption) | with_reducible exact isi_tup (by assumption) | with_reducible exact rv_eqL (by assumption) (by assumption) | with_reducible exact rv_neL (by assumption) (by assumption) | with_reducible exact rv_neT (by assumption) (by assumption) | with_reducible exact rv_ixL (by assumption) (by assumption) | with_reducible exact rv_ixT (by assumption) (by assumption) | with_reducible refine' ev_din ?_ ?_ (by assumption) | with_reducible refine' ev_dnotin ?_ ?_ (by assumption) | with_reducible refine' ev_dget ?_ ?_ (by assumption) (by assumption) | ((with_reducible show SpV _ _ _ _); assumption) | ((with_reducible show RV _ _ _ _ _); assumption) | ((with_reducible show RC _ _ _ _); assumption) | ((with_reducible show CDiv _ _); exact ⟨by omega, by omega⟩) | ((with_reducible show CMul _ _); first | exact .inl ⟨by omega, by omega⟩ | exact .inr ⟨by omega, by omega⟩) | ((with_reducible show CPow _ _); exact ⟨by omega, by omega, by first | decide | assumption | omega⟩) | ((with_reducible show (0 : Int) < _); omega) | ((with_reducible show (0 : Int) ≤ _); omega) | ((with_reducible show scal _ _ = true); rfl)))) fun H1 e1 => ?_
    have hs1 := ex_l e1 hs
    have c1 := sv_cell (k := 1) hs1
    have c2 := sv_cell (k := 2) hs1
    refine q_throws (c := ns.getD 1 0) (kind := ns.getD 2 0 % 2) h1 (by omega) (by (repeat' (first | with_reducible exact ev_c | ((with_reducible show Ev (tVar _) _ _ _); exact ev_var rfl) | with_reducible exact ea_nil | with_reducible exact eo_none | with_reducible refine' ea_cons ?_ ?_ | with_reducible refine' eo_some ?_ | with_reducible refine' ev_and2 ?_ ?_ | with_reducible refine' ev_or2 ?_ ?_ | with_reducible refine' ev_notV ?_ | with_reducible exact ru_I | with_reducible refine' ev_un ?_ ?_ | with_reducible exact rv_I0 | with_reducible exact rv_isN | with_reducible exact rv_notN | with_reducible refine' rv_I ?_ | with_reducible refine' rv_eq ?_ | with_reducible refine' rv_ne ?_ | with_reducible refine' ev_op ?_ ?_ ?_ | with_reducible refine' ev_chain2 ?_ ?_ ?_ ?_ ?_ | with_reducible refine' et_B ?_ | with_reducible refine' et_test ?_ | with_reducible refine' et_and2 ?_ ?_ | with_reducible refine' et_or2 ?_ ?_ | with_reducible refine' et_not ?_ | with_reducible refine' ev_call ?_ ?_ | with_reducible refine' ev_callS ?_ ?_ | with_reducible refine' ev_cb ?_ ?_ | with_reducible exact isi_bool (by assumption) | with_reducible exact isi_int (by assumption) | with_reducible exact isi_list (by assumption) | with_reducible exact rc_len (by assumption) | with_reducible exact rc_sum (by assumption) | with_reducible exact rc_abs | with_reducible exact isi_listL (by assumption) | with_reducible exact isi_intI | with_reducible exact isi_boolI | with_reducible exact rc_lenT (by assumption) | with_reducible exact isi_tup (by assumption) | with_reducible exact rv_eqL (by assumption) (by assumption) | with_reducible exact rv_neL (by assumption) (by assumption) | with_reducible exact rv_neT (by assumption) (by assumption) | with_reducible exact rv_ixL (by assumption) (by assumption) | with_reducible exact rv_ixT (by assumption) (by assumption) | with_reducible refine' ev_din ?_ ?_ (by assumption) | with_reducible refine' ev_dnotin ?_ ?_ (by assumption) | with_reducible refine' ev_dget ?_ ?_ (by assumption) (by assumption) | ((with_reducible show SpV _ _ _ _); assumption) | ((with_reducible show RV _ _ _ _ _); assumption) | ((with_reducible show RC _ _ _ _); assumption) | ((with_reducible show CDiv _ _); exact ⟨by omega, by omega⟩) | ((with_reducible show CMul _ _); first | exact .inl ⟨by omega, by omega⟩ | exact .inr ⟨by omega, by omega⟩) | ((with_reducible show CPow _ _); exact ⟨by omega, by omega, by first | decide | assumption | omega⟩) | ((with_reducible show (0 : Int) < _); omega) | ((with_reducible show (0 : Int) ≤ _); omega) | ((with_reducible show scal _ _ = true); rfl)))) fun ts p H2 pat hp e2 h2 => ?_
    have hs2 := ex_l e2 hs1
    have pb := pat_b h9 pat
    have tl := pat.len
    refine q_asgL (xs := []) (el_lst ea_nil (by simp)) fun l H3 hl e3 h3 => ?_
    have p3 := e3 _ _ h2
    have sp3 : SqL K H3 p (ts.map V.int) := sq_of p3
    refine q_asgL (xs := ts.map V.int) (el_cb (by (repeat' (first | with_reducible exact ev_c | ((with_reducible show Ev (tVar _) _ _ _); exact ev_var rfl) | with_reducible exact ea_nil | with_reducible exact eo_none | with_reducible refine' ea_cons ?_ ?_ | with_reducible refine' eo_some ?_ | with_reducible refine' ev_and2 ?_ ?_ | with_reducible refine' ev_or2 ?_ ?_ | with_reducible refine' ev_notV ?_ | with_reducible exact ru_I | with_reducible refine' ev_un ?_ ?_ | with_reducible exact rv_I0 | with_reducible exact rv_isN | with_reducible exact rv_notN | with_reducible refine' rv_I ?_ | with_reducible refine' rv_eq ?_ | with_reducible refine' rv_ne ?_ | with_reducible refine' ev_op ?_ ?_ ?_ | with_reducible refine' ev_chain2 ?_ ?_ ?_ ?_ ?_ | with_reducible refine' et_B ?_ | with_reducible refine' et_test ?_ | with_reducible refine' et_and2 ?_ ?_ | with_reducible refine' et_or2 ?_ ?_ | with_reducible refine' et_not ?_ | with_reducible refine' ev_call ?_ ?_ | with_reducible refine' ev_callS ?_ ?_ | with_reducible refine' ev_cb ?_ ?_ | with_reducible exact isi_bool (by assumption) | with_reducible exact isi_int (by assumption) | with_reducible exact isi_list (by assumption) | with_reducible exact rc_len (by assumption) | with_reducible exact rc_sum (by assumption) | with_reducible exact rc_abs | with_reducible exact isi_listL (by assumption) | with_reducible exact isi_intI | with_reducible exact isi_boolI | with_reducible exact rc_lenT (by assumption) | with_reducible exact isi_tup (by assumption) | with_reducible exact rv_eqL (by assumption) (by assumption) | with_reducible exact rv_neL (by assumption) (by assumption) | with_reducible exact rv_neT (by assumption) (by assumption) | with_reducible exact rv_ixL (by assumption) (by assumption) | with_reducible exact rv_ixT (by assumption) (by assumption) | with_reducible refine' ev_din ?_ ?_ (by assumption) | with_reducible refine' ev_dnotin ?_ ?_ (by assumption) | with_reducible refine' ev_dget ?_ ?_ (by assumption) (by assumption) | ((with_reducible show SpV _ _ _ _); assumption) | ((with_reducible show RV _ _ _ _ _); assumption) | ((with_reducible show RC _ _ _ _); assumption) | ((with_reducible show CDiv _ _); exact ⟨by omega, by omega⟩) | ((with_reducible show CMul _ _); first | exact .inl ⟨by omega, by omega⟩ | exact .inr ⟨by omega, by omega⟩) | ((with_reducible show CPow _ _); exact ⟨by omega, by omega, by first | decide | assumption | omega⟩) | ((with_reducible show (0 : Int) < _); omega) | ((with_reducible show (0 : Int) ≤ _); omega) | ((with_reducible show scal _ _ = true); rfl)))) (rcl_list sp3)) fun d H4 hd e4 h4 => ?_
    obtain ⟨cells, hcut, hcl⟩ := cells_cut ns
    have hs4 := ex_l (e3.trans e4) hs2
    have eC : EvL (tSl (rSlL K) (tVar 0) (tPart (tC (.int 3))) (tPart (tC (.int 40)))) [some (V.ref a), some (V.int (n : Int)), some (V.ref p), some (V.ref l), some (V.ref d), none, none, none, none, none, none, none] H4 (cells.map V.int) := by
      rw [← hcut]
      exact el_sl (ev_var rfl) (eo_some ev_c) (eo_some ev_c) hs4
    refine q_forNLn (xs := cells.map V.int) eC (fun pl i σ' H' => ∃ (y5 y6 : Option V) (vs : List V) (dd : Addr), σ' = [some (V.ref a), some (V.int (n : Int)), some (V.ref p), some (V.ref l), some (V.ref dd), y5, y6, none, none, none, none, none] ∧ Ex H2 H' ∧ H' l = some (.lst vs) ∧ H' pl = some (.lst (cells.map V.int)) ∧ pl ≠ l ∧ vs.length = i ∧
      RowsOf (rowF K (simF K)) (fun a => a ≠ l) H' vs ((cells.take i).map (itemOf K n)) ∧ dd ≠ l ∧ H' dd = some (.lst ((rowTo (toK K) ((cells.take i).map (itemOf K n)) ts).map V.int))) (fun pl H5 hpl e5 h5 => ?_) (fun pl i σ' H' _ ⟨_, _, _, _, _, _, _, z, _⟩ => sq_of z) ?_ ?_
    · refine ⟨none, none, [], d, rfl, (e3.trans e4).trans e5, e5 _ _ (e4 _ _ h3), h5, fun z => ?_, rfl, ⟨rfl, fun i v c hv => by simp at hv⟩, fun z => ?_, e5 _ _ h4⟩
      · rw [z, e4 _ _ h3] at hpl
        cases hpl
      · rw [z, h3] at hd
        cases hd
    · rintro pl i x σ' H5 hi ⟨y5, y6, vs, dd, rfl, e5, hl5, hpl, npl, hvl, ⟨hrl, hrows⟩, ndd, hdd⟩
      rw [List.getElem?_map] at hi
      obtain ⟨c, hc, rfl⟩ := Option.map_eq_some_iff.mp hi
      have hil := (List.getElem?_eq_some_iff.mp hc).1
      have okI : ∀ x ∈ (cells.take i).map (itemOf K n), okK K n x := fun x hx => by
        obtain ⟨c, _, rfl⟩ := List.mem_map.mp hx
        exact itemOf_ok K h1 c
      have pI := rows_pat G2 okI pb
      have hlen : ((cells.take i).map (itemOf K n)).length = i := by rw [List.length_map, List.length_take]; omega
      rw [hlen] at pI
      generalize hm : rowTo (toK K) ((cells.take i).map (itemOf K n)) ts = ms at *
      have et : (cells.take (i + 1)).map (itemOf K n) = (cells.take i).map (itemOf K n) ++ [itemOf K n c] := by
        rw [List.take_add_one, hc, List.map_append]
        rfl
      have em : rowTo (toK K) ((cells.take (i + 1)).map (itemOf K n)) ts = toK K (itemOf K n c) ms := by
        rw [et]
        unfold rowTo at hm ⊢
        rw [List.foldl_append, hm]
        rfl
      dsimp only [List.set]
      refine q_callX (vs := [.int c, .int (n : Int)]) (by (repeat' (first | with_reducible exact ev_c | ((with_reducible show Ev (tVar _) _ _ _); exact ev_var rfl) | with_reducible exact ea_nil | with_reducible exact eo_none | with_reducible refine' ea_cons ?_ ?_ | with_reducible refine' eo_some ?_ | with_reducible refine' ev_and2 ?_ ?_ | with_reducible refine' ev_or2 ?_ ?_ | with_reducible refine' ev_notV ?_ | with_reducible exact ru_I | with_reducible refine' ev_un ?_ ?_ | with_reducible exact rv_I0 | with_reducible exact rv_isN | with_reducible exact rv_notN | with_reducible refine' rv_I ?_ | with_reducible refine' rv_eq ?_ | with_reducible refine' rv_ne ?_ | with_reducible refine' ev_op ?_ ?_ ?_ | with_reducible refine' ev_chain2 ?_ ?_ ?_ ?_ ?_ | with_reducible refine' et_B ?_ | with_reducible refine' et_test ?_ | with_reducible refine' et_and2 ?_ ?_ | with_reducible refine' et_or2 ?_ ?_ | with_reducible refine' et_not ?_ | with_reducible refine' ev_call ?_ ?_ | with_reducible refine' ev_callS ?_ ?_ | with_reducible refine' ev_cb ?_ ?_ | with_reducible exact isi_bool (by assumption) | with_reducible exact isi_int (by assumption) | with_reducible exact isi_list (by assumption) | with_reducible exact rc_len (by assumption) | with_reducible exact rc_sum (by assumption) | with_reducible exact rc_abs | with_reducible exact isi_listL (by assumption) | with_reducible exact isi_intI | with_reducible exact isi_boolI | with_reducible exact rc_lenT (by assumption) | with_reducible exact isi_tup (by assumption) | with_reducible exact rv_eqL (by assumption) (by assumption) | with_reducible exact rv_neL (by assumption) (by assumption) | with_reducible exact rv_neT (by assumption) (by assumption) | with_reducible exact rv_ixL (by assumption) (by assumption) | with_reducible exact rv_ixT (by assumption) (by assumption) | with_reducible refine' ev_din ?_ ?_ (by assumption) | with_reducible refine' ev_dnotin ?_ ?_ (by assumption) | with_reducible refine' ev_dget ?_ ?_ (by assumption) (by assumption) | ((with_reducible show SpV _ _ _ _); assumption) | ((with_reducible show RV _ _ _ _ _); assumption) | ((with_reducible show RC _ _ _ _); assumption) | ((with_reducible show CDiv _ _); exact ⟨by omega, by omega⟩) | ((with_reducible show CMul _ _); first | exact .inl ⟨by omega, by omega⟩ | exact .inr ⟨by omega, by omega⟩) | ((with_reducible show CPow _ _); exact ⟨by omega, by omega, by first | decide | assumption | omega⟩) | ((with_reducible show (0 : Int) < _); omega) | ((with_reducible show (0 : Int) ≤ _); omega) | ((with_reducible show scal _ _ = true); rfl)))) fun H6 e6 => ⟨c, n, rfl, h1, h9, fun v H7 e7 hv => ?_⟩
      have e57 := e6.trans e7
      have hv7 : SimAt K (fun a => a ≠ l) H7 v (simOf c n) := hv.imp fun b o z1 z2 z3 => by
        rw [z3, e6 _ _ hl5] at z1
        cases z1
      have sk := sv_kinds (K := K) hv.obj
      dsimp only [List.set]
      refine q_when (b := !true) (by (repeat' (first | with_reducible exact ev_c | ((with_reducible show Ev (tVar _) _ _ _); exact ev_var rfl) | with_reducible exact ea_nil | with_reducible exact eo_none | with_reducible refine' ea_cons ?_ ?_ | with_reducible refine' eo_some ?_ | with_reducible refine' ev_and2 ?_ ?_ | with_reducible refine' ev_or2 ?_ ?_ | with_reducible refine' ev_notV ?_ | with_reducible exact ru_I | with_reducible refine' ev_un ?_ ?_ | with_reducible exact rv_I0 | with_reducible exact rv_isN | with_reducible exact rv_notN | with_reducible refine' rv_I ?_ | with_reducible refine' rv_eq ?_ | with_reducible refine' rv_ne ?_ | with_reducible refine' ev_op ?_ ?_ ?_ | with_reducible refine' ev_chain2 ?_ ?_ ?_ ?_ ?_ | with_reducible refine' et_B ?_ | with_reducible refine' et_test ?_ | with_reducible refine' et_and2 ?_ ?_ | with_reducible refine' et_or2 ?_ ?_ | with_reducible refine' et_not ?_ | with_reducible refine' ev_call ?_ ?_ | with_reducible refine' ev_callS ?_ ?_ | with_reducible refine' ev_cb ?_ ?_ | with_reducible exact isi_bool (by assumption) | with_reducible exact isi_int (by assumption) | with_reducible exact isi_list (by assumption) | with_reducible exact rc_len (by assumption) | with_reducible exact rc_sum (by assumption) | with_reducible exact rc_abs | with_reducible exact isi_listL (by assumption) | with_reducible exact isi_intI | with_reducible exact isi_boolI | with_reducible exact rc_lenT (by assumption) | with_reducible exact isi_tup (by assumption) | with_reducible exact rv_eqL (by assumption) (by assumption) | with_reducible exact rv_neL (by assumption) (by assumption) | with_reducible exact rv_neT (by assumption) (by assumption) | with_reducible exact rv_ixL (by assumption) (by assumption) | with_reducible exact rv_ixT (by assumption) (by assumption) | with_reducible refine' ev_din ?_ ?_ (by assumption) | with_reducible refine' ev_dnotin ?_ ?_ (by assumption) | with_reducible refine' ev_dget ?_ ?_ (by assumption) (by assumption) | ((with_reducible show SpV _ _ _ _); assumption) | ((with_reducible show RV _ _ _ _ _); assumption) | ((with_reducible show RC _ _ _ _); assumption) | ((with_reducible show CDiv _ _); exact ⟨by omega, by omega⟩) | ((with_reducible show CMul _ _); first | exact .inl ⟨by omega, by omega⟩ | exact .inr ⟨by omega, by omega⟩) | ((with_reducible show CPow _ _); exact ⟨by omega, by omega, by first | decide | assumption | omega⟩) | ((with_reducible show (0 : Int) < _); omega) | ((with_reducible show (0 : Int) ≤ _); omega) | ((with_reducible show scal _ _ = true); rfl)))) (fun h => by cases h) (fun _ H8 e8 => ?_)
      have e58 := e57.trans e8
      refine q_callX (vs := [.ref dd, .int c]) (by (repeat' (first | with_reducible exact ev_c | ((with_reducible show Ev (tVar _) _ _ _); exact ev_var rfl) | with_reducible exact ea_nil | with_reducible exact eo_none | with_reducible refine' ea_cons ?_ ?_ | with_reducible refine' eo_some ?_ | with_reducible refine' ev_and2 ?_ ?_ | with_reducible refine' ev_or2 ?_ ?_ | with_reducible refine' ev_notV ?_ | with_reducible exact ru_I | with_reducible refine' ev_un ?_ ?_ | with_reducible exact rv_I0 | with_reducible exact rv_isN | with_reducible exact rv_notN | with_reducible refine' rv_I ?_ | with_reducible refine' rv_eq ?_ | with_reducible refine' rv_ne ?_ | with_reducible refine' ev_op ?_ ?_ ?_ | with_reducible refine' ev_chain2 ?_ ?_ ?_ ?_ ?_ | with_reducible refine' et_B ?_ | with_reducible refine' et_test ?_ | with_reducible refine' et_and2 ?_ ?_ | with_reducible refine' et_or2 ?_ ?_ | with_reducible refine' et_not ?_ | with_reducible refine' ev_call ?_ ?_ | with_reducible refine' ev_callS ?_ ?_ | with_reducible refine' ev_cb ?_ ?_ | with_reducible exact isi_bool (by assumption) | with_reducible exact isi_int (by assumption) | with_reducible exact isi_list (by assumption) | with_reducible exact rc_len (by assumption) | with_reducible exact rc_sum (by assumption) | with_reducible exact rc_abs | with_reducible exact isi_listL (by assumption) | with_reducible exact isi_intI | with_reducible exact isi_boolI | with_reducible exact rc_lenT (by assumption) | with_reducible exact isi_tup (by assumption) | with_reducible exact rv_eqL (by assumption) (by assumption) | with_reducible exact rv_neL (by assumption) (by assumption) | with_reducible exact rv_neT (by assumption) (by assumption) | with_reducible exact rv_ixL (by assumption) (by assumption) | with_reducible exact rv_ixT (by assumption) (by assumption) | with_reducible refine' ev_din ?_ ?_ (by assumption) | with_reducible refine' ev_dnotin ?_ ?_ (by assumption) | with_reducible refine' ev_dget ?_ ?_ (by assumption) (by assumption) | ((with_reducible show SpV _ _ _ _); assumption) | ((with_reducible show RV _ _ _ _ _); assumption) | ((with_reducible show RC _ _ _ _); assumption) | ((with_reducible show CDiv _ _); exact ⟨by omega, by omega⟩) | ((with_reducible show CMul _ _); first | exact .inl ⟨by omega, by omega⟩ | exact .inr ⟨by omega, by omega⟩) | ((with_reducible show CPow _ _); exact ⟨by omega, by omega, by first | decide | assumption | omega⟩) | ((with_reducible show (0 : Int) < _); omega) | ((with_reducible show (0 : Int) ≤ _); omega) | ((with_reducible show scal _ _ = true); rfl)))) fun H9 e9 => s_byhand ((e58.trans e9) _ _ hdd) h1 h9 pI (by omega) fun d2 H10 hd2 e10 h10 => ?_
      dsimp only [List.set]
      have e510 := (e58.trans e9).trans e10
      have nd2 : d2 ≠ l := fun z => by
        rcases hd2 with hd2 | hd2
        · rw [z, (e58.trans e9) _ _ hl5] at hd2
          cases hd2
        · exact ndd (hd2.symm.trans z)
      have hv10 : SimAt K (fun a => a ≠ l) H10 v (simOf c n) := hv7.frame fun b o _ z => ((e8.trans e9).trans e10) b o z
      refine q_key (M := fun σ' H' => ∃ (v2 : V) (d3 : Addr), σ' = [some (V.ref a), some (V.int (n : Int)), some (V.ref p), some (V.ref l), some (V.ref d3), some (V.int c), some v2, none, none, none, none, none] ∧ Ex H5 H' ∧ (rowF K (simF K)).at_ (fun a => a ≠ l) H' v2 (itemOf K n c) ∧ d3 ≠ l ∧ H' d3 = some (.lst ((toK K (itemOf K n c) ms).map V.int))) ?_ (fun key => ?_)
      · rintro σ' H' ⟨v2, d3, rfl, e11, hat, nd3, h11⟩
        refine s_app (e11 _ _ hl5) (ev_var rfl) (ev_var rfl) (by omega) fun H12 e12 => ?_
        have e512 := e11.trans e12
        have up : ∀ {b : Addr} {o : HO}, b ≠ l → H12 b = some o → upd H12 l (.lst (vs ++ [v2])) b = some o := fun {b o} hb h => by
          rw [upd_ne hb]
          exact h
        refine ⟨some (.int c), some v2, vs ++ [v2], d3, rfl, Ex.mut (e5.trans e512) hl, upd_same, up npl (e512 _ _ hpl), npl, by rw [List.length_append, hvl]; rfl, ⟨?_, fun t u b hu hb => ?_⟩, nd3, up nd3 ?_⟩
        · rw [et, List.length_append, List.length_append, hrl]
          rfl
        · rw [et] at hb
          by_cases ht : t < vs.length
          · rw [List.getElem?_append_left ht] at hu
            rw [List.getElem?_append_left (by rw [hlen]; omega)] at hb
            exact F2.frame (fun b o z1 z2 => up z1 (e512 b o z2)) (hrows t u b hu hb)
          · have hti := (List.getElem?_eq_some_iff.mp hu).1
            rw [List.length_append] at hti
            simp only [List.length_cons, List.length_nil] at hti
            have hte : t = vs.length := by omega
            rw [hte, List.getElem?_append_right (Nat.le_refl _), Nat.sub_self] at hu
            rw [List.getElem?_append_right (by rw [hlen]; omega), hlen, hte, hvl, Nat.sub_self] at hb
            cases hu
            cases hb
            exact F2.frame (fun b o z1 z2 => up z1 (e12 b o z2)) hat
        · rw [em]
          exact e12 _ _ h11
      refine q_when (b := decide (c % 5 = 0)) (by apply et_is; (focus ((repeat' (first | with_reducible exact ev_c | ((with_reducible show Ev (tVar _) _ _ _); exact ev_var rfl) | with_reducible exact ea_nil | with_reducible exact eo_none | with_reducible refine' ea_cons ?_ ?_ | with_reducible refine' eo_some ?_ | with_reducible refine' ev_and2 ?_ ?_ | with_reducible refine' ev_or2 ?_ ?_ | with_reducible refine' ev_notV ?_ | with_reducible exact ru_I | with_reducible refine' ev_un ?_ ?_ | with_reducible exact rv_I0 | with_reducible exact rv_isN | with_reducible exact rv_notN | with_reducible refine' rv_I ?_ | with_reducible refine' rv_eq ?_ | with_reducible refine' rv_ne ?_ | with_reducible refine' ev_op ?_ ?_ ?_ | with_reducible refine' ev_chain2 ?_ ?_ ?_ ?_ ?_ | with_reducible refine' et_B ?_ | with_reducible refine' et_test ?_ | with_reducible refine' et_and2 ?_ ?_ | with_reducible refine' et_or2 ?_ ?_ | with_reducible refine' et_not ?_ | with_reducible refine' ev_call ?_ ?_ | with_reducible refine' ev_callS ?_ ?_ | with_reducible refine' ev_cb ?_ ?_ | with_reducible exact isi_bool (by assumption) | with_reducible exact isi_int (by assumption) | with_reducible exact isi_list (by assumption) | with_reducible exact rc_len (by assumption) | with_reducible exact rc_sum (by assumption) | with_reducible exact rc_abs | with_reducible exact isi_listL (by assumption) | with_reducible exact isi_intI | with_reducible exact isi_boolI | with_reducible exact rc_lenT (by assumption) | with_reducible exact isi_tup (by assumption) | with_reducible exact rv_eqL (by assumption) (by assumption) | with_reducible exact rv_neL (by assumption) (by assumption) | with_reducible exact rv_neT (by assumption) (by assumption) | with_reducible exact rv_ixL (by assumption) (by assumption) | with_reducible exact rv_ixT (by assumption) (by assumption) | with_reducible refine' ev_din ?_ ?_ (by assumption) | with_reducible refine' ev_dnotin ?_ ?_ (by assumption) | with_reducible refine' ev_dget ?_ ?_ (by assumption) (by assumption) | ((with_reducible show SpV _ _ _ _); assumption) | ((with_reducible show RV _ _ _ _ _); assumption) | ((with_reducible show RC _ _ _ _); assumption) | ((with_reducible show CDiv _ _); exact ⟨by omega, by omega⟩) | ((with_reducible show CMul _ _); first | exact .inl ⟨by omega, by omega⟩ | exact .inr ⟨by omega, by omega⟩) | ((with_reducible show CPow _ _); exact ⟨by omega, by omega, by first | decide | assumption | omega⟩) | ((with_reducible show (0 : Int) < _); omega) | ((with_reducible show (0 : Int) ≤ _); omega) | ((with_reducible show scal _ _ = true); rfl))))); exact dec_int.trans (by rw [Bool.eq_iff_iff]; simp)) (fun hb H11 e11 => ?_) (fun hb H11 e11 => ?_)
      · have hb := of_decide_eq_true hb
        have ei : itemOf K n c = .inr [simOf c n, simOf (c / 5) n] := if_pos hb
        have e511 := e510.trans e11
        have hl11 := e511 _ _ hl5
        refine q_te ?_
        refine makeR (fun xs H' => ∃ v2, xs = [v, v2] ∧ SimAt K (fun a => a ≠ l) H' v2 (simOf (c / 5) n)) (fun xs H1 H2 e ⟨v2, e1, e2⟩ => ⟨v2, e1, e2.frame fun b o _ z => e b o z⟩) (fun P2 kP => ?_) (fun x dx p2 xs H12 e12 hx hp2 hne g1 g2 ⟨v2, hxs, hv2⟩ => ?_)
        · refine t_consX (t_lstX (t_consX ((ev_var (i := 6) rfl) H11 (Ex.refl H11) _ fun H12 e12 => ?_)))
          have ea : EvA (tCons (tOp (rI CDiv fun i j => V.int (i / j)) (tVar 5) (tC (V.int 5))) (tCons (tVar 1) tNil)) [some (V.ref a), some (V.int (n : Int)), some (V.ref p), some (V.ref l), some (V.ref d2), some (V.int c), some v, none, none, none, none, none] H12 [V.int (c / 5), .int (n : Int)] := by (repeat' (first | with_reducible exact ev_c | ((with_reducible show Ev (tVar _) _ _ _); exact ev_var rfl) | with_reducible exact ea_nil | with_reducible exact eo_none | with_reducible refine' ea_cons ?_ ?_ | with_reducible refine' eo_some ?_ | with_reducible refine' ev_and2 ?_ ?_ | with_reducible refine' ev_or2 ?_ ?_ | with_reducible refine' ev_notV ?_ | with_reducible exact ru_I | with_reducible refine' ev_un ?_ ?_ | with_reducible exact rv_I0 | with_reducible exact rv_isN | with_reducible exact rv_notN | with_reducible refine' rv_I ?_ | with_reducible refine' rv_eq ?_ | with_reducible refine' rv_ne ?_ | with_reducible refine' ev_op ?_ ?_ ?_ | with_reducible refine' ev_chain2 ?_ ?_ ?_ ?_ ?_ | with_reducible refine' et_B ?_ | with_reducible refine' et_test ?_ | with_reducible refine' et_and2 ?_ ?_ | with_reducible refine' et_or2 ?_ ?_ | with_reducible refine' et_not ?_ | with_reducible refine' ev_call ?_ ?_ | with_reducible refine' ev_callS ?_ ?_ | with_reducible refine' ev_cb ?_ ?_ | with_reducible exact isi_bool (by assumption) | with_reducible exact isi_int (by assumption) | with_reducible exact isi_list (by assumption) | with_reducible exact rc_len (by assumption) | with_reducible exact rc_sum (by assumption) | with_reducible exact rc_abs | with_reducible exact isi_listL (by assumption) | with_reducible exact isi_intI | with_reducible exact isi_boolI | with_reducible exact rc_lenT (by assumption) | with_reducible exact isi_tup (by assumption) | with_reducible exact rv_eqL (by assumption) (by assumption) | with_reducible exact rv_neL (by assumption) (by assumption) | with_reducible exact rv_neT (by assumption) (by assumption) | with_reducible exact rv_ixL (by assumption) (by assumption) | with_reducible exact rv_ixT (by assumption) (by assumption) | with_reducible refine' ev_din ?_ ?_ (by assumption) | with_reducible refine' ev_dnotin ?_ ?_ (by assumption) | with_reducible refine' ev_dget ?_ ?_ (by assumption) (by assumption) | ((with_reducible show SpV _ _ _ _); assumption) | ((with_reducible show RV _ _ _ _ _); assumption) | ((with_reducible show RC _ _ _ _); assumption) | ((with_reducible show CDiv _ _); exact ⟨by omega, by omega⟩) | ((with_reducible show CMul _ _); first | exact .inl ⟨by omega, by omega⟩ | exact .inr ⟨by omega, by omega⟩) | ((with_reducible show CPow _ _); exact ⟨by omega, by omega, by first | decide | assumption | omega⟩) | ((with_reducible show (0 : Int) < _); omega) | ((with_reducible show (0 : Int) ≤ _); omega) | ((with_reducible show scal _ _ = true); rfl)))
          refine t_consX (t_callX ea fun H13 e13 => ⟨c / 5, n, rfl, h1, h9, fun v2 H14 e14 hv2 => ?_⟩)
          refine And.intro (sz_of (by simp)) fun r hr => kP r [v, v2] _ (((e12.trans e13).trans e14).trans (Ex.new hr)) upd_same ⟨v2, rfl, ?_⟩
          refine SimAt.frame (H := H14) (fun b o _ z => (Ex.new hr) b o z) (hv2.imp fun b o z1 z2 z3 => ?_)
          rw [z3, (e12.trans e13) _ _ hl11] at z1
          cases z1
        subst hxs
        have nx : x ≠ l := fun z => by rw [z, hl11] at hx; cases hx
        have np : p2 ≠ l := fun z => by rw [z, hl11] at hp2; cases hp2
        have p1 := drawn_pat (simOf_drawn c h1) h1 h9 pI
        dsimp only [List.set]
        refine s_callX (vs := [.ref d2, .int (c / 5)]) (by (repeat' (first | with_reducible exact ev_c | ((with_reducible show Ev (tVar _) _ _ _); exact ev_var rfl) | with_reducible exact ea_nil | with_reducible exact eo_none | with_reducible refine' ea_cons ?_ ?_ | with_reducible refine' eo_some ?_ | with_reducible refine' ev_and2 ?_ ?_ | with_reducible refine' ev_or2 ?_ ?_ | with_reducible refine' ev_notV ?_ | with_reducible exact ru_I | with_reducible refine' ev_un ?_ ?_ | with_reducible exact rv_I0 | with_reducible exact rv_isN | with_reducible exact rv_notN | with_reducible refine' rv_I ?_ | with_reducible refine' rv_eq ?_ | with_reducible refine' rv_ne ?_ | with_reducible refine' ev_op ?_ ?_ ?_ | with_reducible refine' ev_chain2 ?_ ?_ ?_ ?_ ?_ | with_reducible refine' et_B ?_ | with_reducible refine' et_test ?_ | with_reducible refine' et_and2 ?_ ?_ | with_reducible refine' et_or2 ?_ ?_ | with_reducible refine' et_not ?_ | with_reducible refine' ev_call ?_ ?_ | with_reducible refine' ev_callS ?_ ?_ | with_reducible refine' ev_cb ?_ ?_ | with_reducible exact isi_bool (by assumption) | with_reducible exact isi_int (by assumption) | with_reducible exact isi_list (by assumption) | with_reducible exact rc_len (by assumption) | with_reducible exact rc_sum (by assumption) | with_reducible exact rc_abs | with_reducible exact isi_listL (by assumption) | with_reducible exact isi_intI | with_reducible exact isi_boolI | with_reducible exact rc_lenT (by assumption) | with_reducible exact isi_tup (by assumption) | with_reducible exact rv_eqL (by assumption) (by assumption) | with_reducible exact rv_neL (by assumption) (by assumption) | with_reducible exact rv_neT (by assumption) (by assumption) | with_reducible exact rv_ixL (by assumption) (by assumption) | with_reducible exact rv_ixT (by assumption) (by assumption) | with_reducible refine' ev_din ?_ ?_ (by assumption) | with_reducible refine' ev_dnotin ?_ ?_ (by assumption) | with_reducible refine' ev_dget ?_ ?_ (by assumption) (by assumption) | ((with_reducible show SpV _ _ _ _); assumption) | ((with_reducible show RV _ _ _ _ _); assumption) | ((with_reducible show RC _ _ _ _); assumption) | ((with_reducible show CDiv _ _); exact ⟨by omega, by omega⟩) | ((with_reducible show CMul _ _); first | exact .inl ⟨by omega, by omega⟩ | exact .inr ⟨by omega, by omega⟩) | ((with_reducible show CPow _ _); exact ⟨by omega, by omega, by first | decide | assumption | omega⟩) | ((with_reducible show (0 : Int) < _); omega) | ((with_reducible show (0 : Int) ≤ _); omega) | ((with_reducible show scal _ _ = true); rfl)))) fun H13 e13 => s_byhand ((e12.trans e13) _ _ (e11 _ _ h10)) h1 h9 p1 (by omega) fun d3 H14 hd3 e14 h14 => ?_
        dsimp only [List.set]
        have e1214 := e13.trans e14
        refine key _ _ ⟨.ref x, d3, rfl, (e511.trans e12).trans e1214, ?_, ?_, ?_⟩
        · rw [ei]
          refine ⟨x, dx, p2, [v, v2], rfl, nx, np, e1214 _ _ g1, e1214 _ _ g2, ⟨rfl, fun i w2 b z1 z2 => ?_⟩, (show (2 : Nat) ≤ 40 by decide)⟩
          match i, z1, z2 with
          | 0, z1, z2 => cases z1; cases z2; exact hv10.frame fun b o _ z => ((e11.trans e12).trans e1214) b o z
          | 1, z1, z2 => cases z1; cases z2; exact hv2.frame fun b o _ z => e1214 b o z
        · intro z
          rcases hd3 with hd3 | hd3
          · rw [z, (e12.trans e13) _ _ hl11] at hd3
            cases hd3
          · exact nd2 (hd3.symm.trans z)
        · rw [ei]
          exact h14
      · have hb := of_decide_eq_false hb
        have ei : itemOf K n c = .inl (simOf c n) := if_neg hb
        refine key _ _ ⟨v, d2, rfl, e510.trans e11, ?_, nd2, ?_⟩
        · rw [ei]
          exact hv10.frame fun b o _ z => e11 b o z
        · rw [ei]
          exact e11 _ _ h10
    rintro pl σ' H5 ⟨y5, y6, vs, dd, rfl, e5, hl5, hpl, npl, hvl, hrows, ndd, hdd⟩
    rw [List.length_map] at hvl
    rw [List.length_map, List.take_length] at hrows hdd
    have okI : ∀ x ∈ cells.map (itemOf K n), okK K n x := fun x hx => by
      obtain ⟨c, _, rfl⟩ := List.mem_map.mp hx
      exact itemOf_ok K h1 c
    have hlen : (cells.map (itemOf K n)).length ≤ 37 := by rw [List.length_map]; exact hcl
    generalize cells.map (itemOf K n) = its at *
    have G3 : Good (rowF K (rowF K (simF K))) n 74 (okR (okK K n) 37 n) (toR (toK K)) := row_good K G2 h1 h9 (by omega) (by omega)
    have okU : okR (F := rowF K (simF K)) (okK K n) 37 n (.inr its) := ⟨hlen, okI⟩
    have pD : PatB n (36 + 9 * 74) (rowTo (toK K) its ts) := G3.pat okU pb
    have dU : (rowF K (rowF K (simF K))).done (.inr its) (some (ts.map V.int)) = .lst ((rowTo (toK K) its ts).map V.int) := G3.done (c := .inr its) okU pb (by omega)
    have okV := G3.undo okU
    have dV : (rowF K (rowF K (simF K))).done ((rowF K (rowF K (simF K))).undo (.inr its)) (some ((rowTo (toK K) its ts).map V.int)) = .lst (ts.map V.int) := by
      rw [G3.done okV pD (by omega)]
      exact congrArg (fun z => Re.lst (List.map V.int z)) (G3.back okU pb)
    have uu := G3.uu okU
    have bU : (rowTo (toK K) its ts).sum / (n : Int) = (rowF K (rowF K (simF K))).balls (.inr its) (ts.sum / (n : Int)) := G3.balls okU pb
    have bV : ts.sum / (n : Int) = (rowF K (rowF K (simF K))).balls ((rowF K (rowF K (simF K))).undo (.inr its)) ((rowTo (toK K) its ts).sum / (n : Int)) := by
      have z := G3.balls okV pD
      have z2 := G3.back okU pb
      change toR (toK K) ((rowF K (rowF K (simF K))).undo (.inr its)) (rowTo (toK K) its ts) = ts at z2
      rw [z2] at z
      exact z
    have cU := G3.can okU
    have cV := G3.can okV
    generalize hfs : rowTo (toK K) its ts = fs at *
    have fl := pD.len
    refine q_te ?_
    refine makeR (fun xs H' => RowsOf (rowF K (simF K)) (fun a => a ≠ l) H' xs its) (fun xs H1 H2 e hr => ⟨hr.1, fun i v c g1 g2 => F2.mono e (hr.2 i v c g1 g2)⟩) (fun P2 kP => ?_) (fun x dx p2 xs H6 e6 hx hp2 hne g1 g2 hr => ?_)
    · exact (ev_var (i := 3) rfl) H5 (Ex.refl H5) _ fun H6 e6 => kP l vs H6 e6 (e6 _ _ hl5) ⟨hrows.1, fun i v c g1 g2 => F2.mono e6 (hrows.2 i v c g1 g2)⟩
    dsimp only [List.set]
    have nx : x ≠ l := fun z => by rw [z, hl5] at hx; cases hx
    have np : p2 ≠ l := fun z => by rw [z, hl5] at hp2; cases hp2
    have hat6 : (rowF K (rowF K (simF K))).at_ (fun a => a ≠ l) H6 (.ref x) (.inr its) := ⟨x, dx, p2, xs, rfl, nx, np, g1, g2, hr, by omega⟩
    refine q_clearE (l := l) (ev_var rfl) (e6 _ _ hl5) fun H7 e7 => ?_
    have e57 := e6.trans e7
    have hat7 : (rowF K (rowF K (simF K))).at_ (fun a => a ≠ l) (upd H7 l (.lst [])) (.ref x) (.inr its) := F3.frame (fun b o z1 z2 => by
      rw [upd_ne z1]
      exact e7 _ _ z2) hat6
    have hdd7 : upd H7 l (.lst []) dd = some (.lst (fs.map V.int)) := by
      rw [upd_ne ndd]
      exact e57 _ _ hdd
    have e27 : Ex H2 (upd H7 l (.lst [])) := Ex.mut (e5.trans e57) hl
    clear hat6 g1 g2 hr hrows hl5 hpl
    generalize upd H7 l (.lst []) = H8 at *
    have p8 := e27 _ _ h2
    have sp8 : SqL K H8 p (ts.map V.int) := sq_of p8
    have hs8 := ex_l e27 hs2
    refine q_asgL (xs := ts.map V.int) (el_cb (by (repeat' (first | with_reducible exact ev_c | ((with_reducible show Ev (tVar _) _ _ _); exact ev_var rfl) | with_reducible exact ea_nil | with_reducible exact eo_none | with_reducible refine' ea_cons ?_ ?_ | with_reducible refine' eo_some ?_ | with_reducible refine' ev_and2 ?_ ?_ | with_reducible refine' ev_or2 ?_ ?_ | with_reducible refine' ev_notV ?_ | with_reducible exact ru_I | with_reducible refine' ev_un ?_ ?_ | with_reducible exact rv_I0 | with_reducible exact rv_isN | with_reducible exact rv_notN | with_reducible refine' rv_I ?_ | with_reducible refine' rv_eq ?_ | with_reducible refine' rv_ne ?_ | with_reducible refine' ev_op ?_ ?_ ?_ | with_reducible refine' ev_chain2 ?_ ?_ ?_ ?_ ?_ | with_reducible refine' et_B ?_ | with_reducible refine' et_test ?_ | with_reducible refine' et_and2 ?_ ?_ | with_reducible refine' et_or2 ?_ ?_ | with_reducible refine' et_not ?_ | with_reducible refine' ev_call ?_ ?_ | with_reducible refine' ev_callS ?_ ?_ | with_reducible refine' ev_cb ?_ ?_ | with_reducible exact isi_bool (by assumption) | with_reducible exact isi_int (by assumption) | with_reducible exact isi_list (by assumption) | with_reducible exact rc_len (by assumption) | with_reducible exact rc_sum (by assumption) | with_reducible exact rc_abs | with_reducible exact isi_listL (by assumption) | with_reducible exact isi_intI | with_reducible exact isi_boolI | with_reducible exact rc_lenT (by assumption) | with_reducible exact isi_tup (by assumption) | with_reducible exact rv_eqL (by assumption) (by assumption) | with_reducible exact rv_neL (by assumption) (by assumption) | with_reducible exact rv_neT (by assumption) (by assumption) | with_reducible exact rv_ixL (by assumption) (by assumption) | with_reducible exact rv_ixT (by assumption) (by assumption) | with_reducible refine' ev_din ?_ ?_ (by assumption) | with_reducible refine' ev_dnotin ?_ ?_ (by assumption) | with_reducible refine' ev_dget ?_ ?_ (by assumption) (by assumption) | ((with_reducible show SpV _ _ _ _); assumption) | ((with_reducible show RV _ _ _ _ _); assumption) | ((with_reducible show RC _ _ _ _); assumption) | ((with_reducible show CDiv _ _); exact ⟨by omega, by omega⟩) | ((with_reducible show CMul _ _); first | exact .inl ⟨by omega, by omega⟩ | exact .inr ⟨by omega, by omega⟩) | ((with_reducible show CPow _ _); exact ⟨by omega, by omega, by first | decide | assumption | omega⟩) | ((with_reducible show (0 : Int) < _); omega) | ((with_reducible show (0 : Int) ≤ _); omega) | ((with_reducible show scal _ _ = true); rfl)))) (rcl_list sp8)) fun hd H9 hhd e9 h9' => ?_
    dsimp only [List.set]
    have hat9 := F3.mono e9 hat7
    refine q_asgL (el_done (F3.done hat9) (ev_var rfl) (ev_var rfl) h9' dU) fun f H10 hf e10 h10 => ?_
    dsimp only [List.set]
    have e810 := e9.trans e10
    have hat10 := F3.mono e10 hat9
    have p10 := e810 _ _ p8
    have sp10 : SqL K H10 p (ts.map V.int) := sq_of p10
    have shd10 : SqL K H10 hd (ts.map V.int) := sq_of (e10 _ _ h9')
    have sdd10 : SqL K H10 dd (fs.map V.int) := sq_of (e810 _ _ hdd7)
    have sk := sv_kinds (K := K) (RowAt.obj hat10)
    have ss := sv_same (K := K) h10 sdd10 (by omega)
    refine q_when (b := !decide (ts = ts) || (!true || !decide (fs = fs))) (by (repeat' (first | with_reducible exact ev_c | ((with_reducible show Ev (tVar _) _ _ _); exact ev_var rfl) | with_reducible exact ea_nil | with_reducible exact eo_none | with_reducible refine' ea_cons ?_ ?_ | with_reducible refine' eo_some ?_ | with_reducible refine' ev_and2 ?_ ?_ | with_reducible refine' ev_or2 ?_ ?_ | with_reducible refine' ev_notV ?_ | with_reducible exact ru_I | with_reducible refine' ev_un ?_ ?_ | with_reducible exact rv_I0 | with_reducible exact rv_isN | with_reducible exact rv_notN | with_reducible refine' rv_I ?_ | with_reducible refine' rv_eq ?_ | with_reducible refine' rv_ne ?_ | with_reducible refine' ev_op ?_ ?_ ?_ | with_reducible refine' ev_chain2 ?_ ?_ ?_ ?_ ?_ | with_reducible refine' et_B ?_ | with_reducible refine' et_test ?_ | with_reducible refine' et_and2 ?_ ?_ | with_reducible refine' et_or2 ?_ ?_ | with_reducible refine' et_not ?_ | with_reducible refine' ev_call ?_ ?_ | with_reducible refine' ev_callS ?_ ?_ | with_reducible refine' ev_cb ?_ ?_ | with_reducible exact isi_bool (by assumption) | with_reducible exact isi_int (by assumption) | with_reducible exact isi_list (by assumption) | with_reducible exact rc_len (by assumption) | with_reducible exact rc_sum (by assumption) | with_reducible exact rc_abs | with_reducible exact isi_listL (by assumption) | with_reducible exact isi_intI | with_reducible exact isi_boolI | with_reducible exact rc_lenT (by assumption) | with_reducible exact isi_tup (by assumption) | with_reducible exact rv_eqL (by assumption) (by assumption) | with_reducible exact rv_neL (by assumption) (by assumption) | with_reducible exact rv_neT (by assumption) (by assumption) | with_reducible exact rv_ixL (by assumption) (by assumption) | with_reducible exact rv_ixT (by assumption) (by assumption) | with_reducible refine' ev_din ?_ ?_ (by assumption) | with_reducible refine' ev_dnotin ?_ ?_ (by assumption) | with_reducible refine' ev_dget ?_ ?_ (by assumption) (by assumption) | ((with_reducible show SpV _ _ _ _); assumption) | ((with_reducible show RV _ _ _ _ _); assumption) | ((with_reducible show RC _ _ _ _); assumption) | ((with_reducible show CDiv _ _); exact ⟨by omega, by omega⟩) | ((with_reducible show CMul _ _); first | exact .inl ⟨by omega, by omega⟩ | exact .inr ⟨by omega, by omega⟩) | ((with_reducible show CPow _ _); exact ⟨by omega, by omega, by first | decide | assumption | omega⟩) | ((with_reducible show (0 : Int) < _); omega) | ((with_reducible show (0 : Int) ≤ _); omega) | ((with_reducible show scal _ _ = true); rfl)))) (fun h => by simp at h) (fun _ H11 e11 => ?_)
    have hat11 := F3.mono e11 hat10
    have p11 := e11 _ _ p10
    have f11 := e11 _ _ h10
    have sp11 : SqL K H11 p (ts.map V.int) := sq_of p11
    have rF : RowI fs := pD.row h1 h9 (by omega)
    have rT : RowI ts := pat.row
    have bF := sv_balls_of (K := K) f11 rF pD.no
    rw [fl] at bF
    have hn0 : (0 : Int) < (n : Int) := by omega
    refine q_when (b := !decide (V.int ((rowF K (rowF K (simF K))).balls (.inr its) (ts.sum / (n : Int))) = V.int (fs.sum / (n : Int)))) (et_test (ev_op (ev_balls (F3.balls hat11) (ev_var rfl) (by (repeat' (first | with_reducible exact ev_c | ((with_reducible show Ev (tVar _) _ _ _); exact ev_var rfl) | with_reducible exact ea_nil | with_reducible exact eo_none | with_reducible refine' ea_cons ?_ ?_ | with_reducible refine' eo_some ?_ | with_reducible refine' ev_and2 ?_ ?_ | with_reducible refine' ev_or2 ?_ ?_ | with_reducible refine' ev_notV ?_ | with_reducible exact ru_I | with_reducible refine' ev_un ?_ ?_ | with_reducible exact rv_I0 | with_reducible exact rv_isN | with_reducible exact rv_notN | with_reducible refine' rv_I ?_ | with_reducible refine' rv_eq ?_ | with_reducible refine' rv_ne ?_ | with_reducible refine' ev_op ?_ ?_ ?_ | with_reducible refine' ev_chain2 ?_ ?_ ?_ ?_ ?_ | with_reducible refine' et_B ?_ | with_reducible refine' et_test ?_ | with_reducible refine' et_and2 ?_ ?_ | with_reducible refine' et_or2 ?_ ?_ | with_reducible refine' et_not ?_ | with_reducible refine' ev_call ?_ ?_ | with_reducible refine' ev_callS ?_ ?_ | with_reducible refine' ev_cb ?_ ?_ | with_reducible exact isi_bool (by assumption) | with_reducible exact isi_int (by assumption) | with_reducible exact isi_list (by assumption) | with_reducible exact rc_len (by assumption) | with_reducible exact rc_sum (by assumption) | with_reducible exact rc_abs | with_reducible exact isi_listL (by assumption) | with_reducible exact isi_intI | with_reducible exact isi_boolI | with_reducible exact rc_lenT (by assumption) | with_reducible exact isi_tup (by assumption) | with_reducible exact rv_eqL (by assumption) (by assumption) | with_reducible exact rv_neL (by assumption) (by assumption) | with_reducible exact rv_neT (by assumption) (by assumption) | with_reducible exact rv_ixL (by assumption) (by assumption) | with_reducible exact rv_ixT (by assumption) (by assumption) | with_reducible refine' ev_din ?_ ?_ (by assumption) | with_reducible refine' ev_dnotin ?_ ?_ (by assumption) | with_reducible refine' ev_dget ?_ ?_ (by assumption) (by assumption) | ((with_reducible show SpV _ _ _ _); assumption) | ((with_reducible show RV _ _ _ _ _); assumption) | ((with_reducible show RC _ _ _ _); assumption) | ((with_reducible show CDiv _ _); exact ⟨by omega, by omega⟩) | ((with_reducible show CMul _ _); first | exact .inl ⟨by omega, by omega⟩ | exact .inr ⟨by omega, by omega⟩) | ((with_reducible show CPow _ _); exact ⟨by omega, by omega, by first | decide | assumption | omega⟩) | ((with_reducible show (0 : Int) < _); omega) | ((with_reducible show (0 : Int) ≤ _); omega) | ((with_reducible show scal _ _ = true); rfl)))) cU) (by (repeat' (first | with_reducible exact ev_c | ((with_reducible show Ev (tVar _) _ _ _); exact ev_var rfl) | with_reducible exact ea_nil | with_reducible exact eo_none | with_reducible refine' ea_cons ?_ ?_ | with_reducible refine' eo_some ?_ | with_reducible refine' ev_and2 ?_ ?_ | with_reducible refine' ev_or2 ?_ ?_ | with_reducible refine' ev_notV ?_ | with_reducible exact ru_I | with_reducible refine' ev_un ?_ ?_ | with_reducible exact rv_I0 | with_reducible exact rv_isN | with_reducible exact rv_notN | with_reducible refine' rv_I ?_ | with_reducible refine' rv_eq ?_ | with_reducible refine' rv_ne ?_ | with_reducible refine' ev_op ?_ ?_ ?_ | with_reducible refine' ev_chain2 ?_ ?_ ?_ ?_ ?_ | with_reducible refine' et_B ?_ | with_reducible refine' et_test ?_ | with_reducible refine' et_and2 ?_ ?_ | with_reducible refine' et_or2 ?_ ?_ | with_reducible refine' et_not ?_ | with_reducible refine' ev_call ?_ ?_ | with_reducible refine' ev_callS ?_ ?_ | with_reducible refine' ev_cb ?_ ?_ | with_reducible exact isi_bool (by assumption) | with_reducible exact isi_int (by assumption) | with_reducible exact isi_list (by assumption) | with_reducible exact rc_len (by assumption) | with_reducible exact rc_sum (by assumption) | with_reducible exact rc_abs | with_reducible exact isi_listL (by assumption) | with_reducible exact isi_intI | with_reducible exact isi_boolI | with_reducible exact rc_lenT (by assumption) | with_reducible exact isi_tup (by assumption) | with_reducible exact rv_eqL (by assumption) (by assumption) | with_reducible exact rv_neL (by assumption) (by assumption) | with_reducible exact rv_neT (by assumption) (by assumption) | with_reducible exact rv_ixL (by assumption) (by assumption) | with_reducible exact rv_ixT (by assumption) (by assumption) | with_reducible refine' ev_din ?_ ?_ (by assumption) | with_reducible refine' ev_dnotin ?_ ?_ (by assumption) | with_reducible refine' ev_dget ?_ ?_ (by assumption) (by assumption) | ((with_reducible show SpV _ _ _ _); assumption) | ((with_reducible show RV _ _ _ _ _); assumption) | ((with_reducible show RC _ _ _ _); assumption) | ((with_reducible show CDiv _ _); exact ⟨by omega, by omega⟩) | ((with_reducible show CMul _ _); first | exact .inl ⟨by omega, by omega⟩ | exact .inr ⟨by omega, by omega⟩) | ((with_reducible show CPow _ _); exact ⟨by omega, by omega, by first | decide | assumption | omega⟩) | ((with_reducible show (0 : Int) < _); omega) | ((with_reducible show (0 : Int) ≤ _); omega) | ((with_reducible show scal _ _ = true); rfl)))) (rv_ne rfl))) (fun h => by rw [← bU] at h; simp at h) (fun _ H12 e12 => ?_)
    have hat12 := F3.mono e12 hat11
    refine q_te ?_
    refine t_meth (vs := []) (F3.undone hat12) (ev_var rfl) (fun _ _ => ea_nil) fun H13 e13 => ⟨rfl, cU, fun u H14 e14 hu => ?_⟩
    dsimp only [List.set]
    have e1114 := (e12.trans e13).trans e14
    have p14 := e1114 _ _ p11
    have f14 := e1114 _ _ f11
    have sp14 : SqL K H14 p (ts.map V.int) := sq_of p14
    have sf14 : SqL K H14 f (fs.map V.int) := sq_of f14
    have hat14 := F3.mono e1114 hat11
    have ou : ObjAt K H14 u := RowAt.obj hu
    refine q_when (b := !true || !decide (ts = ts)) (et_or2 (et_not (et_B (ev_isO T (ev_var rfl) ou))) (et_not (et_B (ev_cLV (el_done (F3.done hu) (ev_var rfl) (ev_var rfl) f14 dV) (ev_var rfl) fun g H15 h15 e15 => sv_same h15 (ex_l e15 sp14) (by omega))))) (fun h => by simp at h) (fun _ H15 e15 => ?_)
    have hu15 := F3.mono e15 hu
    have p15 := e15 _ _ p14
    have f15 := e15 _ _ f14
    have bF15 := sv_balls_of (K := K) f15 rF pD.no
    have bT15 := sv_balls_of (K := K) p15 rT pat.no
    rw [fl] at bF15
    rw [tl] at bT15
    refine q_when (b := !decide (V.int ((rowF K (rowF K (simF K))).balls ((rowF K (rowF K (simF K))).undo (.inr its)) (fs.sum / (n : Int))) = V.int (ts.sum / (n : Int)))) (et_test (ev_op (ev_balls (F3.balls hu15) (ev_var rfl) (by (repeat' (first | with_reducible exact ev_c | ((with_reducible show Ev (tVar _) _ _ _); exact ev_var rfl) | with_reducible exact ea_nil | with_reducible exact eo_none | with_reducible refine' ea_cons ?_ ?_ | with_reducible refine' eo_some ?_ | with_reducible refine' ev_and2 ?_ ?_ | with_reducible refine' ev_or2 ?_ ?_ | with_reducible refine' ev_notV ?_ | with_reducible exact ru_I | with_reducible refine' ev_un ?_ ?_ | with_reducible exact rv_I0 | with_reducible exact rv_isN | with_reducible exact rv_notN | with_reducible refine' rv_I ?_ | with_reducible refine' rv_eq ?_ | with_reducible refine' rv_ne ?_ | with_reducible refine' ev_op ?_ ?_ ?_ | with_reducible refine' ev_chain2 ?_ ?_ ?_ ?_ ?_ | with_reducible refine' et_B ?_ | with_reducible refine' et_test ?_ | with_reducible refine' et_and2 ?_ ?_ | with_reducible refine' et_or2 ?_ ?_ | with_reducible refine' et_not ?_ | with_reducible refine' ev_call ?_ ?_ | with_reducible refine' ev_callS ?_ ?_ | with_reducible refine' ev_cb ?_ ?_ | with_reducible exact isi_bool (by assumption) | with_reducible exact isi_int (by assumption) | with_reducible exact isi_list (by assumption) | with_reducible exact rc_len (by assumption) | with_reducible exact rc_sum (by assumption) | with_reducible exact rc_abs | with_reducible exact isi_listL (by assumption) | with_reducible exact isi_intI | with_reducible exact isi_boolI | with_reducible exact rc_lenT (by assumption) | with_reducible exact isi_tup (by assumption) | with_reducible exact rv_eqL (by assumption) (by assumption) | with_reducible exact rv_neL (by assumption) (by assumption) | with_reducible exact rv_neT (by assumption) (by assumption) | with_reducible exact rv_ixL (by assumption) (by assumption) | with_reducible exact rv_ixT (by assumption) (by assumption) | with_reducible refine' ev_din ?_ ?_ (by assumption) | with_reducible refine' ev_dnotin ?_ ?_ (by assumption) | with_reducible refine' ev_dget ?_ ?_ (by assumption) (by assumption) | ((with_reducible show SpV _ _ _ _); assumption) | ((with_reducible show RV _ _ _ _ _); assumption) | ((with_reducible show RC _ _ _ _); assumption) | ((with_reducible show CDiv _ _); exact ⟨by omega, by omega⟩) | ((with_reducible show CMul _ _); first | exact .inl ⟨by omega, by omega⟩ | exact .inr ⟨by omega, by omega⟩) | ((with_reducible show CPow _ _); exact ⟨by omega, by omega, by first | decide | assumption | omega⟩) | ((with_reducible show (0 : Int) < _); omega) | ((with_reducible show (0 : Int) ≤ _); omega) | ((with_reducible show scal _ _ = true); rfl)))) cV) (by (repeat' (first | with_reducible exact ev_c | ((with_reducible show Ev (tVar _) _ _ _); exact ev_var rfl) | with_reducible exact ea_nil | with_reducible exact eo_none | with_reducible refine' ea_cons ?_ ?_ | with_reducible refine' eo_some ?_ | with_reducible refine' ev_and2 ?_ ?_ | with_reducible refine' ev_or2 ?_ ?_ | with_reducible refine' ev_notV ?_ | with_reducible exact ru_I | with_reducible refine' ev_un ?_ ?_ | with_reducible exact rv_I0 | with_reducible exact rv_isN | with_reducible exact rv_notN | with_reducible refine' rv_I ?_ | with_reducible refine' rv_eq ?_ | with_reducible refine' rv_ne ?_ | with_reducible refine' ev_op ?_ ?_ ?_ | with_reducible refine' ev_chain2 ?_ ?_ ?_ ?_ ?_ | with_reducible refine' et_B ?_ | with_reducible refine' et_test ?_ | with_reducible refine' et_and2 ?_ ?_ | with_reducible refine' et_or2 ?_ ?_ | with_reducible refine' et_not ?_ | with_reducible refine' ev_call ?_ ?_ | with_reducible refine' ev_callS ?_ ?_ | with_reducible refine' ev_cb ?_ ?_ | with_reducible exact isi_bool (by assumption) | with_reducible exact isi_int (by assumption) | with_reducible exact isi_list (by assumption) | with_reducible exact rc_len (by assumption) | with_reducible exact rc_sum (by assumption) | with_reducible exact rc_abs | with_reducible exact isi_listL (by assumption) | with_reducible exact isi_intI | with_reducible exact isi_boolI | with_reducible exact rc_lenT (by assumption) | with_reducible exact isi_tup (by assumption) | with_reducible exact rv_eqL (by assumption) (by assumption) | with_reducible exact rv_neL (by assumption) (by assumption) | with_reducible exact rv_neT (by assumption) (by assumption) | with_reducible exact rv_ixL (by assumption) (by assumption) | with_reducible exact rv_ixT (by assumption) (by assumption) | with_reducible refine' ev_din ?_ ?_ (by assumption) | with_reducible refine' ev_dnotin ?_ ?_ (by assumption) | with_reducible refine' ev_dget ?_ ?_ (by assumption) (by assumption) | ((with_reducible show SpV _ _ _ _); assumption) | ((with_reducible show RV _ _ _ _ _); assumption) | ((with_reducible show RC _ _ _ _); assumption) | ((with_reducible show CDiv _ _); exact ⟨by omega, by omega⟩) | ((with_reducible show CMul _ _); first | exact .inl ⟨by omega, by omega⟩ | exact .inr ⟨by omega, by omega⟩) | ((with_reducible show CPow _ _); exact ⟨by omega, by omega, by first | decide | assumption | omega⟩) | ((with_reducible show (0 : Int) < _); omega) | ((with_reducible show (0 : Int) ≤ _); omega) | ((with_reducible show scal _ _ = true); rfl)))) (rv_ne rfl))) (fun h => by rw [← bV] at h; simp at h) (fun _ H16 e16 => ?_)
    have e816 := ((((e810.trans e11).trans e1114).trans e15).trans e16)
    have hs16 := ex_l e816 hs8
    have c216 := sv_cell (k := 2) hs16
    obtain ⟨w9, hw0, hw1⟩ : ∃ w9 : Int, ns.getD 2 0 % 9 = w9 ∧ 0 ≤ w9 ∧ w9 < 9 := ⟨_, rfl, by omega, by omega⟩
    refine q_asg (v := .int w9) (by rw [← hw0]; (repeat' (first | with_reducible exact ev_c | ((with_reducible show Ev (tVar _) _ _ _); exact ev_var rfl) | with_reducible exact ea_nil | with_reducible exact eo_none | with_reducible refine' ea_cons ?_ ?_ | with_reducible refine' eo_some ?_ | with_reducible refine' ev_and2 ?_ ?_ | with_reducible refine' ev_or2 ?_ ?_ | with_reducible refine' ev_notV ?_ | with_reducible exact ru_I | with_reducible refine' ev_un ?_ ?_ | with_reducible exact rv_I0 | with_reducible exact rv_isN | with_reducible exact rv_notN | with_reducible refine' rv_I ?_ | with_reducible refine' rv_eq ?_ | with_reducible refine' rv_ne ?_ | with_reducible refine' ev_op ?_ ?_ ?_ | with_reducible refine' ev_chain2 ?_ ?_ ?_ ?_ ?_ | with_reducible refine' et_B ?_ | with_reducible refine' et_test ?_ | with_reducible refine' et_and2 ?_ ?_ | with_reducible refine' et_or2 ?_ ?_ | with_reducible refine' et_not ?_ | with_reducible refine' ev_call ?_ ?_ | with_reducible refine' ev_callS ?_ ?_ | with_reducible refine' ev_cb ?_ ?_ | with_reducible exact isi_bool (by assumption) | with_reducible exact isi_int (by assumption) | with_reducible exact isi_list (by assumption) | with_reducible exact rc_len (by assumption) | with_reducible exact rc_sum (by assumption) | with_reducible exact rc_abs | with_reducible exact isi_listL (by assumption) | with_reducible exact isi_intI | with_reducible exact isi_boolI | with_reducible exact rc_lenT (by assumption) | with_reducible exact isi_tup (by assumption) | with_reducible exact rv_eqL (by assumption) (by assumption) | with_reducible exact rv_neL (by assumption) (by assumption) | with_reducible exact rv_neT (by assumption) (by assumption) | with_reducible exact rv_ixL (by assumption) (by assumption) | with_reducible exact rv_ixT (by assumption) (by assumption) | with_reducible refine' ev_din ?_ ?_ (by assumption) | with_reducible refine' ev_dnotin ?_ ?_ (by assumption) | with_reducible refine' ev_dget ?_ ?_ (by assumption) (by assumption) | ((with_reducible show SpV _ _ _ _); assumption) | ((with_reducible show RV _ _ _ _ _); assumption) | ((with_reducible show RC _ _ _ _); assumption) | ((with_reducible show CDiv _ _); exact ⟨by omega, by omega⟩) | ((with_reducible show CMul _ _); first | exact .inl ⟨by omega, by omega⟩ | exact .inr ⟨by omega, by omega⟩) | ((with_reducible show CPow _ _); exact ⟨by omega, by omega, by first | decide | assumption | omega⟩) | ((with_reducible show (0 : Int) < _); omega) | ((with_reducible show (0 : Int) ≤ _); omega) | ((with_reducible show scal _ _ = true); rfl)))) fun H17 e17 => ?_
    dsimp only [List.set]
    have e1417 := (e15.trans e16).trans e17
    refine q_forD (R := fun xs H' => ∀ x ∈ xs, ∃ s p, SimAt K p H' x s ∧ s.can ∧ FarS s) (fun Q2 kQ => ?_) (fun HB i σ' H' => ∃ y, σ' = [some (V.ref a), some (V.int (n : Int)), some (V.ref p), some (V.ref l), some (V.ref dd), y5, y, some (V.ref x), some (V.ref hd), some (V.ref f), some u, some (.int w9)] ∧ Ex HB H') (fun HB e => ⟨_, rfl, Ex.refl HB⟩) (fun HB i σ' H' ⟨_, _, e⟩ => e) ?_ ?_
    · refine t_lstX (t_consX (make1 (v := .int (1000001 + w9)) (by (repeat' (first | with_reducible exact ev_c | ((with_reducible show Ev (tVar _) _ _ _); exact ev_var rfl) | with_reducible exact ea_nil | with_reducible exact eo_none | with_reducible refine' ea_cons ?_ ?_ | with_reducible refine' eo_some ?_ | with_reducible refine' ev_and2 ?_ ?_ | with_reducible refine' ev_or2 ?_ ?_ | with_reducible refine' ev_notV ?_ | with_reducible exact ru_I | with_reducible refine' ev_un ?_ ?_ | with_reducible exact rv_I0 | with_reducible exact rv_isN | with_reducible exact rv_notN | with_reducible refine' rv_I ?_ | with_reducible refine' rv_eq ?_ | with_reducible refine' rv_ne ?_ | with_reducible refine' ev_op ?_ ?_ ?_ | with_reducible refine' ev_chain2 ?_ ?_ ?_ ?_ ?_ | with_reducible refine' et_B ?_ | with_reducible refine' et_test ?_ | with_reducible refine' et_and2 ?_ ?_ | with_reducible refine' et_or2 ?_ ?_ | with_reducible refine' et_not ?_ | with_reducible refine' ev_call ?_ ?_ | with_reducible refine' ev_callS ?_ ?_ | with_reducible refine' ev_cb ?_ ?_ | with_reducible exact isi_bool (by assumption) | with_reducible exact isi_int (by assumption) | with_reducible exact isi_list (by assumption) | with_reducible exact rc_len (by assumption) | with_reducible exact rc_sum (by assumption) | with_reducible exact rc_abs | with_reducible exact isi_listL (by assumption) | with_reducible exact isi_intI | with_reducible exact isi_boolI | with_reducible exact rc_lenT (by assumption) | with_reducible exact isi_tup (by assumption) | with_reducible exact rv_eqL (by assumption) (by assumption) | with_reducible exact rv_neL (by assumption) (by assumption) | with_reducible exact rv_neT (by assumption) (by assumption) | with_reducible exact rv_ixL (by assumption) (by assumption) | with_reducible exact rv_ixT (by assumption) (by assumption) | with_reducible refine' ev_din ?_ ?_ (by assumption) | with_reducible refine' ev_dnotin ?_ ?_ (by assumption) | with_reducible refine' ev_dget ?_ ?_ (by assumption) (by assumption) | ((with_reducible show SpV _ _ _ _); assumption) | ((with_reducible show RV _ _ _ _ _); assumption) | ((with_reducible show RC _ _ _ _); assumption) | ((with_reducible show CDiv _ _); exact ⟨by omega, by omega⟩) | ((with_reducible show CMul _ _); first | exact .inl ⟨by omega, by omega⟩ | exact .inr ⟨by omega, by omega⟩) | ((with_reducible show CPow _ _); exact ⟨by omega, by omega, by first | decide | assumption | omega⟩) | ((with_reducible show (0 : Int) < _); omega) | ((with_reducible show (0 : Int) ≤ _); omega) | ((with_reducible show scal _ _ = true); rfl)))) fun x1 d1 H18 e18 hx1 g1 => ?_))
      refine t_consX (make1 (v := .int (-1000001 - w9)) (by (repeat' (first | with_reducible exact ev_c | ((with_reducible show Ev (tVar _) _ _ _); exact ev_var rfl) | with_reducible exact ea_nil | with_reducible exact eo_none | with_reducible refine' ea_cons ?_ ?_ | with_reducible refine' eo_some ?_ | with_reducible refine' ev_and2 ?_ ?_ | with_reducible refine' ev_or2 ?_ ?_ | with_reducible refine' ev_notV ?_ | with_reducible exact ru_I | with_reducible refine' ev_un ?_ ?_ | with_reducible exact rv_I0 | with_reducible exact rv_isN | with_reducible exact rv_notN | with_reducible refine' rv_I ?_ | with_reducible refine' rv_eq ?_ | with_reducible refine' rv_ne ?_ | with_reducible refine' ev_op ?_ ?_ ?_ | with_reducible refine' ev_chain2 ?_ ?_ ?_ ?_ ?_ | with_reducible refine' et_B ?_ | with_reducible refine' et_test ?_ | with_reducible refine' et_and2 ?_ ?_ | with_reducible refine' et_or2 ?_ ?_ | with_reducible refine' et_not ?_ | with_reducible refine' ev_call ?_ ?_ | with_reducible refine' ev_callS ?_ ?_ | with_reducible refine' ev_cb ?_ ?_ | with_reducible exact isi_bool (by assumption) | with_reducible exact isi_int (by assumption) | with_reducible exact isi_list (by assumption) | with_reducible exact rc_len (by assumption) | with_reducible exact rc_sum (by assumption) | with_reducible exact rc_abs | with_reducible exact isi_listL (by assumption) | with_reducible exact isi_intI | with_reducible exact isi_boolI | with_reducible exact rc_lenT (by assumption) | with_reducible exact isi_tup (by assumption) | with_reducible exact rv_eqL (by assumption) (by assumption) | with_reducible exact rv_neL (by assumption) (by assumption) | with_reducible exact rv_neT (by assumption) (by assumption) | with_reducible exact rv_ixL (by assumption) (by assumption) | with_reducible exact rv_ixT (by assumption) (by assumption) | with_reducible refine' ev_din ?_ ?_ (by assumption) | with_reducible refine' ev_dnotin ?_ ?_ (by assumption) | with_reducible refine' ev_dget ?_ ?_ (by assumption) (by assumption) | ((with_reducible show SpV _ _ _ _); assumption) | ((with_reducible show RV _ _ _ _ _); assumption) | ((with_reducible show RC _ _ _ _); assumption) | ((with_reducible show CDiv _ _); exact ⟨by omega, by omega⟩) | ((with_reducible show CMul _ _); first | exact .inl ⟨by omega, by omega⟩ | exact .inr ⟨by omega, by omega⟩) | ((with_reducible show CPow _ _); exact ⟨by omega, by omega, by first | decide | assumption | omega⟩) | ((with_reducible show (0 : Int) < _); omega) | ((with_reducible show (0 : Int) ≤ _); omega) | ((with_reducible show scal _ _ = true); rfl)))) fun x2 d2 H19 e19 hx2 g2 => ?_)
      refine t_consX (make1 (v := .int (1000001 + w9)) (by (repeat' (first | with_reducible exact ev_c | ((with_reducible show Ev (tVar _) _ _ _); exact ev_var rfl) | with_reducible exact ea_nil | with_reducible exact eo_none | with_reducible refine' ea_cons ?_ ?_ | with_reducible refine' eo_some ?_ | with_reducible refine' ev_and2 ?_ ?_ | with_reducible refine' ev_or2 ?_ ?_ | with_reducible refine' ev_notV ?_ | with_reducible exact ru_I | with_reducible refine' ev_un ?_ ?_ | with_reducible exact rv_I0 | with_reducible exact rv_isN | with_reducible exact rv_notN | with_reducible refine' rv_I ?_ | with_reducible refine' rv_eq ?_ | with_reducible refine' rv_ne ?_ | with_reducible refine' ev_op ?_ ?_ ?_ | with_reducible refine' ev_chain2 ?_ ?_ ?_ ?_ ?_ | with_reducible refine' et_B ?_ | with_reducible refine' et_test ?_ | with_reducible refine' et_and2 ?_ ?_ | with_reducible refine' et_or2 ?_ ?_ | with_reducible refine' et_not ?_ | with_reducible refine' ev_call ?_ ?_ | with_reducible refine' ev_callS ?_ ?_ | with_reducible refine' ev_cb ?_ ?_ | with_reducible exact isi_bool (by assumption) | with_reducible exact isi_int (by assumption) | with_reducible exact isi_list (by assumption) | with_reducible exact rc_len (by assumption) | with_reducible exact rc_sum (by assumption) | with_reducible exact rc_abs | with_reducible exact isi_listL (by assumption) | with_reducible exact isi_intI | with_reducible exact isi_boolI | with_reducible exact rc_lenT (by assumption) | with_reducible exact isi_tup (by assumption) | with_reducible exact rv_eqL (by assumption) (by assumption) | with_reducible exact rv_neL (by assumption) (by assumption) | with_reducible exact rv_neT (by assumption) (by assumption) | with_reducible exact rv_ixL (by assumption) (by assumption) | with_reducible exact rv_ixT (by assumption) (by assumption) | with_reducible refine' ev_din ?_ ?_ (by assumption) | with_reducible refine' ev_dnotin ?_ ?_ (by assumption) | with_reducible refine' ev_dget ?_ ?_ (by assumption) (by assumption) | ((with_reducible show SpV _ _ _ _); assumption) | ((with_reducible show RV _ _ _ _ _); assumption) | ((with_reducible show RC _ _ _ _); assumption) | ((with_reducible show CDiv _ _); exact ⟨by omega, by omega⟩) | ((with_reducible show CMul _ _); first | exact .inl ⟨by omega, by omega⟩ | exact .inr ⟨by omega, by omega⟩) | ((with_reducible show CPow _ _); exact ⟨by omega, by omega, by first | decide | assumption | omega⟩) | ((with_reducible show (0 : Int) < _); omega) | ((with_reducible show (0 : Int) ≤ _); omega) | ((with_reducible show scal _ _ = true); rfl)))) fun x3 d3 H20 e20 hx3 g3 => ?_)
      refine t_consX (make2 (v := .int 1) (u := .int (2 + w9)) (by (repeat' (first | with_reducible exact ev_c | ((with_reducible show Ev (tVar _) _ _ _); exact ev_var rfl) | with_reducible exact ea_nil | with_reducible exact eo_none | with_reducible refine' ea_cons ?_ ?_ | with_reducible refine' eo_some ?_ | with_reducible refine' ev_and2 ?_ ?_ | with_reducible refine' ev_or2 ?_ ?_ | with_reducible refine' ev_notV ?_ | with_reducible exact ru_I | with_reducible refine' ev_un ?_ ?_ | with_reducible exact rv_I0 | with_reducible exact rv_isN | with_reducible exact rv_notN | with_reducible refine' rv_I ?_ | with_reducible refine' rv_eq ?_ | with_reducible refine' rv_ne ?_ | with_reducible refine' ev_op ?_ ?_ ?_ | with_reducible refine' ev_chain2 ?_ ?_ ?_ ?_ ?_ | with_reducible refine' et_B ?_ | with_reducible refine' et_test ?_ | with_reducible refine' et_and2 ?_ ?_ | with_reducible refine' et_or2 ?_ ?_ | with_reducible refine' et_not ?_ | with_reducible refine' ev_call ?_ ?_ | with_reducible refine' ev_callS ?_ ?_ | with_reducible refine' ev_cb ?_ ?_ | with_reducible exact isi_bool (by assumption) | with_reducible exact isi_int (by assumption) | with_reducible exact isi_list (by assumption) | with_reducible exact rc_len (by assumption) | with_reducible exact rc_sum (by assumption) | with_reducible exact rc_abs | with_reducible exact isi_listL (by assumption) | with_reducible exact isi_intI | with_reducible exact isi_boolI | with_reducible exact rc_lenT (by assumption) | with_reducible exact isi_tup (by assumption) | with_reducible exact rv_eqL (by assumption) (by assumption) | with_reducible exact rv_neL (by assumption) (by assumption) | with_reducible exact rv_neT (by assumption) (by assumption) | with_reducible exact rv_ixL (by assumption) (by assumption) | with_reducible exact rv_ixT (by assumption) (by assumption) | with_reducible refine' ev_din ?_ ?_ (by assumption) | with_reducible refine' ev_dnotin ?_ ?_ (by assumption) | with_reducible refine' ev_dget ?_ ?_ (by assumption) (by assumption) | ((with_reducible show SpV _ _ _ _); assumption) | ((with_reducible show RV _ _ _ _ _); assumption) | ((with_reducible show RC _ _ _ _); assumption) | ((with_reducible show CDiv _ _); exact ⟨by omega, by omega⟩) | ((with_reducible show CMul _ _); first | exact .inl ⟨by omega, by omega⟩ | exact .inr ⟨by omega, by omega⟩) | ((with_reducible show CPow _ _); exact ⟨by omega, by omega, by first | decide | assumption | omega⟩) | ((with_reducible show (0 : Int) < _); omega) | ((with_reducible show (0 : Int) ≤ _); omega) | ((with_reducible show scal _ _ = true); rfl)))) fun x4 d4 H21 e21 hx4 g4 => ?_)
      refine t_consX (make1 (v := .int (2 + w9)) (by (repeat' (first | with_reducible exact ev_c | ((with_reducible show Ev (tVar _) _ _ _); exact ev_var rfl) | with_reducible exact ea_nil | with_reducible exact eo_none | with_reducible refine' ea_cons ?_ ?_ | with_reducible refine' eo_some ?_ | with_reducible refine' ev_and2 ?_ ?_ | with_reducible refine' ev_or2 ?_ ?_ | with_reducible refine' ev_notV ?_ | with_reducible exact ru_I | with_reducible refine' ev_un ?_ ?_ | with_reducible exact rv_I0 | with_reducible exact rv_isN | with_reducible exact rv_notN | with_reducible refine' rv_I ?_ | with_reducible refine' rv_eq ?_ | with_reducible refine' rv_ne ?_ | with_reducible refine' ev_op ?_ ?_ ?_ | with_reducible refine' ev_chain2 ?_ ?_ ?_ ?_ ?_ | with_reducible refine' et_B ?_ | with_reducible refine' et_test ?_ | with_reducible refine' et_and2 ?_ ?_ | with_reducible refine' et_or2 ?_ ?_ | with_reducible refine' et_not ?_ | with_reducible refine' ev_call ?_ ?_ | with_reducible refine' ev_callS ?_ ?_ | with_reducible refine' ev_cb ?_ ?_ | with_reducible exact isi_bool (by assumption) | with_reducible exact isi_int (by assumption) | with_reducible exact isi_list (by assumption) | with_reducible exact rc_len (by assumption) | with_reducible exact rc_sum (by assumption) | with_reducible exact rc_abs | with_reducible exact isi_listL (by assumption) | with_reducible exact isi_intI | with_reducible exact isi_boolI | with_reducible exact rc_lenT (by assumption) | with_reducible exact isi_tup (by assumption) | with_reducible exact rv_eqL (by assumption) (by assumption) | with_reducible exact rv_neL (by assumption) (by assumption) | with_reducible exact rv_neT (by assumption) (by assumption) | with_reducible exact rv_ixL (by assumption) (by assumption) | with_reducible exact rv_ixT (by assumption) (by assumption) | with_reducible refine' ev_din ?_ ?_ (by assumption) | with_reducible refine' ev_dnotin ?_ ?_ (by assumption) | with_reducible refine' ev_dget ?_ ?_ (by assumption) (by assumption) | ((with_reducible show SpV _ _ _ _); assumption) | ((with_reducible show RV _ _ _ _ _); assumption) | ((with_reducible show RC _ _ _ _); assumption) | ((with_reducible show CDiv _ _); exact ⟨by omega, by omega⟩) | ((with_reducible show CMul _ _); first | exact .inl ⟨by omega, by omega⟩ | exact .inr ⟨by omega, by omega⟩) | ((with_reducible show CPow _ _); exact ⟨by omega, by omega, by first | decide | assumption | omega⟩) | ((with_reducible show (0 : Int) < _); omega) | ((with_reducible show (0 : Int) ≤ _); omega) | ((with_reducible show scal _ _ = true); rfl)))) fun x5 d5 H22 e22 hx5 g5 => ?_)
      refine And.intro (sz_of (by simp)) fun r hr => kQ r _ _ (((((e18.trans e19).trans e20).trans e21).trans e22).trans (Ex.new hr)) upd_same fun y hy => ?_
      have en := Ex.new (o := .lst [.ref x1, .ref x2, .ref x3, .ref x4, .ref x5]) hr
      rcases List.mem_cons.mp hy with rfl | hy
      · exact ⟨.turn (.int (1000001 + w9)), fun _ => True, ⟨x1, d1, rfl, True.intro, (((((e19.trans e20).trans e21).trans e22).trans en) _ _ g1), fun _ => .int _⟩, ⟨_, rfl⟩, far_turn (by omega)⟩
      rcases List.mem_cons.mp hy with rfl | hy
      · exact ⟨.lift (.int (-1000001 - w9)), fun _ => True, ⟨x2, d2, rfl, True.intro, ((((e20.trans e21).trans e22).trans en) _ _ g2), fun _ => .int _⟩, ⟨_, rfl⟩, far_lift (by omega)⟩
      rcases List.mem_cons.mp hy with rfl | hy
      · exact ⟨.gap (.int (1000001 + w9)), fun _ => True, ⟨x3, d3, rfl, True.intro, (((e21.trans e22).trans en) _ _ g3), fun _ => .int _⟩, ⟨_, rfl⟩, far_gap (by omega)⟩
      rcases List.mem_cons.mp hy with rfl | hy
      · exact ⟨.swap (.int 1) (.int (2 + w9)), fun _ => True, ⟨x4, d4, rfl, True.intro, ((e22.trans en) _ _ g4), fun _ => .int _, fun _ => .int _⟩, True.intro, far_swap (by omega)⟩
      rcases List.mem_cons.mp hy with rfl | hy
      · exact ⟨.nb (.int (2 + w9)), fun _ => True, ⟨x5, d5, rfl, True.intro, (en _ _ g5), fun _ => .int _⟩, True.intro, far_nb (by omega)⟩
      · cases hy
    · rintro HB xs i y σ' H18 eB hR hi ⟨z, rfl, e⟩
      obtain ⟨s, ps, hat, hc, hf⟩ := hR y (List.mem_of_getElem? hi)
      have sf := sv_far (F1.mono e hat) hc hf
      refine s_when (b := !true) (by (repeat' (first | with_reducible exact ev_c | ((with_reducible show Ev (tVar _) _ _ _); exact ev_var rfl) | with_reducible exact ea_nil | with_reducible exact eo_none | with_reducible refine' ea_cons ?_ ?_ | with_reducible refine' eo_some ?_ | with_reducible refine' ev_and2 ?_ ?_ | with_reducible refine' ev_or2 ?_ ?_ | with_reducible refine' ev_notV ?_ | with_reducible exact ru_I | with_reducible refine' ev_un ?_ ?_ | with_reducible exact rv_I0 | with_reducible exact rv_isN | with_reducible exact rv_notN | with_reducible refine' rv_I ?_ | with_reducible refine' rv_eq ?_ | with_reducible refine' rv_ne ?_ | with_reducible refine' ev_op ?_ ?_ ?_ | with_reducible refine' ev_chain2 ?_ ?_ ?_ ?_ ?_ | with_reducible refine' et_B ?_ | with_reducible refine' et_test ?_ | with_reducible refine' et_and2 ?_ ?_ | with_reducible refine' et_or2 ?_ ?_ | with_reducible refine' et_not ?_ | with_reducible refine' ev_call ?_ ?_ | with_reducible refine' ev_callS ?_ ?_ | with_reducible refine' ev_cb ?_ ?_ | with_reducible exact isi_bool (by assumption) | with_reducible exact isi_int (by assumption) | with_reducible exact isi_list (by assumption) | with_reducible exact rc_len (by assumption) | with_reducible exact rc_sum (by assumption) | with_reducible exact rc_abs | with_reducible exact isi_listL (by assumption) | with_reducible exact isi_intI | with_reducible exact isi_boolI | with_reducible exact rc_lenT (by assumption) | with_reducible exact isi_tup (by assumption) | with_reducible exact rv_eqL (by assumption) (by assumption) | with_reducible exact rv_neL (by assumption) (by assumption) | with_reducible exact rv_neT (by assumption) (by assumption) | with_reducible exact rv_ixL (by assumption) (by assumption) | with_reducible exact rv_ixT (by assumption) (by assumption) | with_reducible refine' ev_din ?_ ?_ (by assumption) | with_reducible refine' ev_dnotin ?_ ?_ (by assumption) | with_reducible refine' ev_dget ?_ ?_ (by assumption) (by assumption) | ((with_reducible show SpV _ _ _ _); assumption) | ((with_reducible show RV _ _ _ _ _); assumption) | ((with_reducible show RC _ _ _ _); assumption) | ((with_reducible show CDiv _ _); exact ⟨by omega, by omega⟩) | ((with_reducible show CMul _ _); first | exact .inl ⟨by omega, by omega⟩ | exact .inr ⟨by omega, by omega⟩) | ((with_reducible show CPow _ _); exact ⟨by omega, by omega, by first | decide | assumption | omega⟩) | ((with_reducible show (0 : Int) < _); omega) | ((with_reducible show (0 : Int) ≤ _); omega) | ((with_reducible show scal _ _ = true); rfl)))) (fun h => by cases h) (fun _ H19 e19 => ⟨_, rfl, e.trans e19⟩)
    · rintro HB i σ' H18 eB ⟨y, rfl, e18⟩
      have e1418 := (e1417.trans eB).trans e18
      have hu18 := F3.mono e1418 hu
      have hat18 := F3.mono e1418 hat14
      have p18 := e1418 _ _ p14
      have f18 := e1418 _ _ f14
      have sf18 : SqL K H18 f (fs.map V.int) := sq_of f18
      refine s_ret (v := .bl (decide (fs = fs) && decide (fs = fs))) (ev_and2 (ev_cLV (el_undone F3 hu18 cV (ev_var rfl) (fun _ _ => ev_var rfl) p18 (by rw [uu]; exact dU)) (ev_var rfl) fun g H15 h15 e15 => sv_same h15 (ex_l e15 sf18) (by omega)) (ev_cLV (el_done (F3.done hat18) (ev_var rfl) (ev_var rfl) p18 dU) (ev_var rfl) fun g H15 h15 e15 => sv_same h15 (ex_l e15 sf18) (by omega))) fun H19 e19 => ?_
      rw [decide_eq_true rfl]
      exact q H19

end TB

/-! ### the head's run -/
namespace TB
open PySem PySem.Spec PyProof.Rows L2 Evl
abbrev R : PySem.W.OpenRow := PySem.W.OpenLaw.row PySem.Challenge.rw_tossbook_k15_whole_changes
abbrev hk : PySem.W.Hook := hookM 5 fa fn ex
def ob (s : PySem.W.SharedT) : AlM := obsMG 5 fa fn ex (HandSHeadRun.getT s)
theorem ob_eq (s : PySem.W.SharedT) : ob s = hk.obs s.abs := obsMG_eq (HandSHeadRun.getT_eq s)
theorem run (w : World) : HandSHeadRun.RunEq R (PySem.W.view R.prog [46]) hk ob 30000 ((["TossError", "NotARow", "OutOfBounds", "Clash", "GREATEST", "LONGEST", "is_whole", "within", "check_number", "check_row", "clash_of", "check_pattern", "balls_of", "kept", "turned", "lifted", "mirrored", "gaps", "swapped", "exchange", "neighbours", "Change", "Turn", "Lift", "Swap", "Neighbours", "Mirror", "Gaps", "Changes", "_law_cell_at"] : List PySem.Str) ++ (["_law_mixed", "_law_size_by", "_law_spots_by", "_law_throws_by", "_law_same", "_law_beats_by", "_law_one_by", "_law_by_hand", "_law_kinds_right", "_law_far_right"] : List PySem.Str)) w := by
  intro os
  kernel_rfl
end TB

/-! ### the end -/
namespace TB
open PySem PySem.Spec PyProof.Rows L2 Evl
theorem ref_inj {a b : Addr} (h : (some (.ref a) : Option Value) = some (.ref b)) : a = b := by
  cases h
  rfl
theorem fn_cx0 {P : Program} {w : World} {K : PySem.W.Frag} {mg : Str → Option Value} {base : Heap} {k : Nat} {f : Addr} {fd : FuncData} {ps : List Str} {sp : Sp} (F : FnOk P w K mg base (L2.CX P w) k f fd ps sp) :
    FnOk P w K mg base CX0 k f fd ps (fun vs H Q _ => sp vs H Q (fun _ _ _ => False)) :=
  ⟨fun vs H Q E h => F.len vs H Q _ h, fun A outer s H args us vs Q E hr he hb hv hs => codeAny_mono (F.run A outer s H args us vs Q (fun _ _ _ => False) hr he hb hv hs) fun r s' hq => by
    cases r with
    | error e =>
      obtain ⟨_, _, _, _, _, _, _, _, _, _, _, _, z⟩ := (show L2.CX P w outer H s (fun _ _ _ => False) e s' from hq)
      exact z.elim
    | ok fl => cases fl <;> exact hq⟩
end TB
open PySem PySem.W PySem.Calls PyProof.Rows
theorem PySem.Challenge.cw_tossbook_k15_whole_changes_holds : PySem.Challenge.rw_tossbook_k15_whole_changes.Holds := by
  w_on; o_law
  refine HandSHeadRun.head_any (r := OpenLaw.row PySem.Challenge.rw_tossbook_k15_whole_changes) (q := view (OpenLaw.row PySem.Challenge.rw_tossbook_k15_whole_changes).prog [46]) (H := TB.hk) (ob := TB.ob) (M := 30000) (loose := (["TossError", "NotARow", "OutOfBounds", "Clash", "GREATEST", "LONGEST", "is_whole", "within", "check_number", "check_row", "clash_of", "check_pattern", "balls_of", "kept", "turned", "lifted", "mirrored", "gaps", "swapped", "exchange", "neighbours", "Change", "Turn", "Lift", "Swap", "Neighbours", "Mirror", "Gaps", "Changes", "_law_cell_at"] : List PySem.Str) ++ (["_law_mixed", "_law_size_by", "_law_spots_by", "_law_throws_by", "_law_same", "_law_beats_by", "_law_one_by", "_law_by_hand", "_law_kinds_right", "_law_far_right"] : List PySem.Str)) (d := HandSHeadRun.topDef (OpenLaw.row PySem.Challenge.rw_tossbook_k15_whole_changes).prog 46) (kwd := []) TB.ob_eq
    (by kernel_rfl) (fun s => by kernel_rfl) TB.run (by kernel_rfl) (by kernel_rfl) (by kernel_rfl) (by rfl) (by first | assumption | decide +kernel) (by decide +kernel) ⟨rfl, rfl, rfl, rfl, rfl, by decide +kernel⟩ ?hw ?hc
  case hw => w_witness2
  case hc =>
    refine L2.walk_ofE (l := PySem.Challenge.rw_tossbook_k15_whole_changes) (n := 63) (k := TB.lawLevel) (x := "_law_script") (CX := L2.CX0) rfl (by decide) (by kernel_rfl) ⟨rfl, by decide, by decide⟩ ?F (fun _ _ _ _ z => z)
    intro w mg fa h Y G hmg0
    obtain ⟨K, KX, c⟩ := Y
    have hmg : mg ("law" : PySem.Str) = some (.ref fa) := by
      have e : (HandSHeadRun.topDef (OpenLaw.row PySem.Challenge.rw_tossbook_k15_whole_changes).prog 46).name = ("law" : PySem.Str) := by kernel_rfl
      rw [← e]
      exact hmg0
    have T : TB.TXT K mg := ⟨⟨h, KX, G⟩, c⟩
    obtain ⟨f0, fd, g, bA, F⟩ := (TB.ok_law (P := (PySem.Challenge.rw_tossbook_k15_whole_changes).prog) (w := w) T).ex
    have ef : f0 = fa := TB.ref_inj (g.symm.trans hmg)
    subst ef
    exact ⟨K, fd, _, KX, fun s v => bA s [v] rfl, fun H a ns hl _ hS => TB.law_true H a ns hl hS, fun base _ _ => TB.fn_cx0 (F base)⟩
#print axioms PySem.Challenge.cw_tossbook_k15_whole_changes_holds


