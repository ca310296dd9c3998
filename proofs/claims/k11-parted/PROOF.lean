import PyProof.Rows.All
import Wide.All
import OpenK.AllK
import Wide.FinOn
import KE.KStateDown
import HandS.ForMost
import HandS.ForExc
import HandS.ExcInit
import HandS.ExcField
import HandS.ExcIs
import HandS.TryMany
import HandS.IsInst
import HandS.Evl
import HandS.Defaults
import HandS.Flow
import HandS.Style
import HandS.SortInts
import HandS.Head0
import HandS.Head1
import HandS.Head2
import HandS.HeadEnd
import HandS.HeadHook1
import HandS.HeadHook2
import HandS.Zip
import HandS.SortRule
import PySem.Challenge.RW_tossbook_k11_whole_parted
set_option Elab.async false
set_option linter.all false
set_option maxRecDepth 100000
set_option maxHeartbeats 4000000

/-! ### the head's facts, calls by name, what raises -/
namespace TB
open PySem PySem.Spec PyProof.Rows L2 Evl

/-! the hook: the defs, the facts, one Bool more -/
abbrev AlM : Type := He.AlD × Bool
def obsMG (n : Nat) (fa : List He.Fa) (fn : List He.DefD) (ex : PySem.W.Frag → Bool) (g : Addr → Option Obj) : AlM :=
  (He.obsD fa fn (He.frG g (He.asD g n)), ex (He.frG g (He.asD g n)))
def SaysM (fa : List He.Fa) (fn : List He.DefD) (ex : PySem.W.Frag → Bool) (K : PySem.W.Frag) : Prop := He.SaysD fa fn K ∧ ex K = true
def hookM (n : Nat) (fa : List He.Fa) (fn : List He.DefD) (ex : PySem.W.Frag → Bool) : PySem.W.Hook where
  α := AlM
  obs := fun s => obsMG n fa fn ex s.heap.get?
  val := fun _ => (He.valD fn, true)
  says := fun _ h => ∃ K : PySem.W.Frag, K.In h ∧ SaysM fa fn ex K
  of := fun _ _ e => ⟨_, He.frG_in, congrArg (fun z : AlM => z.1) e, congrArg (fun z : AlM => z.2) e⟩
  keeps := fun _ _ _ ⟨K, hK, c⟩ k => ⟨K, PySem.W.Frag.In.keeps hK k, c⟩
theorem obsMG_eq {n : Nat} {fa : List He.Fa} {fn : List He.DefD} {ex : PySem.W.Frag → Bool} {g : Addr → Option Obj} {s : Shared} (h : ∀ a, g a = s.heap.get? a) : obsMG n fa fn ex g = (hookM n fa fn ex).obs s := by
  have e : g = s.heap.get? := funext h
  rw [e] <;> rfl

/-- what the walk asks of the top -/
structure TX (fa : List He.Fa) (fn : List He.DefD) (ex : PySem.W.Frag → Bool) (K : PySem.W.Frag) (mg : Str → Option Value) : Prop where
  kx : ∃ h : Heap, K.In h ∧ h.Ns mainGlobals mg
  c : SaysM fa fn ex K
section
variable {fa : List He.Fa} {fn : List He.DefD} {ex : PySem.W.Frag → Bool} {K : PySem.W.Frag} {mg : Str → Option Value}
theorem TX.fact (T : TX fa fn ex K mg) (i : Nat) {f : He.Fa} (h : fa[i]? = some f := by rfl) : f.ok K = true := T.c.1.fact i h
theorem TX.glo (T : TX fa fn ex K mg) (i : Nat) {x : Str} (h : fa[i]? = some (.glo x) := by rfl) : mg x = some (.ref (He.ga K x)) := by
  obtain ⟨h0, X, G⟩ := T.kx
  exact He.glo_ok X G (T.fact i h)
theorem TX.free (T : TX fa fn ex K mg) (i : Nat) {x : Str} (h : fa[i]? = some (.free x) := by rfl) : mg x = none := by
  obtain ⟨h0, X, G⟩ := T.kx
  exact He.free_ok X G (T.fact i h)
theorem TX.int (T : TX fa fn ex K mg) (i : Nat) {x : Str} {j : Int} (h : fa[i]? = some (.int x j) := by rfl) : ∃ t, mg x = some (.int j t) := by
  obtain ⟨h0, X, G⟩ := T.kx
  exact He.int_ok X G (T.fact i h)
theorem TX.str (T : TX fa fn ex K mg) (i : Nat) {x z : Str} (h : fa[i]? = some (.str x z) := by rfl) : ∃ t, mg x = some (.str z t) := by
  obtain ⟨h0, X, G⟩ := T.kx
  exact He.str_ok X G (T.fact i h)
theorem TX.def_ (T : TX fa fn ex K mg) (i : Nat) {d : He.DefD} (h : fn[i]? = some d := by rfl) : ∃ fd, FunD K d.name d.qual d.params d.body d.scope (d.dvs K) (d.kws K) (He.fAd K d.at_) fd := T.c.1.def_ i h
end

/-- a def of the top keeps its promise, and is called by its name -/
structure OK (P : Program) (w : World) (K : PySem.W.Frag) (mg : Str → Option Value) (base : Heap) (x : Str) (ps : List Str) (k : Nat) (sp : Sp) : Prop where
  ex : ∃ f fd, mg x = some (.ref f) ∧ PySem.W.keepIn K (.ref f) = true ∧ Binds K fd ps [] ∧ FnOk P w K mg base (L2.CX P w) k f fd ps sp ∧ ∀ (s : Shared) (us : List Value), us.length = ps.length → BindsTo s fd ⟨us, []⟩ (ps.zip us)
/-- the law's own def -/
structure OKL (P : Program) (w : World) (K : PySem.W.Frag) (mg : Str → Option Value) (x : Str) (ps : List Str) (k : Nat) (sp : Sp) : Prop where
  ex : ∃ f fd, mg x = some (.ref f) ∧ (∀ (s : Shared) (us : List Value), us.length = ps.length → BindsTo s fd ⟨us, []⟩ (ps.zip us)) ∧ ∀ base : Heap, FnOk P w K mg base (L2.CX P w) k f fd ps sp
section
variable {X : Cx} {k : Nat} {ps : List Str} {sp : Sp} {E : XK} {x : Str} {p pos : Pos} {e : Expr} {es : List Expr} {t : TA} {te : TE}
theorem pe_own (O : OK X.prog X.w X.K X.mg X.base x ps k sp) (hr : Room k X.A) (hg : Gl X x) (hx : Passes (L2.CX X.prog X.w) X E) (ha : PA X (e :: es) t)
    (hdb : (x == ("__debug__" : Str)) = false := by decide) (he : starEach (e :: es) X.env = (false, eval e X.env) :: starEach es X.env := by rfl) (hpl : (backTo pos (starEach es X.env)).any (·.1) = false := by rfl) :
    PE X (.Call (.Name x p) (e :: es) [] pos) (tCall sp [] E t) := by
  obtain ⟨f, fd, g, kp, b, F, _⟩ := O.ex
  exact pe_call F hr hg g kp b .nil hx ha hdb he hpl
theorem pe_own0 (O : OK X.prog X.w X.K X.mg X.base x [] k sp) (hr : Room k X.A) (hg : Gl X x) (hx : Passes (L2.CX X.prog X.w) X E)
    (hdb : (x == ("__debug__" : Str)) = false := by decide) :
    PE X (.Call (.Name x p) [] [] pos) (tCall sp [] E tNil) := by
  obtain ⟨f, fd, g, kp, b, F, _⟩ := O.ex
  exact pe_call0 F hr hg g kp b .nil hx hdb
theorem pe_ownS {E : L2.St → XK} (O : OK X.prog X.w X.K X.mg X.base x ps k sp) (hr : Room k X.A) (hg : Gl X x) (hx : ∀ σ, PassesAt (L2.CX X.prog X.w) X σ (E σ)) (ha : PA X (e :: es) t)
    (hdb : (x == ("__debug__" : Str)) = false := by decide) (he : starEach (e :: es) X.env = (false, eval e X.env) :: starEach es X.env := by rfl) (hpl : (backTo pos (starEach es X.env)).any (·.1) = false := by rfl) :
    PE X (.Call (.Name x p) (e :: es) [] pos) (tCallS sp E t) := by
  obtain ⟨f, fd, g, kp, b, F, _⟩ := O.ex
  exact pe_callS F hr hg g kp b hx ha hdb he hpl
theorem pe_gi {i : Int} (h : ∃ t, X.mg x = some (.int i t)) (hg : Gl X x := by rfl) (hd : (x == ("__debug__" : Str)) = false := by decide) : PE X (.Name x pos) (tC (.int i)) := by
  obtain ⟨t, h⟩ := h
  exact pe_glob hg h ⟨t, rfl⟩ hd
theorem pe_gs {z : Str} (h : ∃ t, X.mg x = some (.str z t)) (hg : Gl X x := by rfl) (hd : (x == ("__debug__" : Str)) = false := by decide) : PE X (.Name x pos) (tC (.str z)) := by
  obtain ⟨t, h⟩ := h
  exact pe_glob hg h ⟨t, rfl⟩ hd
/-- a built-in class as a value -/
theorem pe_ty {T : String} (hm : X.mg x = none) (hv : bootBuiltins x = some (.type T)) (hg : Gl X x := by rfl) (hn : x ≠ "__name__" := by decide) (hd : (x == ("__debug__" : Str)) = false := by decide) : PE X (.Name x pos) (tC (.ty T)) :=
  pe_bltn hg hm hv rfl hn hd
/-- an own class, an own def as a value -/
theorem pe_cls {C : Addr} (hm : X.mg x = some (.ref C)) (hg : Gl X x := by rfl) (hd : (x == ("__debug__" : Str)) = false := by decide) : PE X (.Name x pos) (tC (.ref C)) :=
  pe_glob hg hm rfl hd
end

/-! ### what leaves by an exception -/
def Rz (te : TE) (σ : L2.St) (H : Hp) : Prop := ∀ H1, Ex H H1 → ∀ Q : VK, te σ H1 Q
def RzT (tt : TT) (σ : L2.St) (H : Hp) : Prop := ∀ H1, Ex H H1 → ∀ Q : Bool → Hp → Prop, tt σ H1 Q
def RzA (ta : TA) (σ : L2.St) (H : Hp) : Prop := ∀ H1, Ex H H1 → ∀ Q : List V → Hp → Prop, ta σ H1 Q
section
variable {σ : L2.St} {H H' : Hp} {ta tb te tx : TE} {t u : TT} {x y z v : V} {r : R2} {D : Ends} {tu tw tz : TS} {g : TG}
theorem Rz.mono (e : Ex H H') (h : Rz te σ H) : Rz te σ H' := fun H1 a Q => h H1 (e.trans a) Q
theorem rz_call {sp : Sp} {dvs vs : List V} {E : XK} {ta : TA} (h : EvA ta σ H vs) (hs : ∀ H1, Ex H H1 → ∀ Q : VK, sp (vs ++ dvs) H1 Q E) : Rz (tCall sp dvs E ta) σ H := fun H1 e Q =>
  h H1 e _ fun H2 e2 => hs H2 (e.trans e2) Q
theorem rz_callS {sp : Sp} {vs : List V} {E : L2.St → XK} {ta : TA} (h : EvA ta σ H vs) (hs : ∀ H1, Ex H H1 → ∀ Q : VK, sp vs H1 Q (E σ)) : Rz (tCallS sp E ta) σ H := fun H1 e Q =>
  h H1 e _ fun H2 e2 => hs H2 (e.trans e2) Q
theorem ev_callS {sp : Sp} {vs : List V} {E : L2.St → XK} {ta : TA} (h : EvA ta σ H vs) (hs : SpV sp vs H z) : Ev (tCallS sp E ta) σ H z := fun H1 e Q q =>
  h H1 e _ fun H2 e2 => hs H2 (e.trans e2) Q (fun H3 e3 => q H3 (e2.trans e3)) (E σ)
theorem el_callS {sp : Sp} {vs xs : List V} {E : L2.St → XK} {ta : TA} (h : EvA ta σ H vs) (hs : SpL sp vs H xs) : EvL (tCallS sp E ta) σ H xs := fun H1 e Q q =>
  h H1 e _ fun H2 e2 => hs H2 (e.trans e2) Q (fun p H3 hp e3 h3 => q p H3 (fresh_back e2 hp) (e2.trans e3) h3) (E σ)
theorem rz_op1 (h : Rz ta σ H) : Rz (tOp r ta tb) σ H := fun H1 e Q => h H1 e _
theorem rz_op2 (ha : Ev ta σ H x) (h : Rz tb σ H) : Rz (tOp r ta tb) σ H := fun H1 e Q => ha H1 e _ fun H2 e2 => h H2 (e.trans e2) _
theorem rz_un {r : V → Hp → VK → Prop} (h : Rz ta σ H) : Rz (tUn r ta) σ H := fun H1 e Q => h H1 e _
theorem rz_cons1 {tr : TA} (h : Rz ta σ H) : RzA (tCons ta tr) σ H := fun H1 e Q => h H1 e _
theorem rz_cons2 {tr : TA} (ha : Ev ta σ H x) (h : RzA tr σ H) : RzA (tCons ta tr) σ H := fun H1 e Q => ha H1 e _ fun H2 e2 => h H2 (e.trans e2) _
theorem rz_callA {sp : Sp} {dvs : List V} {E : XK} {ta : TA} (h : RzA ta σ H) : Rz (tCall sp dvs E ta) σ H := fun H1 e Q => h H1 e _
theorem rz_cbA {r : List V → Hp → VK → Prop} {ta : TA} (h : RzA ta σ H) : Rz (tCB r ta) σ H := fun H1 e Q => h H1 e _
theorem x_asg (h : Rz te σ H) : tAsg te g D σ H := h H (Ex.refl H) _
theorem x_drop (h : Rz te σ H) : tDrop te D σ H := h H (Ex.refl H) _
theorem x_ret (h : Rz te σ H) : tRet te D σ H := h H (Ex.refl H) _
theorem x_seq (h : ∀ D, tu D σ H) : tSeq tu tz D σ H := h _
theorem xq_asg (h : Rz te σ H) : tSeq (tAsg te g) tz D σ H := h H (Ex.refl H) _
theorem xq_drop (h : Rz te σ H) : tSeq (tDrop te) tz D σ H := h H (Ex.refl H) _
end
end TB

/-! ### exceptions by facts, kinds of values, steps -/
namespace TB
open PySem PySem.Spec PyProof.Rows L2 Evl
theorem units_of {A : Around} {k : Nat} (hr : Room k A) : A.units + 64 < cLine := by
  have h := hr.un
  omega
section
variable {X : Cx} {k : Nat} {x m : Str} {p p2 pos : Pos} {j : Nat}
/-- X('m'), an own class without __init__ -/
theorem pmk_ex (f : (He.Fa.exc x).ok X.K = true) (g : X.mg x = some (.ref (He.ga X.K x))) (hg : Gl X x := by rfl) (hdb : (x == ("__debug__" : Str)) = false := by decide) :
    PMk X (.Call (.Name x p) [.Constant (.str m) j p2] [] pos) (fun _ H Q => Q (.ref (He.ga X.K x)) none H) := by
  obtain ⟨e1, e2, e3, e4⟩ := He.exc_ok f
  exact pmk_own PySem.F.excBase_ValueError e1 g e2 (raises_own e3 e4) hg hdb
/-- what the head tells of an own exception class with an __init__ -/
def oexB (K : PySem.W.Frag) (C : Addr) : Bool := match K.lookup C with
  | some ⟨.type "type", _, .cls cd, sl⟩ => (match cd.mro, sl.toList with
    | .ref C' :: bm, [_, _, _, _, some (.builtin n), _] => C' == C && n == "ValueError.__new__" && !cd.hasDel && cd.hasDict && PySem.HandSPX.refsVE bm
    | _, _ => false)
  | _ => false
theorem oexB_ok {K : PySem.W.Frag} {C : Addr} (q : oexB K C = true) : ∃ nm q N bs bm sn sub ab col dd k0 k1 k2 k3 k5, K.lookup C = some (excClassObj nm q C N bs bm true sn sub ab col dd k0 k1 k2 k3 k5 "ValueError.__new__") ∧ PySem.HandSPX.refsVE bm = true := by
  unfold oexB at q
  split at q
  · rename_i dd cd sl ho
    split at q
    · rename_i C' bm k0 k1 k2 k3 n k5 hm hs
      simp only [Bool.and_eq_true, beq_iff_eq, Bool.not_eq_true'] at q
      obtain ⟨⟨⟨⟨rfl, rfl⟩, hdel⟩, hd⟩, ht⟩ := q
      obtain ⟨nm, bs, mro, ns, qn, hdi, sn, sub, ab, col, del⟩ := cd
      dsimp only at hm hdel hd
      subst hm hdel hd
      have hsl : sl = #[k0, k1, k2, k3, some (.builtin "ValueError.__new__"), k5] := by
        obtain ⟨l⟩ := sl
        simp only at hs
        rw [hs]
      subst hsl
      exact ⟨nm, qn, ns, bs, bm, sn, sub, ab, col, dd, k0, k1, k2, k3, k5, ho, ht⟩
    · cases q
  · cases q
def clashB (K : PySem.W.Frag) (C : Addr) : Bool := oexB K C && (xfB K C && (decide (PySem.W.findIn K (.ref C) "__setattr__" = some (some (.builtin "object.__setattr__"))) && (decide (PySem.W.typeIn K (.ref C) = some (.type "type")) && (PySem.W.keepIn K (.ref C) &&
  (decide (PySem.W.findIn K (.ref C) "__init__" = some (some (.ref (He.ma K C "__init__")))) && (decide (PySem.W.typeIn K (.ref (He.ma K C "__init__")) = some (.type "function")) && decide (PySem.W.findIn K (.ref C) "beats" = some none)))))))
structure ClashC (K : PySem.W.Frag) (C : Addr) : Prop where
  o : OexC K C
  x : XfC K C
  i : PySem.W.findIn K (.ref C) "__init__" = some (some (.ref (He.ma K C "__init__")))
  t : PySem.W.typeIn K (.ref (He.ma K C "__init__")) = some (.type "function")
  n : PySem.W.findIn K (.ref C) "beats" = some none
theorem clashB_ok {K : PySem.W.Frag} {C : Addr} (h : clashB K C = true) : ClashC K C := by
  obtain ⟨h1, h⟩ := Bool.and_eq_true_iff.mp h
  obtain ⟨h2, h⟩ := Bool.and_eq_true_iff.mp h
  obtain ⟨h3, h⟩ := Bool.and_eq_true_iff.mp h
  obtain ⟨h4, h⟩ := Bool.and_eq_true_iff.mp h
  obtain ⟨h5, h⟩ := Bool.and_eq_true_iff.mp h
  obtain ⟨h6, h⟩ := Bool.and_eq_true_iff.mp h
  obtain ⟨h7, h8⟩ := Bool.and_eq_true_iff.mp h
  have xf := xfB_ok h2
  exact ⟨⟨oexB_ok h1, of_decide_eq_true h3, xf.exC, of_decide_eq_true h4, h5⟩, xf, of_decide_eq_true h6, of_decide_eq_true h7, of_decide_eq_true h8⟩
/-- Clash(beats), by its own __init__ -/
structure OKE (P : Program) (w : World) (K : PySem.W.Frag) (mg : Str → Option Value) (base : Heap) (x : Str) (ps : List Str) (k : Nat) (sp : Sp) : Prop where
  ex : ∃ fd, ClashC K (He.ga K x) ∧ mg x = some (.ref (He.ga K x)) ∧ Binds K fd ps [] ∧ FnOk P w K mg base (L2.CX P w) k (He.ma K (He.ga K x) "__init__") fd ps sp
theorem passF {X : Cx} : Passes (L2.CX X.prog X.w) X (fun _ _ _ => False) := passL
theorem pmk_oexT {ps : List Str} {sp : Sp} {e : Expr} {es : List Expr} {ta : TA} (O : OKE X.prog X.w X.K X.mg X.base x ps k sp) (hr : Room (k + 1) X.A) (ha : PA X (e :: es) ta) (hg : Gl X x := by rfl) (hdb : (x == ("__debug__" : Str)) = false := by decide)
    (he : starEach (e :: es) X.env = (false, eval e X.env) :: starEach es X.env := by rfl) (hpl : (backTo pos (starEach es X.env)).any (·.1) = false := by rfl) :
    PMk X (.Call (.Name x p) (e :: es) [] pos) (tMkO (He.ga X.K x) sp [] ta) := by
  obtain ⟨fd, c, g, b, F⟩ := O.ex
  exact pmk_oex c.o c.i c.t F hr b .nil passF hg g ha hdb he hpl
end
/-! the kinds of values that the text knows -/
inductive Kd (H : Hp) : V → Prop where
  | non : Kd H .non
  | bl (b : Bool) : Kd H (.bl b)
  | int (i : Int) : Kd H (.int i)
  | str (z : Str) : Kd H (.str z)
  | lst {a : Addr} {xs : List V} (h : H a = some (.lst xs)) : Kd H (.ref a)
  | tup {a : Addr} {xs : List V} (h : H a = some (.tup xs)) : Kd H (.ref a)
theorem Kd.mono {H H' : Hp} {v : V} (e : Ex H H') (h : Kd H v) : Kd H' v := by
  cases h with
  | non => exact .non
  | bl b => exact .bl b
  | int i => exact .int i
  | str z => exact .str z
  | lst h => exact .lst (e _ _ h)
  | tup h => exact .tup (e _ _ h)
def isI : V → Bool
  | .int _ => true
  | _ => false
def isB : V → Bool
  | .bl _ => true
  | _ => false
theorem isi_int {K : PySem.W.Frag} {H : Hp} {v : V} (h : Kd H v) : RC (rIsi K) [v, .ty "int"] H (.bl (isI v || isB v)) := fun H1 e Q q => by
  have h1 := h.mono e
  cases h1 with
  | non => exact ⟨_, _, _, _, false, rfl, .ty _, .base .non, kit_ty (by decide +kernel), q H1 (Ex.refl H1)⟩
  | bl b => exact ⟨_, _, _, _, true, rfl, .ty _, .base (.bl b), kit_ty (by decide +kernel), q H1 (Ex.refl H1)⟩
  | int i => exact ⟨_, _, _, _, true, rfl, .ty _, .base (.int i), kit_ty (by decide +kernel), q H1 (Ex.refl H1)⟩
  | str z => exact ⟨_, _, _, _, false, rfl, .ty _, .base (.str z), kit_ty (by decide +kernel), q H1 (Ex.refl H1)⟩
  | lst z1 => exact ⟨_, _, _, _, false, rfl, .ty _, .base (.lst z1), kit_ty (by decide +kernel), q H1 (Ex.refl H1)⟩
  | tup z1 => exact ⟨_, _, _, _, false, rfl, .ty _, .base (.tup z1), kit_ty (by decide +kernel), q H1 (Ex.refl H1)⟩
theorem isi_bool {K : PySem.W.Frag} {H : Hp} {v : V} (h : Kd H v) : RC (rIsi K) [v, .ty "bool"] H (.bl (isB v)) := fun H1 e Q q => by
  have h1 := h.mono e
  cases h1 with
  | non => exact ⟨_, _, _, _, false, rfl, .ty _, .base .non, kit_ty (by decide +kernel), q H1 (Ex.refl H1)⟩
  | bl b => exact ⟨_, _, _, _, true, rfl, .ty _, .base (.bl b), kit_ty (by decide +kernel), q H1 (Ex.refl H1)⟩
  | int i => exact ⟨_, _, _, _, false, rfl, .ty _, .base (.int i), kit_ty (by decide +kernel), q H1 (Ex.refl H1)⟩
  | str z => exact ⟨_, _, _, _, false, rfl, .ty _, .base (.str z), kit_ty (by decide +kernel), q H1 (Ex.refl H1)⟩
  | lst z1 => exact ⟨_, _, _, _, false, rfl, .ty _, .base (.lst z1), kit_ty (by decide +kernel), q H1 (Ex.refl H1)⟩
  | tup z1 => exact ⟨_, _, _, _, false, rfl, .ty _, .base (.tup z1), kit_ty (by decide +kernel), q H1 (Ex.refl H1)⟩
/-- what is at v, if it is a list: its items -/
inductive Ls (H : Hp) : V → Option (List V) → Prop where
  | lst {a : Addr} {xs : List V} (h : H a = some (.lst xs)) : Ls H (.ref a) (some xs)
  | tup {a : Addr} {xs : List V} (h : H a = some (.tup xs)) : Ls H (.ref a) none
  | non : Ls H .non none
  | bl (b : Bool) : Ls H (.bl b) none
  | int (i : Int) : Ls H (.int i) none
  | str (z : Str) : Ls H (.str z) none
theorem Ls.mono {H H' : Hp} {v : V} {o : Option (List V)} (e : Ex H H') (h : Ls H v o) : Ls H' v o := by
  cases h with
  | lst h => exact .lst (e _ _ h)
  | tup h => exact .tup (e _ _ h)
  | non => exact .non
  | bl b => exact .bl b
  | int i => exact .int i
  | str z => exact .str z
theorem isi_list {K : PySem.W.Frag} {H : Hp} {v : V} {o : Option (List V)} (h : Ls H v o) : RC (rIsi K) [v, .ty "list"] H (.bl o.isSome) := fun H1 e Q q => by
  have h1 := h.mono e
  cases h1 with
  | lst z1 => exact ⟨_, _, _, _, true, rfl, .ty _, .base (.lst z1), kit_ty (by decide +kernel), q H1 (Ex.refl H1)⟩
  | tup z1 => exact ⟨_, _, _, _, false, rfl, .ty _, .base (.tup z1), kit_ty (by decide +kernel), q H1 (Ex.refl H1)⟩
  | non => exact ⟨_, _, _, _, false, rfl, .ty _, .base .non, kit_ty (by decide +kernel), q H1 (Ex.refl H1)⟩
  | bl b => exact ⟨_, _, _, _, false, rfl, .ty _, .base (.bl b), kit_ty (by decide +kernel), q H1 (Ex.refl H1)⟩
  | int i => exact ⟨_, _, _, _, false, rfl, .ty _, .base (.int i), kit_ty (by decide +kernel), q H1 (Ex.refl H1)⟩
  | str z => exact ⟨_, _, _, _, false, rfl, .ty _, .base (.str z), kit_ty (by decide +kernel), q H1 (Ex.refl H1)⟩
/-! the rules that name the written part, K said -/
section
variable {X : Cx}
theorem k_isi (K : PySem.W.Frag) (h : X.K = K := by rfl) : CallR X (.builtin "isinstance") (rIsi K) := by
  subst h
  exact call_isi
theorem k_isiT (K : PySem.W.Frag) (h : X.K = K := by rfl) : CallR X (.builtin "isinstance") (rIsiT K) := by
  subst h
  exact call_isiT
theorem k_len (K : PySem.W.Frag) (h : X.K = K := by rfl) : CallR X (.builtin "len") (rLenS K) := by
  subst h
  exact call_len_seq
theorem k_sum (K : PySem.W.Frag) (hc : X.calm = true) (h : X.K = K := by rfl) : CallR X (.builtin "sum") (rSum K) := by
  subst h
  exact cr_sum hc
theorem k_all (K : PySem.W.Frag) (hc : X.calm = true) (h : X.K = K := by rfl) : CallR X (.builtin "all") (rAll K) := by
  subst h
  exact cr_all hc
theorem k_any (K : PySem.W.Frag) (hc : X.calm = true) (h : X.K = K := by rfl) : CallR X (.builtin "any") (rAny K) := by
  subst h
  exact cr_any hc
theorem k_max (K : PySem.W.Frag) (hc : X.calm = true) (h : X.K = K := by rfl) : CallR X (.builtin "max") (rMax K) := by
  subst h
  exact cr_max hc
theorem k_min (K : PySem.W.Frag) (hc : X.calm = true) (h : X.K = K := by rfl) : CallR X (.builtin "min") (rMin K) := by
  subst h
  exact cr_min hc
theorem k_sorted (K : PySem.W.Frag) (h : X.K = K := by rfl) : CallR X (.builtin "sorted") (rSortedI K) := by
  subst h
  exact cr_sortedI
theorem k_list (K : PySem.W.Frag) (h : X.K = K := by rfl) : CallR X (.type "list") (rListS K) := by
  subst h
  exact call_list_of
theorem k_ixL (K : PySem.W.Frag) (h : X.K = K := by rfl) : IxR X (rIxL K) := by
  subst h
  exact ix_list
theorem k_ixT (K : PySem.W.Frag) (h : X.K = K := by rfl) : IxR X (rIxT K) := by
  subst h
  exact ix_tup
theorem k_in (K : PySem.W.Frag) (h : X.K = K := by rfl) : OpR X (compareOp .In) (rIn K false) := by
  subst h
  exact op_in_seq
theorem k_notIn (K : PySem.W.Frag) (h : X.K = K := by rfl) : OpR X (compareOp .NotIn) (rIn K true) := by
  subst h
  exact op_notIn_seq
theorem k_eqD (K : PySem.W.Frag) (hu : X.A.units + 64 < cLine) (h : X.K = K := by rfl) : OpR X (compareOp .Eq) (rEqD K) := by
  subst h
  exact op_eqD hu
theorem k_neD (K : PySem.W.Frag) (hu : X.A.units + 64 < cLine) (h : X.K = K := by rfl) : OpR X (compareOp .NotEq) (rNeD K) := by
  subst h
  exact op_neD hu
theorem k_slL (K : PySem.W.Frag) (h : X.K = K := by rfl) : SlR X (rSlL K) := by
  subst h
  exact sl_list
theorem k_piL (K : PySem.W.Frag) {tg l : Expr} {tl : TE} (hl : PE X l tl) (h : X.K = K := by rfl) : PI X tg l (iList K tl) := by
  subst h
  exact pi_list hl
theorem k_piT (K : PySem.W.Frag) {tg l : Expr} {tl : TE} (hl : PE X l tl) (h : X.K = K := by rfl) : PI X tg l (iTup K tl) := by
  subst h
  exact pi_tup hl
end
end TB

/-! ### what evaluates to what: further -/
namespace TB
open PySem PySem.Spec PyProof.Rows L2 Evl
def dInts (ns : List Int) : List PyData := ns.map PyData.int
theorem lay_ints : ∀ ns : List Int, PyData.canLayAll0 (dInts ns) = true
  | [] => rfl
  | n :: r => by
    show (PyData.canLay0 (.int n) && PyData.canLayAll0 (dInts r)) = true
    rw [lay_ints r]
    rfl
theorem dep_ints : ∀ ns : List Int, PyData.depthAll (dInts ns) = 0
  | [] => rfl
  | n :: r => by
    show max (PyData.depth (.int n)) (PyData.depthAll (dInts r)) = 0
    rw [dep_ints r]
    rfl
theorem shaped_list (ns : List Int) : SeqAt.shaped (.list (dInts ns)) = true := by
  show (PyData.canLayAll0 (dInts ns) && decide (PyData.depthAll (dInts ns) + 1 ≤ 64)) = true
  rw [lay_ints, dep_ints]
  rfl
theorem shaped_tuple (ns : List Int) : SeqAt.shaped (.tuple (dInts ns)) = true := by
  show (PyData.canLayAll0 (dInts ns) && decide (PyData.depthAll (dInts ns) + 1 ≤ 64)) = true
  rw [lay_ints, dep_ints]
  rfl
theorem eqvAll_ints : ∀ ns ms : List Int, PyData.eqvAll (dInts ns) (dInts ms) = decide (ns = ms)
  | [], [] => rfl
  | [], _ :: _ => rfl
  | _ :: _, [] => rfl
  | a :: r, b :: t => by
    show (PyData.eqv (.int a) (.int b) && PyData.eqvAll (dInts r) (dInts t)) = _
    rw [eqvAll_ints r t]
    show ((a == b) && decide (r = t)) = _
    rw [Bool.eq_iff_iff]
    simp
theorem eqv_list (ns ms : List Int) : PyData.eqv (.list (dInts ns)) (.list (dInts ms)) = decide (ns = ms) := by
  rw [← eqvAll_ints]
  rw [PyData.eqv]
theorem eqv_tuple (ns ms : List Int) : PyData.eqv (.tuple (dInts ns)) (.tuple (dInts ms)) = decide (ns = ms) := by
  rw [← eqvAll_ints]
  rw [PyData.eqv]
def RetU (xs : List V) (H : Hp) (Q : VK) : Prop := ∀ p H2, H p = none → Ex H H2 → H2 p = some (.tup xs) → Q (.ref p) H2
/-- what a def gives: a value, a new list, a new tuple, a refusal -/
inductive Re where
  | val (v : V)
  | lst (xs : List V)
  | tup (xs : List V)
  | err (x : Str)
  | clash (i j : Int)
def Give (K : PySem.W.Frag) (r : Re) (H : Hp) (Q : VK) (E : XK) : Prop := match r with
  | .val v => RetV v H Q
  | .lst xs => RetL xs H Q
  | .tup xs => RetU xs H Q
  | .err x => ∀ H2, Ex H H2 → E (.ref (He.ga K x)) none H2
  | .clash i j => ∀ H2 d p, H d = none → Ex H H2 → H2 d = some (.xd [(("beats" : Str), .ref p)]) → H2 p = some (.tup [.int i, .int j]) → E (.ref (He.ga K "Clash")) (some d) H2
section
variable {K : PySem.W.Frag} {σ : L2.St} {H H' : Hp} {ta tb tc te tl tx : TE} {t u : TT} {x y z v : V} {r r' : R2} {D : Ends} {tu tw tz : TS} {g : TG} {Q : VK} {E : XK}
theorem RetV.mono (e : Ex H H') (h : RetV v H Q) : RetV v H' Q := fun H2 e2 => h H2 (e.trans e2)
theorem RetL.mono {xs : List V} (e : Ex H H') (h : RetL xs H Q) : RetL xs H' Q := fun p H2 hp e2 h2 => h p H2 (fresh_back e hp) (e.trans e2) h2
theorem RetU.mono {xs : List V} (e : Ex H H') (h : RetU xs H Q) : RetU xs H' Q := fun p H2 hp e2 h2 => h p H2 (fresh_back e hp) (e.trans e2) h2
theorem Give.mono {r : Re} (e : Ex H H') (h : Give K r H Q E) : Give K r H' Q E := by
  cases r with
  | val v => exact RetV.mono e h
  | lst xs => exact RetL.mono e h
  | tup xs => exact RetU.mono e h
  | err x => exact fun H2 e2 => h H2 (e.trans e2)
  | clash i j => exact fun H2 d p hd e2 h1 h2 => h H2 d p (fresh_back e hd) (e.trans e2) h1 h2
theorem ev_chain {b c : Bool} (ha : Ev ta σ H x) (hb : Ev tb σ H y) (hr : RV r x y H (.bl b)) (hc : b = true → Ev tc σ H z) (hr' : b = true → RV r' y z H (.bl c)) : Ev (tChain r r' ta tb tc) σ H (.bl (b && c)) := fun H1 e Q q =>
  ha H1 e _ fun H2 e2 => hb H2 (e.trans e2) _ fun H3 e3 => hr H3 ((e.trans e2).trans e3) _ fun H4 e4 => ⟨b, rfl, by
    cases b with
    | true =>
      show tc σ H4 fun w' H4 => r' y w' H4 Q
      exact hc rfl H4 (((e.trans e2).trans e3).trans e4) _ fun H5 e5 => hr' rfl H5 ((((e.trans e2).trans e3).trans e4).trans e5) Q fun H6 e6 => q H6 ((((e2.trans e3).trans e4).trans e5).trans e6)
    | false =>
      show Q (.bl false) H4
      exact q H4 ((e2.trans e3).trans e4)⟩
theorem ev_and2 {a b : Bool} (h1 : Ev ta σ H (.bl a)) (h2 : Ev tb σ H (.bl b)) : Ev (tAndV ta tb) σ H (.bl (a && b)) := ev_andV h1 fun _ => h2
theorem ev_or2 {a b : Bool} (h1 : Ev ta σ H (.bl a)) (h2 : Ev tb σ H (.bl b)) : Ev (tOrV ta tb) σ H (.bl (a || b)) := ev_orV h1 fun _ => h2
theorem et_and2 {a b : Bool} (h1 : EvT t σ H a) (h2 : EvT u σ H b) : EvT (tAnd t u) σ H (a && b) := et_and h1 fun _ => h2
theorem et_or2 {a b : Bool} (h1 : EvT t σ H a) (h2 : EvT u σ H b) : EvT (tOr t u) σ H (a || b) := et_or h1 fun _ => h2
theorem ev_chain2 {b c : Bool} (ha : Ev ta σ H x) (hb : Ev tb σ H y) (hr : RV r x y H (.bl b)) (hc : Ev tc σ H z) (hr' : RV r' y z H (.bl c)) : Ev (tChain r r' ta tb tc) σ H (.bl (b && c)) := ev_chain ha hb hr (fun _ => hc) fun _ => hr'
/-- tests by truth -/
theorem et_tru {b : Bool} (h : Ev te σ H v) (ht : ∀ H1, Ex H H1 → TruV K v H1 b) : EvT (fun σ H Q => te σ H fun x H' => ∃ k, TruV K x H' k ∧ Q k H') σ H b := fun H1 e Q q =>
  h H1 e _ fun H2 e2 => ⟨b, ht H2 (e.trans e2), q H2 e2⟩
theorem rv_isN : RV (fun x y H Q => y = .non ∧ Q (.bl (decide (x = .non))) H) x .non H (.bl (decide (x = .non))) := fun H1 _ _ q => ⟨rfl, q H1 (Ex.refl H1)⟩
theorem rv_notN : RV (fun x y H Q => y = .non ∧ Q (.bl (!decide (x = .non))) H) x .non H (.bl (!decide (x = .non))) := fun H1 _ _ q => ⟨rfl, q H1 (Ex.refl H1)⟩
theorem ru_I {g : Int → V} {i : Int} : RU (rU g) (.int i) H (g i) := fun H1 _ _ q => ⟨i, rfl, q H1 (Ex.refl H1)⟩
/-- len of a list -/
theorem rc_len {p : Addr} {xs : List V} (h : SqL K H p xs) : RC (rLenS K) [.ref p] H (.int (xs.length : Int)) := fun H1 e _ q => ⟨p, xs, rfl, .inl (ex_l e h), q H1 (Ex.refl H1)⟩
theorem rc_lenT {p : Addr} {xs : List V} (h : SqT K H p xs) : RC (rLenS K) [.ref p] H (.int (xs.length : Int)) := fun H1 e _ q => ⟨p, xs, rfl, .inr (ex_t e h), q H1 (Ex.refl H1)⟩
theorem rc_sum {p : Addr} {ns : List Int} (h : SqL K H p (ns.map V.int)) : RC (rSum K) [.ref p] H (.int ns.sum) := fun H1 e _ q => ⟨p, ns, rfl, ex_l e h, q H1 (Ex.refl H1)⟩
theorem rc_abs {i : Int} : RC (fun xs H Q => ∃ i, xs = [.int i] ∧ Q (.int (if i < 0 then -i else i)) H) [.int i] H (.int (if i < 0 then -i else i)) := fun H1 _ _ q => ⟨i, rfl, q H1 (Ex.refl H1)⟩
theorem rcl_list {p : Addr} {xs : List V} (h : SqL K H p xs) : RCL (rListS K) [.ref p] H xs := fun H1 e _ q =>
  ⟨p, xs, rfl, .inl (ex_l e h), fun l hl => q l _ hl (Ex.new hl) upd_same⟩
theorem ev_all {bs : List Bool} (h : EvL te σ H (bs.map V.bl)) : Ev (tCB (rAll K) (tCons te tNil)) σ H (.bl (bs.all id)) := fun H1 e Q q =>
  h H1 e _ fun p H2 _ e2 h2 => ⟨p, bs, rfl, sq_of h2, q H2 e2⟩
theorem ev_any {bs : List Bool} (h : EvL te σ H (bs.map V.bl)) : Ev (tCB (rAny K) (tCons te tNil)) σ H (.bl (bs.any id)) := fun H1 e Q q =>
  h H1 e _ fun p H2 _ e2 h2 => ⟨p, bs, rfl, sq_of h2, q H2 e2⟩
theorem ev_sumN {ns : List Int} (h : EvL te σ H (ns.map V.int)) : Ev (tCB (rSum K) (tCons te tNil)) σ H (.int ns.sum) := fun H1 e Q q =>
  h H1 e _ fun p H2 _ e2 h2 => ⟨p, ns, rfl, sq_of h2, q H2 e2⟩
theorem et_yes : EvT tYes σ H true := fun H1 _ _ q => q H1 (Ex.refl H1)
theorem given_all (n : Nat) (v : Nat → V) : given n (fun _ => true) v = (List.range n).map v := by
  unfold given
  rw [List.filter_eq_self.mpr (fun _ _ => rfl)]
theorem given_map {xs : List V} {g : V → V} (v : Nat → V) (h : ∀ i x, xs[i]? = some x → v i = g x) : given xs.length (fun _ => true) v = xs.map g := by
  rw [given_all]
  apply List.ext_getElem
  · simp
  · intro i h1 h2
    simp only [List.getElem_map, List.getElem_range]
    have h3 : i < xs.length := by simpa using h2
    exact h i _ (List.getElem?_eq_getElem h3)
/-- [e for x in xs] -/
theorem el_map {a : Addr} {xs : List V} {j : Nat} {vs : List Nat} (g : V → V) (h : Ev tl σ H (.ref a)) (hx : SqL K H a xs) (hz : xs.length ≤ 40000) (hw : ∀ x, wipe ((wipe σ vs).set j (some x)) vs = wipe σ vs)
    (he : ∀ (x : V) H1, Ex H H1 → x ∈ xs → Ev te ((wipe σ vs).set j (some x)) H1 (g x)) :
    EvL (tLc (iList K tl) (gName j) tYes te vs) σ H (xs.map g) := by
  have q := el_lcL (te := te) (t := tYes) (fun _ => true) (fun i => g (xs.getD i .non)) h hx hz hw (fun _ _ _ _ _ => et_yes) (fun i x H1 e hi _ => by
    have e2 : xs.getD i .non = x := by
      rw [List.getD_eq_getElem?_getD, hi]
      rfl
    rw [e2]
    exact he x H1 e (List.mem_of_getElem? hi))
  rw [given_map (g := g) _ (fun i x hi => by
    have e2 : xs.getD i .non = x := by
      rw [List.getD_eq_getElem?_getD, hi]
      rfl
    rw [e2])] at q
  exact q
theorem el_mapT {a : Addr} {xs : List V} {j : Nat} {vs : List Nat} (gg : V → V) (h : Ev tl σ H (.ref a)) (hx : SqT K H a xs) (hz : xs.length ≤ 40000) (hw : ∀ x, wipe ((wipe σ vs).set j (some x)) vs = wipe σ vs)
    (he : ∀ (x : V) H1, Ex H H1 → x ∈ xs → Ev te ((wipe σ vs).set j (some x)) H1 (gg x)) :
    EvL (tLc (iTup K tl) (gName j) tYes te vs) σ H (xs.map gg) := fun H0 e Q q => h H0 e _ fun H1 e1 => ⟨a, rfl, ⟨xs, ex_t (e.trans e1) hx⟩, fun Dl hD =>
  lc_tup (xs := xs) (fun i H' => H1 Dl = none ∧ Ex H1 H' ∧ H' Dl = some (.lst ((xs.take i).map gg))) ⟨hD, Ex.new hD, by rw [upd_same]; rfl⟩ (fun i H' _ p => ex_t ((e.trans e1).trans p.2.1) hx) (fun i x H' hi p => ⟨hw x, by
    show te _ H' (fun y H4 => ∃ acc, H4 Dl = some (.lst acc) ∧ acc.length < sizeLine ∧ (H1 Dl = none ∧ Ex H1 (upd H4 Dl (.lst (acc ++ [y]))) ∧ (upd H4 Dl (.lst (acc ++ [y]))) Dl = some (.lst ((xs.take (i + 1)).map gg))))
    have hm := List.mem_of_getElem? hi
    have hil := (List.getElem?_eq_some_iff.mp hi).1
    refine he x H' ((e.trans e1).trans p.2.1) hm H' (Ex.refl H') _ fun H4 e4 => ⟨_, e4 _ _ p.2.2, sz_lt (by rw [List.length_map, List.length_take]; omega), p.1, Ex.mut (p.2.1.trans e4) p.1, ?_⟩
    rw [upd_same, List.take_add_one, hi, List.map_append]
    rfl⟩) (fun H' p => q Dl H' (fresh_back e1 p.1) (e1.trans p.2.1) (by
      have z := p.2.2
      rw [List.take_length] at z
      exact z))⟩
theorem isi_tup {a : Addr} {xs : List V} (h : H a = some (.tup xs)) : RC (rIsi K) [.ref a, .ty "tuple"] H (.bl true) := fun H1 e Q q =>
  ⟨_, _, _, _, true, rfl, .ty _, .base (.tup (e _ _ h)), kit_ty (by decide +kernel), q H1 (Ex.refl H1)⟩
theorem rv_eqD {d f : PyData} (h1 : ∀ H1, Ex H H1 → Dp K H1 x d) (h2 : ∀ H1, Ex H H1 → Dp K H1 y f) (s1 : SeqAt.shaped d = true) (s2 : SeqAt.shaped f = true) : RV (rEqD K) x y H (.bl (PyData.eqv d f)) := fun H1 e _ q => ⟨d, f, h1 H1 e, h2 H1 e, s1, s2, q H1 (Ex.refl H1)⟩
theorem rv_neD {d f : PyData} (h1 : ∀ H1, Ex H H1 → Dp K H1 x d) (h2 : ∀ H1, Ex H H1 → Dp K H1 y f) (s1 : SeqAt.shaped d = true) (s2 : SeqAt.shaped f = true) : RV (rNeD K) x y H (.bl (!PyData.eqv d f)) := fun H1 e _ q => ⟨d, f, h1 H1 e, h2 H1 e, s1, s2, q H1 (Ex.refl H1)⟩
theorem dp_ints : ∀ ns : List Int, DpAll K H (ns.map V.int) (dInts ns)
  | [] => .nil
  | n :: r => .cons (.int n) (dp_ints r)
theorem dp_list {a : Addr} {ns : List Int} (h : SqL K H a (ns.map V.int)) : ∀ H1, Ex H H1 → Dp K H1 (.ref a) (.list (dInts ns)) := fun H1 e => .lst (ex_l e h) (dp_ints ns)
theorem dp_tuple {a : Addr} {ns : List Int} (h : SqT K H a (ns.map V.int)) : ∀ H1, Ex H H1 → Dp K H1 (.ref a) (.tuple (dInts ns)) := fun H1 e => .tup (ex_t e h) (dp_ints ns)
/-- == and != of lists, of tuples of whole numbers -/
theorem rv_eqL {a b : Addr} {ns ms : List Int} (h1 : SqL K H a (ns.map V.int)) (h2 : SqL K H b (ms.map V.int)) : RV (rEqD K) (.ref a) (.ref b) H (.bl (decide (ns = ms))) := by
  have z := rv_eqD (dp_list h1) (dp_list h2) (shaped_list ns) (shaped_list ms)
  rw [eqv_list] at z
  exact z
theorem rv_neL {a b : Addr} {ns ms : List Int} (h1 : SqL K H a (ns.map V.int)) (h2 : SqL K H b (ms.map V.int)) : RV (rNeD K) (.ref a) (.ref b) H (.bl (!decide (ns = ms))) := by
  have z := rv_neD (dp_list h1) (dp_list h2) (shaped_list ns) (shaped_list ms)
  rw [eqv_list] at z
  exact z
theorem rv_neT {a b : Addr} {ns ms : List Int} (h1 : SqT K H a (ns.map V.int)) (h2 : SqT K H b (ms.map V.int)) : RV (rNeD K) (.ref a) (.ref b) H (.bl (!decide (ns = ms))) := by
  have z := rv_neD (dp_tuple h1) (dp_tuple h2) (shaped_tuple ns) (shaped_tuple ms)
  rw [eqv_tuple] at z
  exact z
/-- [e for k in range(n)] -/
theorem el_rng {ta : TA} {j : Nat} {vs : List Nat} {n : Int} (g : Nat → V) (h : EvA ta σ H [.int n]) (hn : 0 ≤ n ∧ n ≤ 40000) (hw : ∀ x, wipe ((wipe σ vs).set j (some x)) vs = wipe σ vs)
    (he : ∀ (i : Nat) H1, Ex H H1 → (i : Int) < n → Ev te ((wipe σ vs).set j (some (.int (i : Int)))) H1 (g i)) :
    EvL (tLc (iRng1 ta) (gName j) tYes te vs) σ H ((List.range n.toNat).map g) := by
  have q := el_lcR1 (te := te) (t := tYes) (fun _ => true) g h hn hw (fun _ _ _ _ => et_yes) (fun i H1 e hi _ => he i H1 e hi)
  rw [given_all] at q
  exact q
theorem el_filtR {ta : TA} {j : Nat} {vs : List Nat} {n : Int} (f : Nat → Bool) (g : Nat → V) (h : EvA ta σ H [.int n]) (hn : 0 ≤ n ∧ n ≤ 40000) (hw : ∀ x, wipe ((wipe σ vs).set j (some x)) vs = wipe σ vs)
    (ht : ∀ (i : Nat) H1, Ex H H1 → (i : Int) < n → EvT t ((wipe σ vs).set j (some (.int (i : Int)))) H1 (f i))
    (he : ∀ (i : Nat) H1, Ex H H1 → (i : Int) < n → f i = true → Ev te ((wipe σ vs).set j (some (.int (i : Int)))) H1 (g i)) :
    EvL (tLc (iRng1 ta) (gName j) t te vs) σ H (((List.range n.toNat).filter f).map g) := el_lcR1 f g h hn hw ht he
/-- what a call of an own def gives -/
theorem spv_of {sp : Sp} {vs : List V} (h : ∀ H1, Ex H H1 → ∀ (Q : VK) (E : XK), RetV z H1 Q → sp vs H1 Q E) : SpV sp vs H z := fun H1 e Q q E => h H1 e Q E q
theorem spl_of {sp : Sp} {vs xs : List V} (h : ∀ H1, Ex H H1 → ∀ (Q : VK) (E : XK), RetL xs H1 Q → sp vs H1 Q E) : SpL sp vs H xs := fun H1 e Q q E => h H1 e Q E q
/-- a call in the making of a tuple -/
def SpU (sp : Sp) (vs : List V) (H : Hp) (xs : List V) : Prop := ∀ H1, Ex H H1 → ∀ Q : VK, RetU xs H1 Q → ∀ E : XK, sp vs H1 Q E
theorem eu_call {sp : Sp} {dvs vs xs : List V} {E : XK} {ta : TA} (h : EvA ta σ H vs) (hs : SpU sp (vs ++ dvs) H xs) : EvU (tCall sp dvs E ta) σ H xs := fun H1 e Q q =>
  h H1 e _ fun H2 e2 => hs H2 (e.trans e2) Q (fun p H3 hp e3 h3 => q p H3 (fresh_back e2 hp) (e2.trans e3) h3) E
/-- a call that gives some new list, of which P holds -/
theorem q_relL {sp : Sp} {vs dvs : List V} {E : XK} {ta : TA} {i : Nat} {P : List Int → Prop} (h : EvA ta σ H vs) (hs : ∀ H1, Ex H H1 → ∀ (Q : VK) (E : XK), (∀ xs, P xs → RetL (xs.map V.int) H1 Q) → sp (vs ++ dvs) H1 Q E)
    (k : ∀ xs p H1, P xs → H p = none → Ex H H1 → H1 p = some (.lst (xs.map V.int)) → tz D (σ.set i (some (.ref p))) H1) : tSeq (tAsg (tCall sp dvs E ta) (gName i)) tz D σ H :=
  h H (Ex.refl H) _ fun H1 e1 => hs H1 e1 _ E fun xs hx p H2 hp e2 h2 => k xs p H2 hx (fresh_back e1 hp) (e1.trans e2) h2
/-- what follows a statement, shown once -/
theorem q_key {M : L2.St → Hp → Prop} (key : ∀ σ' H', M σ' H' → tz D σ' H') (h : (∀ σ' H', M σ' H' → tz D σ' H') → tSeq tu tz D σ H) : tSeq tu tz D σ H := h key
/-! dicts with whole keys -/
theorem ev_din {kvs : List (Key × V)} {a : Addr} {i : Int} {td ty : TE} (hy : Ev ty σ H (.int i)) (hd : Ev td σ H (.ref a)) (h : H a = some (.dK kvs)) : Ev (tDIn ty td) σ H (.bl (valV kvs (Sum.inl i)).isSome) := fun H1 e Q q =>
  hy H1 e _ fun H2 e2 => hd H2 (e.trans e2) _ fun H3 e3 => ⟨a, _, rfl, DGet.k (k := Sum.inl i) (((e.trans e2).trans e3) _ _ h), q H3 (e2.trans e3)⟩
theorem ev_dnotin {kvs : List (Key × V)} {a : Addr} {i : Int} {td ty : TE} (hy : Ev ty σ H (.int i)) (hd : Ev td σ H (.ref a)) (h : H a = some (.dK kvs)) : Ev (tDNotIn ty td) σ H (.bl (!(valV kvs (Sum.inl i)).isSome)) := fun H1 e Q q =>
  hy H1 e _ fun H2 e2 => hd H2 (e.trans e2) _ fun H3 e3 => ⟨a, _, rfl, DGet.k (k := Sum.inl i) (((e.trans e2).trans e3) _ _ h), q H3 (e2.trans e3)⟩
theorem ev_dget {kvs : List (Key × V)} {a : Addr} {i : Int} {td ty : TE} (hd : Ev td σ H (.ref a)) (hy : Ev ty σ H (.int i)) (h : H a = some (.dK kvs)) (hv : valV kvs (Sum.inl i) = some v) : Ev (tDGet td ty) σ H v := fun H1 e Q q =>
  hd H1 e _ fun H2 e2 => hy H2 (e.trans e2) _ fun H3 e3 => ⟨a, v, rfl, by
    have z := DGet.k (k := Sum.inl i) (((e.trans e2).trans e3) _ _ h)
    rw [hv] at z
    exact z, q H3 (e2.trans e3)⟩
theorem s_dput {kvs : List (Key × V)} {a : Addr} {i : Int} {td ty : TE} (h : H a = some (.dK kvs)) (hv : Ev te σ H v) (hd : Ev td σ H (.ref a)) (hy : Ev ty σ H (.int i)) (hz : kvs.length < 100000) (k : ∀ H1, Ex H H1 → D.nx σ (upd H1 a (.dK (putK kvs (Sum.inl i) v)))) :
    sDPut td ty te D σ H := hv H (Ex.refl H) _ fun H1 e1 => hd H1 e1 _ fun H2 e2 => hy H2 (e1.trans e2) _ fun H3 e3 => ⟨a, _, rfl, DPut.k (k := Sum.inl i) (((e1.trans e2).trans e3) _ _ h) (sz_lt hz), k H3 ((e1.trans e2).trans e3)⟩
theorem q_dput {kvs : List (Key × V)} {a : Addr} {i : Int} {td ty : TE} (h : H a = some (.dK kvs)) (hv : Ev te σ H v) (hd : Ev td σ H (.ref a)) (hy : Ev ty σ H (.int i)) (hz : kvs.length < 100000) (k : ∀ H1, Ex H H1 → tz D σ (upd H1 a (.dK (putK kvs (Sum.inl i) v)))) :
    tSeq (sDPut td ty te) tz D σ H := s_dput (D := { D with nx := tz D }) h hv hd hy hz k
/-- d = {} -/
theorem q_dnew {i : Nat} (k : ∀ p, H p = none → tz D (σ.set i (some (.ref p))) (upd H p (.dK []))) : tSeq (tAsg tDNewK (gName i)) tz D σ H := fun p hp => k p hp
/-- a tuple given back -/
theorem s_retU2 {xs : List V} {ta : TA} (h : EvA ta σ H xs) (hl : xs.length ≤ 100000) (k : RetU xs H D.rt) : tRet (tTup ta) D σ H := s_retU (eu_tup h hl) k
end
theorem atI_int {ns : List Int} {j : Nat} (h : j < ns.length) : atI (ns.map V.int) (j : Int) = some (.int (ns.getD j 0)) := by
  apply atI_nat
  rw [List.getElem?_map, List.getElem?_eq_getElem h, List.getD_eq_getElem?_getD, List.getElem?_eq_getElem h]
  rfl
end TB
namespace TB
open PySem PySem.Spec PyProof.Rows L2 Evl
section
variable {K : PySem.W.Frag} {σ : L2.St} {H H' : Hp} {te : TE} {tz : TS} {D : Ends}
/-- the greatest of a list -/
def mx : List Int → Int
  | [] => 0
  | x :: r => r.foldl max x
theorem foldl_max_ge : ∀ (r : List Int) (x : Int), x ≤ r.foldl max x ∧ ∀ y ∈ r, y ≤ r.foldl max x
  | [], x => ⟨Int.le_refl _, fun _ h => nomatch h⟩
  | a :: r, x => by
    obtain ⟨h1, h2⟩ := foldl_max_ge r (max x a)
    refine ⟨Int.le_trans (Int.le_max_left _ _) h1, fun y hy => ?_⟩
    rcases List.mem_cons.mp hy with rfl | hy
    · exact Int.le_trans (Int.le_max_right _ _) h1
    · exact h2 y hy
theorem foldl_max_mem : ∀ (r : List Int) (x : Int), r.foldl max x = x ∨ r.foldl max x ∈ r
  | [], x => .inl rfl
  | a :: r, x => by
    rcases foldl_max_mem r (max x a) with h | h
    · show r.foldl max (max x a) = x ∨ r.foldl max (max x a) ∈ a :: r
      rw [h]
      by_cases e : x ≤ a
      · rw [Int.max_eq_right e]
        exact .inr List.mem_cons_self
      · rw [Int.max_eq_left (by omega)]
        exact .inl rfl
    · exact .inr (List.mem_cons_of_mem _ h)
theorem mx_mem {l : List Int} (h : l ≠ []) : mx l ∈ l := by
  cases l with
  | nil => exact absurd rfl h
  | cons x r =>
    rcases foldl_max_mem r x with e | e
    · show r.foldl max x ∈ x :: r
      rw [e]
      exact List.mem_cons_self
    · exact List.mem_cons_of_mem _ e
theorem mx_ge {l : List Int} {y : Int} (h : y ∈ l) : y ≤ mx l := by
  cases l with
  | nil => cases h
  | cons x r =>
    obtain ⟨h1, h2⟩ := foldl_max_ge r x
    rcases List.mem_cons.mp h with rfl | h
    · exact h1
    · exact h2 y h
theorem mx_eq {l : List Int} {m : Int} (h1 : m ∈ l) (h2 : ∀ y, y ∈ l → y ≤ m) : m = mx l := by
  have ne : l ≠ [] := fun e => by
    rw [e] at h1
    cases h1
  have a := mx_ge h1
  have b := h2 _ (mx_mem ne)
  omega
theorem ev_maxN {ns : List Int} (h : EvL te σ H (ns.map V.int)) (h0 : 0 < ns.length) : Ev (tCB (rMax K) (tCons te tNil)) σ H (.int (mx ns)) := fun H1 e Q q =>
  h H1 e _ fun p H2 _ e2 h2 => ⟨p, ns, rfl, sq_of h2, h0, fun m hm hle => by
    rw [mx_eq hm hle]
    exact q H2 e2⟩
theorem rc_max {p : Addr} {ns : List Int} (h : SqL K H p (ns.map V.int)) (h0 : 0 < ns.length) : RC (rMax K) [.ref p] H (.int (mx ns)) := fun H1 e _ q => ⟨p, ns, rfl, ex_l e h, h0, fun m hm hle => by
  rw [mx_eq hm hle]
  exact q H1 (Ex.refl H1)⟩
/-- the greatest of what is beyond nothing is within -/
theorem mx_abs {ns : List Int} (h : ns ≠ []) (b : Int) : decide (b < mx (ns.map fun n => if n < 0 then -n else n)) = !(ns.all fun n => decide (-b ≤ n) && decide (n ≤ b)) := by
  rw [Bool.eq_iff_iff, decide_eq_true_iff, Bool.not_eq_true', List.all_eq_false]
  constructor
  · intro hb
    have hm := mx_mem (l := ns.map fun n => if n < 0 then -n else n) (by simpa using h)
    obtain ⟨n, hn, e⟩ := List.mem_map.mp hm
    refine ⟨n, hn, ?_⟩
    rw [← e] at hb
    simp only [Bool.and_eq_true, decide_eq_true_iff]
    split at hb <;> omega
  · rintro ⟨n, hn, hb⟩
    simp only [Bool.and_eq_true, decide_eq_true_iff] at hb
    have hg := mx_ge (List.mem_map.mpr ⟨n, hn, rfl⟩ : (if n < 0 then -n else n) ∈ ns.map fun n => if n < 0 then -n else n)
    split at hg <;> omega
/-- a call that gives some number, of which P holds -/
theorem q_relV {sp : Sp} {vs dvs : List V} {E : XK} {ta : TA} {i : Nat} {P : Int → Prop} (h : EvA ta σ H vs) (hs : ∀ H1, Ex H H1 → ∀ (Q : VK) (E : XK), (∀ x, P x → RetV (.int x) H1 Q) → sp (vs ++ dvs) H1 Q E)
    (k : ∀ x H1, P x → Ex H H1 → tz D (σ.set i (some (.int x))) H1) : tSeq (tAsg (tCall sp dvs E ta) (gName i)) tz D σ H :=
  h H (Ex.refl H) _ fun H1 e1 => hs H1 e1 _ E fun x hx H2 e2 => k x H2 hx (e1.trans e2)
theorem isi_listL {a : Addr} {xs : List V} (h : H a = some (.lst xs)) : RC (rIsi K) [.ref a, .ty "list"] H (.bl true) := fun H1 e Q q =>
  ⟨_, _, _, _, true, rfl, .ty _, .base (.lst (e _ _ h)), kit_ty (by decide +kernel), q H1 (Ex.refl H1)⟩
theorem isi_intI {i : Int} : RC (rIsi K) [.int i, .ty "int"] H (.bl true) := isi_int (.int i)
theorem isi_boolI {i : Int} : RC (rIsi K) [.int i, .ty "bool"] H (.bl false) := isi_bool (.int i)
end
theorem atI_lt {ns : List Int} {j : Int} (h0 : 0 ≤ j) (h : j < (ns.length : Int)) : atI (ns.map V.int) j = some (.int (ns.getD j.toNat 0)) := by
  have e : j = ((j.toNat : Nat) : Int) := by omega
  have z := atI_int (ns := ns) (j := j.toNat) (by omega)
  rw [← e] at z
  exact z
end TB
namespace TB
open PySem PySem.Spec PyProof.Rows L2 Evl
section
variable {K : PySem.W.Frag} {σ : L2.St} {H H' : Hp} {te tl : TE} {tz : TS} {D : Ends}
/-- [e for n in ns], whole numbers to whole numbers -/
theorem el_mapI {a : Addr} {ns : List Int} {j : Nat} {vs : List Nat} (f : Int → Int) (h : Ev tl σ H (.ref a)) (hx : SqL K H a (ns.map V.int)) (hz : ns.length ≤ 40000) (hw : ∀ x, wipe ((wipe σ vs).set j (some x)) vs = wipe σ vs)
    (he : ∀ (n : Int) H1, Ex H H1 → n ∈ ns → Ev te ((wipe σ vs).set j (some (.int n))) H1 (.int (f n))) : EvL (tLc (iList K tl) (gName j) tYes te vs) σ H ((ns.map f).map V.int) := by
  have z := el_map (K := K) (te := te) (tl := tl) (j := j) (vs := vs) (σ := σ) (H := H) (fun x => match x with | .int n => .int (f n) | _ => .non) h hx (by rw [List.length_map]; exact hz) hw (fun x H1 e hx => by
    obtain ⟨n, hn, rfl⟩ := List.mem_map.mp hx
    exact he n H1 e hn)
  rw [List.map_map] at z ⊢
  exact z
theorem el_rngI {ta : TA} {j : Nat} {vs : List Nat} {n : Nat} (f : Nat → Int) (h : EvA ta σ H [.int (n : Int)]) (hn : n ≤ 40000) (hw : ∀ x, wipe ((wipe σ vs).set j (some x)) vs = wipe σ vs)
    (he : ∀ (i : Nat) H1, Ex H H1 → i < n → Ev te ((wipe σ vs).set j (some (.int (i : Int)))) H1 (.int (f i))) : EvL (tLc (iRng1 ta) (gName j) tYes te vs) σ H (((List.range n).map f).map V.int) := by
  have z := el_rng (te := te) (j := j) (vs := vs) (σ := σ) (H := H) (fun i => .int (f i)) h (by omega) hw (fun i H1 e hi => he i H1 e (by omega))
  rw [List.map_map]
  exact z
end
end TB
namespace TB
open PySem PySem.Spec PyProof.Rows L2 Evl
section
variable {K : PySem.W.Frag} {σ : L2.St} {H H' : Hp} {t1 t2 : TE} {tz : TS} {D : Ends} {sp : Sp} {dvs xs ys : List V} {E : XK} {v z : V}
/-- calls of two arguments, new lists among them -/
theorem ev_cLL (h1 : EvL t1 σ H xs) (h2 : EvL t2 σ H ys) (hs : ∀ p r H1, H1 p = some (.lst xs) → H1 r = some (.lst ys) → Ex H H1 → SpV sp ([.ref p, .ref r] ++ dvs) H1 z) : Ev (tCall sp dvs E (tCons t1 (tCons t2 tNil))) σ H z := fun H1 e Q q =>
  h1 H1 e _ fun p H2 _ e2 g1 => h2 H2 (e.trans e2) _ fun r H3 _ e3 g2 => hs p r H3 (e3 _ _ g1) g2 ((e.trans e2).trans e3) H3 (Ex.refl H3) Q (fun H4 e4 => q H4 ((e2.trans e3).trans e4)) E
theorem ev_cLV (h1 : EvL t1 σ H xs) (h2 : Ev t2 σ H v) (hs : ∀ p H1, H1 p = some (.lst xs) → Ex H H1 → SpV sp ([.ref p, v] ++ dvs) H1 z) : Ev (tCall sp dvs E (tCons t1 (tCons t2 tNil))) σ H z := fun H1 e Q q =>
  h1 H1 e _ fun p H2 _ e2 g1 => h2 H2 (e.trans e2) _ fun H3 e3 => hs p H3 (e3 _ _ g1) ((e.trans e2).trans e3) H3 (Ex.refl H3) Q (fun H4 e4 => q H4 ((e2.trans e3).trans e4)) E
theorem ev_cVL (h1 : Ev t1 σ H v) (h2 : EvL t2 σ H ys) (hs : ∀ r H1, H1 r = some (.lst ys) → Ex H H1 → SpV sp ([v, .ref r] ++ dvs) H1 z) : Ev (tCall sp dvs E (tCons t1 (tCons t2 tNil))) σ H z := fun H1 e Q q =>
  h1 H1 e _ fun H2 e2 => h2 H2 (e.trans e2) _ fun r H3 _ e3 g2 => hs r H3 g2 ((e.trans e2).trans e3) H3 (Ex.refl H3) Q (fun H4 e4 => q H4 ((e2.trans e3).trans e4)) E
theorem ev_cL (h1 : EvL t1 σ H xs) (hs : ∀ p H1, H1 p = some (.lst xs) → Ex H H1 → SpV sp ([.ref p] ++ dvs) H1 z) : Ev (tCall sp dvs E (tCons t1 tNil)) σ H z := fun H1 e Q q =>
  h1 H1 e _ fun p H2 _ e2 g1 => hs p H2 g1 (e.trans e2) H2 (Ex.refl H2) Q (fun H4 e4 => q H4 (e2.trans e4)) E
/-- .. the second argument some number, of which P holds -/
theorem ev_cVR {sp2 : Sp} {dvs2 vs2 : List V} {E2 : XK} {ta : TA} {P : Int → Prop} (h1 : Ev t1 σ H v) (h2 : EvA ta σ H vs2) (hs2 : ∀ H1, Ex H H1 → ∀ (Q : VK) (E : XK), (∀ x, P x → RetV (.int x) H1 Q) → sp2 (vs2 ++ dvs2) H1 Q E)
    (hs : ∀ x H1, P x → Ex H H1 → SpV sp ([v, .int x] ++ dvs) H1 z) : Ev (tCall sp dvs E (tCons t1 (tCons (tCall sp2 dvs2 E2 ta) tNil))) σ H z := fun H1 e Q q =>
  h1 H1 e _ fun H2 e2 => h2 H2 (e.trans e2) _ fun H3 e3 => hs2 H3 ((e.trans e2).trans e3) _ E2 fun x hx H4 e4 => hs x H4 hx (((e.trans e2).trans e3).trans e4) H4 (Ex.refl H4) Q (fun H5 e5 => q H5 (((e2.trans e3).trans e4).trans e5)) E
end
end TB
/-! isinstance asked of the caught exception -/
namespace TB
open PySem PySem.Spec PyProof.Rows L2 Evl
def excB (K : PySem.W.Frag) (D : Addr) : Bool := decide (PySem.W.findIn K (.ref D) "__getattribute__" = some (some (.builtin "BaseException.__getattribute__"))) && (decide (PySem.W.findIn K (.ref D) "__getattr__" = some none) && (decide (PySem.W.subIn K (.ref D) (.type "BaseException") = some true) && (PySem.W.hasDictIn K D &&
  (decide (PySem.W.findIn K (.ref D) "__class__" = some (some (.builtin "object.__class__"))) && (decide (PySem.W.specialIn K (.builtin "object.__class__") "__get__" = some (some (.builtin "getset_descriptor.__get__"))) && (decide (PySem.W.takesIn K (.builtin "object.__class__") = some true) && decide (PySem.W.mroIn K D (.type "object") = some true)))))))
theorem excB_ok {K : PySem.W.Frag} {D : Addr} (h : excB K D = true) : ExcC K D := by
  obtain ⟨h1, h⟩ := Bool.and_eq_true_iff.mp h
  obtain ⟨h2, h⟩ := Bool.and_eq_true_iff.mp h
  obtain ⟨h3, h⟩ := Bool.and_eq_true_iff.mp h
  obtain ⟨h4, h⟩ := Bool.and_eq_true_iff.mp h
  obtain ⟨h5, h⟩ := Bool.and_eq_true_iff.mp h
  obtain ⟨h6, h⟩ := Bool.and_eq_true_iff.mp h
  obtain ⟨h7, h8⟩ := Bool.and_eq_true_iff.mp h
  exact ⟨of_decide_eq_true h1, of_decide_eq_true h2, of_decide_eq_true h3, h4, of_decide_eq_true h5, of_decide_eq_true h6, of_decide_eq_true h7, of_decide_eq_true h8⟩
/-- the classes of refusals, each with what it is an instance of -/
def exB (K : PySem.W.Frag) (cs : List (Str × List (Str × Bool))) : Bool := cs.all fun r => excB K (He.ga K r.1) && ((r.2.all fun c => decide (PySem.W.kitOne K (.ref (He.ga K r.1)) (.ref (He.ga K c.1)) = some c.2)) && decide (PySem.W.kitOne K (.ref (He.ga K r.1)) (.type "ValueError") = some true))
theorem exB_row {K : PySem.W.Frag} {cs : List (Str × List (Str × Bool))} (h : exB K cs = true) (i : Nat) {r : Str × List (Str × Bool)} (hr : cs[i]? = some r) : ExcC K (He.ga K r.1) ∧ PySem.W.kitOne K (.ref (He.ga K r.1)) (.type "ValueError") = some true ∧ ∀ (j : Nat) (c : Str × Bool), r.2[j]? = some c → PySem.W.kitOne K (.ref (He.ga K r.1)) (.ref (He.ga K c.1)) = some c.2 := by
  have z := List.all_eq_true.mp h r (List.mem_of_getElem? hr)
  obtain ⟨h1, h2⟩ := Bool.and_eq_true_iff.mp z
  obtain ⟨h3, h4⟩ := Bool.and_eq_true_iff.mp h2
  exact ⟨excB_ok h1, of_decide_eq_true h4, fun j c hc => of_decide_eq_true (List.all_eq_true.mp h3 c (List.mem_of_getElem? hc))⟩
def rIsX (K : PySem.W.Frag) (cls : Value) (d : Option Addr) (a : Addr) : List V → Hp → VK → Prop := fun xs H Q => ∃ (D : Addr) (c : V) (cv : Value) (b : Bool), cls = .ref D ∧ d = none ∧ ExcC K D ∧ xs = [.ref a, c] ∧ ClsV c cv ∧ PySem.W.kitOne K (.ref D) cv = some b ∧ Q (.bl b) H
def rIsXT (K : PySem.W.Frag) (cls : Value) (d : Option Addr) (a : Addr) : List V → Hp → VK → Prop := fun xs H Q => ∃ (D tp : Addr) (cs : List V) (us : List Value) (b : Bool), cls = .ref D ∧ d = none ∧ ExcC K D ∧ xs = [.ref a, .ref tp] ∧ H tp = some (.tup cs) ∧ Paired ClsV cs us ∧ PySem.W.kitAny K (.ref D) us = some b ∧ Q (.bl b) H
section
variable {X : Cx} {a : Addr} {oe : Obj} {cls : Value} {d : Option Addr} {pn : List (Addr × Obj)}
theorem isX (hz : Zc cls d oe) (hf : ∃ vs, oe.data = .fields vs) : CallR (X.suite a ((a, oe) :: pn)) (.builtin "isinstance") (rIsX X.K cls d a) := by
  intro pins s σ H xs us Q I r h
  obtain ⟨D, c, cv, b, rfl, rfl, C, rfl, hc, e, q⟩ := h
  exact call_isE C hz hf pins s σ H _ us Q I r ⟨c, cv, b, rfl, fun u k => hc.eq k, e, q⟩
theorem isXT (hz : Zc cls d oe) (hf : ∃ vs, oe.data = .fields vs) : CallR (X.suite a ((a, oe) :: pn)) (.builtin "isinstance") (rIsXT X.K cls d a) := by
  intro pins s σ H xs us Q I r h
  obtain ⟨D, tp, cs, ws, b, rfl, rfl, C, rfl, hT, k, e, q⟩ := h
  obtain ⟨u1, u2, rfl, r1, r2⟩ := vals2 r
  cases (show u2 = Value.ref tp from r2)
  cases (show u1 = Value.ref a from r1)
  obtain ⟨hget, _⟩ := I.pin (a, oe) (List.mem_append.mpr (.inl List.mem_cons_self))
  obtain ⟨vs, hv⟩ := hf
  have J : PySem.W.InstAt s.heap a oe D none := by
    obtain ⟨oc, od, oda, osl⟩ := oe
    obtain ⟨h1, h2⟩ := hz
    dsimp only at h1 h2 hv
    subst h1 h2 hv
    exact ⟨hget, rfl, rfl, trivial⟩
  obtain ⟨_, its, rv, o, h1, h2, n, h3⟩ := (show ObjOk X.prog X.w H s.heap tp (.tup cs) from I.hok tp _ hT)
  have e3 := ClsV.all k rv
  subst e3
  obtain ⟨oc, od, dt, sl⟩ := o
  simp only at h2 h3
  subst h2 h3
  exact PySem.W.kia_tup (PySem.W.handS_kitx_exc C.hg C.hk C.hs C.hd C.ha C.hn C.ht C.hm) I.kIn J h1 e (fun z => nomatch z) fun tk => ⟨.bl b, H, I.kept (t' := tk) fun _ _ z => z, rfl, q⟩
end
section
variable {K : PySem.W.Frag} {σ : L2.St} {H H' : Hp} {te tl : TE}
/-- isinstance(e, c) -/
theorem rc_isX {D a : Addr} {c : V} {cv : Value} {b : Bool} (C : ExcC K D) (hc : ClsV c cv) (e : PySem.W.kitOne K (.ref D) cv = some b) : RC (rIsX K (.ref D) none a) [.ref a, c] H (.bl b) := fun H1 _ Q q => ⟨D, c, cv, b, rfl, rfl, C, rfl, hc, e, q H1 (Ex.refl H1)⟩
theorem rc_isXT {D a tp : Addr} {cs : List V} {us : List Value} {b : Bool} (C : ExcC K D) (h : H tp = some (.tup cs)) (hc : Paired ClsV cs us) (e : PySem.W.kitAny K (.ref D) us = some b) : RC (rIsXT K (.ref D) none a) [.ref a, .ref tp] H (.bl b) := fun H1 e1 Q q => ⟨D, tp, cs, us, b, rfl, rfl, C, rfl, e1 _ _ h, hc, e, q H1 (Ex.refl H1)⟩
/-- a built-in call of two arguments, the second a new tuple -/
theorem ev_cbU {r : List V → Hp → VK → Prop} {t1 t2 : TE} {v z : V} {xs : List V} (h1 : Ev t1 σ H v) (h2 : EvU t2 σ H xs) (hs : ∀ p H1, H1 p = some (.tup xs) → Ex H H1 → RC r [v, .ref p] H1 z) : Ev (tCB r (tCons t1 (tCons t2 tNil))) σ H z := fun H1 e Q q =>
  h1 H1 e _ fun H2 e2 => h2 H2 (e.trans e2) _ fun p H3 _ e3 g2 => hs p H3 g2 ((e.trans e2).trans e3) H3 (Ex.refl H3) Q fun H4 e4 => q H4 ((e2.trans e3).trans e4)
/-- [e for x in xs if t], whole numbers -/
theorem el_filtL {a : Addr} {ns : List Int} {j : Nat} {vs : List Nat} {t : TT} (p : Int → Bool) (f : Int → Int) (h : Ev tl σ H (.ref a)) (hx : SqL K H a (ns.map V.int)) (hz : ns.length ≤ 40000) (hw : ∀ x, wipe ((wipe σ vs).set j (some x)) vs = wipe σ vs)
    (ht : ∀ (n : Int) H1, Ex H H1 → n ∈ ns → EvT t ((wipe σ vs).set j (some (.int n))) H1 (p n)) (he : ∀ (n : Int) H1, Ex H H1 → n ∈ ns → Ev te ((wipe σ vs).set j (some (.int n))) H1 (.int (f n))) : EvL (tLc (iList K tl) (gName j) t te vs) σ H (((ns.filter p).map f).map V.int) := by
  have at_ : ∀ (i : Nat) (x : V), (ns.map V.int)[i]? = some x → x = .int (ns.getD i 0) ∧ ns.getD i 0 ∈ ns := fun i x hi => by
    rw [List.getElem?_map] at hi
    cases hg : ns[i]? with
    | none => rw [hg] at hi; cases hi
    | some y =>
      rw [hg] at hi
      have e2 : ns.getD i 0 = y := by rw [List.getD_eq_getElem?_getD, hg]; rfl
      rw [e2]
      exact ⟨(Option.some.inj hi).symm, List.mem_of_getElem? hg⟩
  have z := el_lcL (K := K) (te := te) (t := t) (tl := tl) (j := j) (vs := vs) (σ := σ) (H := H) (fun i => p (ns.getD i 0)) (fun i => .int (f (ns.getD i 0))) h hx (by rw [List.length_map]; exact hz) hw (fun i x H1 e hi => by
    obtain ⟨rfl, hm⟩ := at_ i x hi
    exact ht _ H1 e hm) (fun i x H1 e hi _ => by
    obtain ⟨rfl, hm⟩ := at_ i x hi
    exact he _ H1 e hm)
  have e : given (ns.map V.int).length (fun i => p (ns.getD i 0)) (fun i => .int (f (ns.getD i 0))) = ((ns.filter p).map f).map V.int := by
    unfold given
    rw [List.length_map]
    have w : ns = (List.range ns.length).map fun i => ns.getD i 0 := by
      apply List.ext_getElem
      · simp
      · intro i h1 h2
        rw [List.getElem_map, List.getElem_range, List.getD_eq_getElem?_getD, List.getElem?_eq_getElem h1]
        rfl
    have w2 : ns.filter p = ((List.range ns.length).filter fun i => p (ns.getD i 0)).map fun i => ns.getD i 0 := by
      conv => lhs; rw [w]
      rw [List.filter_map]
      rfl
    rw [w2, List.map_map, List.map_map]
    rfl
  rw [e] at z
  exact z
end
end TB

namespace TB
open PySem PySem.Spec PyProof.Rows L2 Evl
def top (i : Nat) : Stmt := PySem.Challenge.pw_tossbook_k11_whole_parted.main.body.getD i (.Pass ⟨0, 0, 0, 0⟩)
abbrev s_Clash___init__ : Stmt := (inClass (top 6) 0)
abbrev s_is_whole : Stmt := (top 10)
abbrev s_within : Stmt := (top 11)
abbrev s_check_row : Stmt := (top 12)
abbrev s_clash_of : Stmt := (top 13)
abbrev s_check_pattern : Stmt := (top 14)
abbrev s_thrown : Stmt := (top 17)
abbrev s_states_of : Stmt := (top 18)
abbrev s_parted : Stmt := (top 19)
abbrev s__law_cell_at : Stmt := (top 21)
abbrev s__law_mixed : Stmt := (top 22)
abbrev s__law_size_by : Stmt := (top 23)
abbrev s__law_spots_by : Stmt := (top 24)
abbrev s__law_plain_by : Stmt := (top 25)
abbrev s__law_near_even : Stmt := (top 26)
abbrev s__law_led : Stmt := (top 27)
abbrev s__law_first_state : Stmt := (top 28)
abbrev s__law_loop_steps : Stmt := (top 29)
abbrev s_law : Stmt := (top 30)
def fn : List He.DefD := [
  ⟨("Clash", some "__init__"), "__init__", "Clash.__init__", defArgs s_Clash___init__, defBody s_Clash___init__, defScope s_Clash___init__, [], []⟩,
  ⟨("is_whole", none), "is_whole", "is_whole", defArgs s_is_whole, defBody s_is_whole, defScope s_is_whole, [], []⟩,
  ⟨("within", none), "within", "within", defArgs s_within, defBody s_within, defScope s_within, [], []⟩,
  ⟨("check_row", none), "check_row", "check_row", defArgs s_check_row, defBody s_check_row, defScope s_check_row, [], []⟩,
  ⟨("clash_of", none), "clash_of", "clash_of", defArgs s_clash_of, defBody s_clash_of, defScope s_clash_of, [], []⟩,
  ⟨("check_pattern", none), "check_pattern", "check_pattern", defArgs s_check_pattern, defBody s_check_pattern, defScope s_check_pattern, [], []⟩,
  ⟨("thrown", none), "thrown", "thrown", defArgs s_thrown, defBody s_thrown, defScope s_thrown, [], []⟩,
  ⟨("states_of", none), "states_of", "states_of", defArgs s_states_of, defBody s_states_of, defScope s_states_of, [], []⟩,
  ⟨("parted", none), "parted", "parted", defArgs s_parted, defBody s_parted, defScope s_parted, [], []⟩,
  ⟨("_law_cell_at", none), "_law_cell_at", "_law_cell_at", defArgs s__law_cell_at, defBody s__law_cell_at, defScope s__law_cell_at, [], []⟩,
  ⟨("_law_mixed", none), "_law_mixed", "_law_mixed", defArgs s__law_mixed, defBody s__law_mixed, defScope s__law_mixed, [], []⟩,
  ⟨("_law_size_by", none), "_law_size_by", "_law_size_by", defArgs s__law_size_by, defBody s__law_size_by, defScope s__law_size_by, [], []⟩,
  ⟨("_law_spots_by", none), "_law_spots_by", "_law_spots_by", defArgs s__law_spots_by, defBody s__law_spots_by, defScope s__law_spots_by, [], []⟩,
  ⟨("_law_plain_by", none), "_law_plain_by", "_law_plain_by", defArgs s__law_plain_by, defBody s__law_plain_by, defScope s__law_plain_by, [], []⟩,
  ⟨("_law_near_even", none), "_law_near_even", "_law_near_even", defArgs s__law_near_even, defBody s__law_near_even, defScope s__law_near_even, [], []⟩,
  ⟨("_law_led", none), "_law_led", "_law_led", defArgs s__law_led, defBody s__law_led, defScope s__law_led, [], []⟩,
  ⟨("_law_first_state", none), "_law_first_state", "_law_first_state", defArgs s__law_first_state, defBody s__law_first_state, defScope s__law_first_state, [], []⟩,
  ⟨("_law_loop_steps", none), "_law_loop_steps", "_law_loop_steps", defArgs s__law_loop_steps, defBody s__law_loop_steps, defScope s__law_loop_steps, [], []⟩,
  ⟨("law", none), "law", "law", defArgs s_law, defBody s_law, defScope s_law, [], []⟩]
def fa : List He.Fa := [.glo "is_whole", .glo "within", .glo "check_row", .glo "clash_of", .glo "check_pattern", .glo "thrown", .glo "states_of", .glo "parted", .glo "_law_cell_at", .glo "_law_mixed", .glo "_law_size_by", .glo "_law_spots_by", .glo "_law_plain_by", .glo "_law_near_even", .glo "_law_led", .glo "_law_first_state", .glo "_law_loop_steps", .glo "law", .glo "TossError", .glo "NotARow", .glo "OutOfBounds", .glo "NotPlain", .glo "NoThrow", .glo "Clash", .free "all", .free "bool", .free "int", .free "isinstance", .free "len", .free "list", .free "max", .free "min", .free "range", .free "sorted", .free "tuple", .free "zip", .int "GREATEST" 1000000, .int "LONGEST" 60, .int "HIGHEST" 60, .exc "TossError", .exc "NotARow", .exc "OutOfBounds", .exc "NotPlain", .exc "NoThrow"]
def exs : List (Str × List (Str × Bool)) := []
def ex (K : PySem.W.Frag) : Bool := clashB K (He.ga K "Clash") && exB K exs
abbrev TXT (K : PySem.W.Frag) (mg : Str → Option Value) : Prop := TX fa fn ex K mg
theorem tx_clash {K : PySem.W.Frag} {mg : Str → Option Value} (T : TXT K mg) : clashB K (He.ga K "Clash") = true := (Bool.and_eq_true_iff.mp T.c.2).1
theorem tx_exs {K : PySem.W.Frag} {mg : Str → Option Value} (T : TXT K mg) : exB K exs = true := (Bool.and_eq_true_iff.mp T.c.2).2
end TB


/-! ### rows: is_whole, within, check_row, Clash -/
namespace TB
open PySem PySem.Spec PyProof.Rows L2 Evl
def inB (v : V) (lo hi : Int) : Bool := match v with
  | .int i => decide (lo ≤ i) && decide (i ≤ hi)
  | _ => false
def sp_is_whole : Sp := fun vs H Q E => ∃ v, vs = [v] ∧ Kd H v ∧ RetV (.bl (isI v)) H Q
def sp_within : Sp := fun vs H Q E => ∃ v lo hi, vs = [v, .int lo, .int hi] ∧ Kd H v ∧ RetV (.bl (inB v lo hi)) H Q
theorem sv_is_whole {H : Hp} {v : V} (hk : Kd H v) : SpV sp_is_whole [v] H (.bl (isI v)) := spv_of fun H1 e Q E k => ⟨v, rfl, hk.mono e, k⟩
theorem sv_within {H : Hp} {v : V} {lo hi : Int} (hk : Kd H v) : SpV sp_within [v, .int lo, .int hi] H (.bl (inB v lo hi)) := spv_of fun H1 e Q E k => ⟨v, lo, hi, rfl, hk.mono e, k⟩
theorem sc_is_whole : FnScope ["number"] ["number"] (defScope s_is_whole) := ⟨rfl, rfl, rfl, by decide +kernel, rfl, by decide +kernel, by decide +kernel⟩
theorem ok_is_whole {P : Program} {w : World} {K : PySem.W.Frag} {mg : Str → Option Value} {base : Heap} (T : TXT K mg) : OK P w K mg base "is_whole" ["number"] 1 (sp_is_whole) := by
  obtain ⟨fd, F⟩ := T.def_ 1
  refine ⟨_, fd, T.glo 0, F.kp, F.bindsN (fun _ _ _ _ _ _ us hl => match us, hl with | [_], _ => rfl), F.ok sc_is_whole (fun vs H Q E h => ?_) (fun cdv A outer s H vs Q E hr h => ?_), F.bindsA (fun _ _ _ _ _ _ us hl => match us, hl with | [_], _ => rfl)⟩
  · first | (obtain ⟨rfl, _⟩ := h; rfl) | (obtain ⟨_, rfl, _⟩ := h; rfl) | (obtain ⟨_, _, rfl, _⟩ := h; rfl) | (obtain ⟨_, _, _, rfl, _⟩ := h; rfl) | (obtain ⟨_, _, _, _, rfl, _⟩ := h; rfl) | (obtain ⟨_, _, _, _, _, rfl, _⟩ := h; rfl) | (obtain ⟨_, _, _, _, _, _, rfl, _⟩ := h; rfl) | (obtain ⟨_, _, _, _, _, _, _, rfl, _⟩ := h; rfl) | (obtain ⟨_, _, _, _, _, _, _, _, rfl, _⟩ := h; rfl)
  · replace F : FunD K "is_whole" "is_whole" (defArgs s_is_whole) (defBody s_is_whole) (defScope s_is_whole) [] [] (He.ga K "is_whole") fd := F
    refine ⟨_, (pss_one (ps_ret (pe_and (pe_callB (id := "isinstance") (k_isi K) (by rfl) (T.free 27) (by decide +kernel) (pa_cons (pv 0) (pa_cons (pe_ty (T := "int") (T.free 26) (by decide +kernel)) pa_nil))) (pe_one (pe_not (pe_callB (id := "isinstance") (k_isi K) (by rfl) (T.free 27) (by decide +kernel) (pa_cons (pv 0) (pa_cons (pe_ty (T := "bool") (T.free 25) (by decide +kernel)) pa_nil)))))))), ?_⟩
    obtain ⟨v, rfl, hk, q⟩ := h
    dsimp only [cxOf, L2.start, List.map_cons, List.map_nil, List.length_cons, List.length_nil, Nat.reduceAdd, Nat.reduceSub, List.replicate_succ, List.replicate_zero, List.cons_append, List.nil_append, Nat.zero_add, List.reduceReplicate, List.map]
    refine s_ret ?_ q
    apply ev_is
    · (repeat' (first | with_reducible exact ev_c | ((with_reducible show Ev (tVar _) _ _ _); exact ev_var rfl) | with_reducible exact ea_nil | with_reducible exact eo_none | with_reducible refine' ea_cons ?_ ?_ | with_reducible refine' eo_some ?_ | with_reducible refine' ev_and2 ?_ ?_ | with_reducible refine' ev_or2 ?_ ?_ | with_reducible refine' ev_notV ?_ | with_reducible exact ru_I | with_reducible refine' ev_un ?_ ?_ | with_reducible exact rv_I0 | with_reducible exact rv_isN | with_reducible exact rv_notN | with_reducible refine' rv_I ?_ | with_reducible refine' rv_eq ?_ | with_reducible refine' rv_ne ?_ | with_reducible refine' ev_op ?_ ?_ ?_ | with_reducible refine' ev_chain2 ?_ ?_ ?_ ?_ ?_ | with_reducible refine' et_B ?_ | with_reducible refine' et_test ?_ | with_reducible refine' et_and2 ?_ ?_ | with_reducible refine' et_or2 ?_ ?_ | with_reducible refine' et_not ?_ | with_reducible refine' ev_call ?_ ?_ | with_reducible refine' ev_callS ?_ ?_ | with_reducible refine' ev_cb ?_ ?_ | with_reducible exact isi_bool (by assumption) | with_reducible exact isi_int (by assumption) | with_reducible exact isi_list (by assumption) | with_reducible exact rc_len (by assumption) | with_reducible exact rc_sum (by assumption) | with_reducible exact rc_abs | with_reducible exact isi_listL (by assumption) | with_reducible exact isi_intI | with_reducible exact isi_boolI | with_reducible exact rc_lenT (by assumption) | with_reducible exact isi_tup (by assumption) | with_reducible exact rv_eqL (by assumption) (by assumption) | with_reducible exact rv_neL (by assumption) (by assumption) | with_reducible exact rv_neT (by assumption) (by assumption) | with_reducible exact rv_ixL (by assumption) (by assumption) | with_reducible exact rv_ixT (by assumption) (by assumption) | with_reducible refine' ev_din ?_ ?_ (by assumption) | with_reducible refine' ev_dnotin ?_ ?_ (by assumption) | with_reducible refine' ev_dget ?_ ?_ (by assumption) (by assumption) | ((with_reducible show SpV _ _ _ _); assumption) | ((with_reducible show RV _ _ _ _ _); assumption) | ((with_reducible show RC _ _ _ _); assumption) | ((with_reducible show CDiv _ _); exact ⟨by omega, by omega⟩) | ((with_reducible show CMul _ _); first | exact .inl ⟨by omega, by omega⟩ | exact .inr ⟨by omega, by omega⟩) | ((with_reducible show CPow _ _); exact ⟨by omega, by omega, by decide⟩) | ((with_reducible show (0 : Int) < _); omega) | ((with_reducible show (0 : Int) ≤ _); omega) | ((with_reducible show scal _ _ = true); rfl)))
    · cases v <;> rfl

theorem sc_within : FnScope ["number", "low", "high"] ["number", "low", "high"] (defScope s_within) := ⟨rfl, rfl, rfl, by decide +kernel, rfl, by decide +kernel, by decide +kernel⟩
theorem ok_within {P : Program} {w : World} {K : PySem.W.Frag} {mg : Str → Option Value} {base : Heap} (T : TXT K mg) : OK P w K mg base "within" ["number", "low", "high"] 2 (sp_within) := by
  have O_is_whole := ok_is_whole (P := P) (w := w) (base := base) T
  obtain ⟨fd, F⟩ := T.def_ 2
  refine ⟨_, fd, T.glo 1, F.kp, F.bindsN (fun _ _ _ _ _ _ us hl => match us, hl with | [_, _, _], _ => rfl), F.ok sc_within (fun vs H Q E h => ?_) (fun cdv A outer s H vs Q E hr h => ?_), F.bindsA (fun _ _ _ _ _ _ us hl => match us, hl with | [_, _, _], _ => rfl)⟩
  · first | (obtain ⟨rfl, _⟩ := h; rfl) | (obtain ⟨_, rfl, _⟩ := h; rfl) | (obtain ⟨_, _, rfl, _⟩ := h; rfl) | (obtain ⟨_, _, _, rfl, _⟩ := h; rfl) | (obtain ⟨_, _, _, _, rfl, _⟩ := h; rfl) | (obtain ⟨_, _, _, _, _, rfl, _⟩ := h; rfl) | (obtain ⟨_, _, _, _, _, _, rfl, _⟩ := h; rfl) | (obtain ⟨_, _, _, _, _, _, _, rfl, _⟩ := h; rfl) | (obtain ⟨_, _, _, _, _, _, _, _, rfl, _⟩ := h; rfl)
  · replace F : FunD K "within" "within" (defArgs s_within) (defBody s_within) (defScope s_within) [] [] (He.ga K "within") fd := F
    refine ⟨_, (pss_one (ps_ret (pe_and (pe_own O_is_whole (hr.mono (by decide)) (by rfl) (passes_call (takes_of rfl rfl rfl rfl) (fun _ _ _ _ h => h)) (pa_cons (pv 0) pa_nil)) (pe_one (pe_chain op_le op_le (pv 1) (pv 0) (pv 2)))))), ?_⟩
    obtain ⟨v, lo, hi, rfl, hk, q⟩ := h
    dsimp only [cxOf, L2.start, List.map_cons, List.map_nil, List.length_cons, List.length_nil, Nat.reduceAdd, Nat.reduceSub, List.replicate_succ, List.replicate_zero, List.cons_append, List.nil_append, Nat.zero_add, List.reduceReplicate, List.map]
    have hw := sv_is_whole hk
    refine s_ret ?_ q
    cases v with
    | int i =>
      refine ev_andV (a := true) (b := decide (lo ≤ i) && decide (i ≤ hi)) ?_ (fun _ => ?_)
      · (repeat' (first | with_reducible exact ev_c | ((with_reducible show Ev (tVar _) _ _ _); exact ev_var rfl) | with_reducible exact ea_nil | with_reducible exact eo_none | with_reducible refine' ea_cons ?_ ?_ | with_reducible refine' eo_some ?_ | with_reducible refine' ev_and2 ?_ ?_ | with_reducible refine' ev_or2 ?_ ?_ | with_reducible refine' ev_notV ?_ | with_reducible exact ru_I | with_reducible refine' ev_un ?_ ?_ | with_reducible exact rv_I0 | with_reducible exact rv_isN | with_reducible exact rv_notN | with_reducible refine' rv_I ?_ | with_reducible refine' rv_eq ?_ | with_reducible refine' rv_ne ?_ | with_reducible refine' ev_op ?_ ?_ ?_ | with_reducible refine' ev_chain2 ?_ ?_ ?_ ?_ ?_ | with_reducible refine' et_B ?_ | with_reducible refine' et_test ?_ | with_reducible refine' et_and2 ?_ ?_ | with_reducible refine' et_or2 ?_ ?_ | with_reducible refine' et_not ?_ | with_reducible refine' ev_call ?_ ?_ | with_reducible refine' ev_callS ?_ ?_ | with_reducible refine' ev_cb ?_ ?_ | with_reducible exact isi_bool (by assumption) | with_reducible exact isi_int (by assumption) | with_reducible exact isi_list (by assumption) | with_reducible exact rc_len (by assumption) | with_reducible exact rc_sum (by assumption) | with_reducible exact rc_abs | with_reducible exact isi_listL (by assumption) | with_reducible exact isi_intI | with_reducible exact isi_boolI | with_reducible exact rc_lenT (by assumption) | with_reducible exact isi_tup (by assumption) | with_reducible exact rv_eqL (by assumption) (by assumption) | with_reducible exact rv_neL (by assumption) (by assumption) | with_reducible exact rv_neT (by assumption) (by assumption) | with_reducible exact rv_ixL (by assumption) (by assumption) | with_reducible exact rv_ixT (by assumption) (by assumption) | with_reducible refine' ev_din ?_ ?_ (by assumption) | with_reducible refine' ev_dnotin ?_ ?_ (by assumption) | with_reducible refine' ev_dget ?_ ?_ (by assumption) (by assumption) | ((with_reducible show SpV _ _ _ _); assumption) | ((with_reducible show RV _ _ _ _ _); assumption) | ((with_reducible show RC _ _ _ _); assumption) | ((with_reducible show CDiv _ _); exact ⟨by omega, by omega⟩) | ((with_reducible show CMul _ _); first | exact .inl ⟨by omega, by omega⟩ | exact .inr ⟨by omega, by omega⟩) | ((with_reducible show CPow _ _); exact ⟨by omega, by omega, by decide⟩) | ((with_reducible show (0 : Int) < _); omega) | ((with_reducible show (0 : Int) ≤ _); omega) | ((with_reducible show scal _ _ = true); rfl)))
      · (repeat' (first | with_reducible exact ev_c | ((with_reducible show Ev (tVar _) _ _ _); exact ev_var rfl) | with_reducible exact ea_nil | with_reducible exact eo_none | with_reducible refine' ea_cons ?_ ?_ | with_reducible refine' eo_some ?_ | with_reducible refine' ev_and2 ?_ ?_ | with_reducible refine' ev_or2 ?_ ?_ | with_reducible refine' ev_notV ?_ | with_reducible exact ru_I | with_reducible refine' ev_un ?_ ?_ | with_reducible exact rv_I0 | with_reducible exact rv_isN | with_reducible exact rv_notN | with_reducible refine' rv_I ?_ | with_reducible refine' rv_eq ?_ | with_reducible refine' rv_ne ?_ | with_reducible refine' ev_op ?_ ?_ ?_ | with_reducible refine' ev_chain2 ?_ ?_ ?_ ?_ ?_ | with_reducible refine' et_B ?_ | with_reducible refine' et_test ?_ | with_reducible refine' et_and2 ?_ ?_ | with_reducible refine' et_or2 ?_ ?_ | with_reducible refine' et_not ?_ | with_reducible refine' ev_call ?_ ?_ | with_reducible refine' ev_callS ?_ ?_ | with_reducible refine' ev_cb ?_ ?_ | with_reducible exact isi_bool (by assumption) | with_reducible exact isi_int (by assumption) | with_reducible exact isi_list (by assumption) | with_reducible exact rc_len (by assumption) | with_reducible exact rc_sum (by assumption) | with_reducible exact rc_abs | with_reducible exact isi_listL (by assumption) | with_reducible exact isi_intI | with_reducible exact isi_boolI | with_reducible exact rc_lenT (by assumption) | with_reducible exact isi_tup (by assumption) | with_reducible exact rv_eqL (by assumption) (by assumption) | with_reducible exact rv_neL (by assumption) (by assumption) | with_reducible exact rv_neT (by assumption) (by assumption) | with_reducible exact rv_ixL (by assumption) (by assumption) | with_reducible exact rv_ixT (by assumption) (by assumption) | with_reducible refine' ev_din ?_ ?_ (by assumption) | with_reducible refine' ev_dnotin ?_ ?_ (by assumption) | with_reducible refine' ev_dget ?_ ?_ (by assumption) (by assumption) | ((with_reducible show SpV _ _ _ _); assumption) | ((with_reducible show RV _ _ _ _ _); assumption) | ((with_reducible show RC _ _ _ _); assumption) | ((with_reducible show CDiv _ _); exact ⟨by omega, by omega⟩) | ((with_reducible show CMul _ _); first | exact .inl ⟨by omega, by omega⟩ | exact .inr ⟨by omega, by omega⟩) | ((with_reducible show CPow _ _); exact ⟨by omega, by omega, by decide⟩) | ((with_reducible show (0 : Int) < _); omega) | ((with_reducible show (0 : Int) ≤ _); omega) | ((with_reducible show scal _ _ = true); rfl)))
    | _ =>
      refine ev_andV (a := false) (b := false) ?_ (fun h => nomatch h)
      (repeat' (first | with_reducible exact ev_c | ((with_reducible show Ev (tVar _) _ _ _); exact ev_var rfl) | with_reducible exact ea_nil | with_reducible exact eo_none | with_reducible refine' ea_cons ?_ ?_ | with_reducible refine' eo_some ?_ | with_reducible refine' ev_and2 ?_ ?_ | with_reducible refine' ev_or2 ?_ ?_ | with_reducible refine' ev_notV ?_ | with_reducible exact ru_I | with_reducible refine' ev_un ?_ ?_ | with_reducible exact rv_I0 | with_reducible exact rv_isN | with_reducible exact rv_notN | with_reducible refine' rv_I ?_ | with_reducible refine' rv_eq ?_ | with_reducible refine' rv_ne ?_ | with_reducible refine' ev_op ?_ ?_ ?_ | with_reducible refine' ev_chain2 ?_ ?_ ?_ ?_ ?_ | with_reducible refine' et_B ?_ | with_reducible refine' et_test ?_ | with_reducible refine' et_and2 ?_ ?_ | with_reducible refine' et_or2 ?_ ?_ | with_reducible refine' et_not ?_ | with_reducible refine' ev_call ?_ ?_ | with_reducible refine' ev_callS ?_ ?_ | with_reducible refine' ev_cb ?_ ?_ | with_reducible exact isi_bool (by assumption) | with_reducible exact isi_int (by assumption) | with_reducible exact isi_list (by assumption) | with_reducible exact rc_len (by assumption) | with_reducible exact rc_sum (by assumption) | with_reducible exact rc_abs | with_reducible exact isi_listL (by assumption) | with_reducible exact isi_intI | with_reducible exact isi_boolI | with_reducible exact rc_lenT (by assumption) | with_reducible exact isi_tup (by assumption) | with_reducible exact rv_eqL (by assumption) (by assumption) | with_reducible exact rv_neL (by assumption) (by assumption) | with_reducible exact rv_neT (by assumption) (by assumption) | with_reducible exact rv_ixL (by assumption) (by assumption) | with_reducible exact rv_ixT (by assumption) (by assumption) | with_reducible refine' ev_din ?_ ?_ (by assumption) | with_reducible refine' ev_dnotin ?_ ?_ (by assumption) | with_reducible refine' ev_dget ?_ ?_ (by assumption) (by assumption) | ((with_reducible show SpV _ _ _ _); assumption) | ((with_reducible show RV _ _ _ _ _); assumption) | ((with_reducible show RC _ _ _ _); assumption) | ((with_reducible show CDiv _ _); exact ⟨by omega, by omega⟩) | ((with_reducible show CMul _ _); first | exact .inl ⟨by omega, by omega⟩ | exact .inr ⟨by omega, by omega⟩) | ((with_reducible show CPow _ _); exact ⟨by omega, by omega, by decide⟩) | ((with_reducible show (0 : Int) < _); omega) | ((with_reducible show (0 : Int) ≤ _); omega) | ((with_reducible show scal _ _ = true); rfl)))

/-- a row as it is handed in: what kind of thing, what it holds -/
structure Row (H : Hp) (v : V) (o : Option (List V)) : Prop where
  ls : Ls H v o
  kd : ∀ xs, o = some xs → ∀ x ∈ xs, Kd H x
theorem Row.mono {H H' : Hp} {v : V} {o : Option (List V)} (e : Ex H H') (h : Row H v o) : Row H' v o := ⟨h.ls.mono e, fun xs q x hx => (h.kd xs q x hx).mono e⟩
def rowOk (o : Option (List V)) : Bool := match o with
  | some xs => decide (1 ≤ xs.length) && decide (xs.length ≤ 60) && xs.all fun x => inB x (-1000000) 1000000
  | none => false
def RowI (ns : List Int) : Prop := 1 ≤ ns.length ∧ ns.length ≤ 60 ∧ ∀ n ∈ ns, -1000000 ≤ n ∧ n ≤ 1000000
theorem ints_of : ∀ {xs : List V} {lo hi : Int}, (xs.all fun x => inB x lo hi) = true → ∃ ns : List Int, xs = ns.map V.int ∧ ∀ n ∈ ns, lo ≤ n ∧ n ≤ hi
  | [], _, _, _ => ⟨[], rfl, fun _ h => nomatch h⟩
  | x :: r, lo, hi, h => by
    simp only [List.all_cons, Bool.and_eq_true] at h
    obtain ⟨h1, h2⟩ := h
    obtain ⟨ns, rfl, hn⟩ := ints_of h2
    cases x with
    | int i =>
      simp only [inB, Bool.and_eq_true, decide_eq_true_eq] at h1
      refine ⟨i :: ns, rfl, fun n hm => ?_⟩
      rcases List.mem_cons.mp hm with rfl | hm
      · exact h1
      · exact hn n hm
    | _ => cases h1
theorem row_ints {o : Option (List V)} (h : rowOk o = true) : ∃ ns : List Int, o = some (ns.map V.int) ∧ RowI ns := by
  cases o with
  | none => cases h
  | some xs =>
    simp only [rowOk, Bool.and_eq_true, decide_eq_true_eq] at h
    obtain ⟨⟨h1, h2⟩, h3⟩ := h
    obtain ⟨ns, rfl, hn⟩ := ints_of h3
    rw [List.length_map] at h1 h2
    exact ⟨ns, rfl, h1, h2, hn⟩
theorem rowOk_of {ns : List Int} (h : RowI ns) : rowOk (some (ns.map V.int)) = true := by
  obtain ⟨h1, h2, h3⟩ := h
  simp only [rowOk, Bool.and_eq_true, decide_eq_true_eq, List.length_map]
  refine ⟨⟨h1, h2⟩, ?_⟩
  rw [List.all_eq_true]
  intro x hx
  obtain ⟨n, hn, rfl⟩ := List.mem_map.mp hx
  simp only [inB, Bool.and_eq_true, decide_eq_true_eq]
  exact h3 n hn
theorem Row.of {H : Hp} {a : Addr} {ns : List Int} (h : H a = some (.lst (ns.map V.int))) : Row H (.ref a) (some (ns.map V.int)) := ⟨.lst h, fun xs q x hx => by
  cases q
  obtain ⟨n, _, rfl⟩ := List.mem_map.mp hx
  exact .int n⟩
def sp_check_number (K : PySem.W.Frag) : Sp := fun vs H Q E => ∃ v, vs = [v] ∧ Kd H v ∧ Give K (if inB v (-1000000) 1000000 then .val .non else .err "OutOfBounds") H Q E
def sp_check_row (K : PySem.W.Frag) : Sp := fun vs H Q E => ∃ v o, vs = [v] ∧ Row H v o ∧ Give K (if rowOk o then .val .non else .err "NotARow") H Q E
theorem sc_check_row : FnScope ["row", "one"] ["row"] (defScope s_check_row) := ⟨rfl, rfl, rfl, by decide +kernel, rfl, by decide +kernel, by decide +kernel⟩
theorem ok_check_row {P : Program} {w : World} {K : PySem.W.Frag} {mg : Str → Option Value} {base : Heap} (T : TXT K mg) : OK P w K mg base "check_row" ["row"] 3 (sp_check_row K) := by
  have O_within := ok_within (P := P) (w := w) (base := base) T
  obtain ⟨fd, F⟩ := T.def_ 3
  refine ⟨_, fd, T.glo 2, F.kp, F.bindsN (fun _ _ _ _ _ _ us hl => match us, hl with | [_], _ => rfl), F.ok sc_check_row (fun vs H Q E h => ?_) (fun cdv A outer s H vs Q E hr h => ?_), F.bindsA (fun _ _ _ _ _ _ us hl => match us, hl with | [_], _ => rfl)⟩
  · first | (obtain ⟨rfl, _⟩ := h; rfl) | (obtain ⟨_, rfl, _⟩ := h; rfl) | (obtain ⟨_, _, rfl, _⟩ := h; rfl) | (obtain ⟨_, _, _, rfl, _⟩ := h; rfl) | (obtain ⟨_, _, _, _, rfl, _⟩ := h; rfl) | (obtain ⟨_, _, _, _, _, rfl, _⟩ := h; rfl) | (obtain ⟨_, _, _, _, _, _, rfl, _⟩ := h; rfl) | (obtain ⟨_, _, _, _, _, _, _, rfl, _⟩ := h; rfl) | (obtain ⟨_, _, _, _, _, _, _, _, rfl, _⟩ := h; rfl)
  · replace F : FunD K "check_row" "check_row" (defArgs s_check_row) (defBody s_check_row) (defScope s_check_row) [] [] (He.ga K "check_row") fd := F
    refine ⟨_, (pss_cons (ps_if (PW.pt (pw_or (pt_not (pt_val (pe_callB (id := "isinstance") (k_isi K) (by rfl) (T.free 27) (by decide +kernel) (pa_cons (pv 0) (pa_cons (pe_ty (T := "list") (T.free 29) (by decide +kernel)) pa_nil))))) (pw_or1 (pt_not (pt_chain op_le op_le pe_int (pe_callB (id := "len") (k_len K) (by rfl) (T.free 28) (by decide +kernel) (pa_cons (pv 0) pa_nil)) (pe_gi (T.int 37)))))))
        (pss_one (ps_raise rfl (takes_of rfl rfl rfl rfl) (pmk_ex (T.fact 40) (T.glo 19))))
        pss_nil)
      (pss_one (ps_if (pt_not (pt_val (pe_callB (id := "all") (k_all K rfl) (by rfl) (T.free 24) (by decide +kernel) (pa_cons (pe_lc (own := [("one", 1)]) (g := gName 1) (tt := tYes) rfl sc_check_row.nd (k_piL K (pv 0)) (blkOk_by (N := ["row", "one"]) (sc := defScope s_check_row) (by decide +kernel)) (fun _ _ _ _ _ => pg_name (i := 1) sc_check_row.nd rfl (Or.inl rfl)) (fun _ _ _ _ _ => pts_nil) (fun _ _ _ _ _ => (pe_own O_within (hr.mono (by decide)) (by rfl) passL (pa_cons (pv 1) (pa_cons (pe_un un_neg (pe_gi (T.int 36))) (pa_cons (pe_gi (T.int 36)) pa_nil)))))) pa_nil))))
        (pss_one (ps_raise rfl (takes_of rfl rfl rfl rfl) (pmk_ex (T.fact 40) (T.glo 19))))
        pss_nil))), ?_⟩
    obtain ⟨v, o, rfl, hk, q⟩ := h
    dsimp only [cxOf, L2.start, List.map_cons, List.map_nil, List.length_cons, List.length_nil, Nat.reduceAdd, Nat.reduceSub, List.replicate_succ, List.replicate_zero, List.cons_append, List.nil_append, Nat.zero_add, List.reduceReplicate, List.map]
    cases o with
    | none =>
      have hl := hk.ls
      refine q_when (b := true) ?_ (fun hb H1 e => q H1 e) (fun hb => nomatch hb)
      refine et_or (a := true) (b := false) ?_ fun h => nomatch h
      apply et_is
      · (repeat' (first | with_reducible exact ev_c | ((with_reducible show Ev (tVar _) _ _ _); exact ev_var rfl) | with_reducible exact ea_nil | with_reducible exact eo_none | with_reducible refine' ea_cons ?_ ?_ | with_reducible refine' eo_some ?_ | with_reducible refine' ev_and2 ?_ ?_ | with_reducible refine' ev_or2 ?_ ?_ | with_reducible refine' ev_notV ?_ | with_reducible exact ru_I | with_reducible refine' ev_un ?_ ?_ | with_reducible exact rv_I0 | with_reducible exact rv_isN | with_reducible exact rv_notN | with_reducible refine' rv_I ?_ | with_reducible refine' rv_eq ?_ | with_reducible refine' rv_ne ?_ | with_reducible refine' ev_op ?_ ?_ ?_ | with_reducible refine' ev_chain2 ?_ ?_ ?_ ?_ ?_ | with_reducible refine' et_B ?_ | with_reducible refine' et_test ?_ | with_reducible refine' et_and2 ?_ ?_ | with_reducible refine' et_or2 ?_ ?_ | with_reducible refine' et_not ?_ | with_reducible refine' ev_call ?_ ?_ | with_reducible refine' ev_callS ?_ ?_ | with_reducible refine' ev_cb ?_ ?_ | with_reducible exact isi_bool (by assumption) | with_reducible exact isi_int (by assumption) | with_reducible exact isi_list (by assumption) | with_reducible exact rc_len (by assumption) | with_reducible exact rc_sum (by assumption) | with_reducible exact rc_abs | with_reducible exact isi_listL (by assumption) | with_reducible exact isi_intI | with_reducible exact isi_boolI | with_reducible exact rc_lenT (by assumption) | with_reducible exact isi_tup (by assumption) | with_reducible exact rv_eqL (by assumption) (by assumption) | with_reducible exact rv_neL (by assumption) (by assumption) | with_reducible exact rv_neT (by assumption) (by assumption) | with_reducible exact rv_ixL (by assumption) (by assumption) | with_reducible exact rv_ixT (by assumption) (by assumption) | with_reducible refine' ev_din ?_ ?_ (by assumption) | with_reducible refine' ev_dnotin ?_ ?_ (by assumption) | with_reducible refine' ev_dget ?_ ?_ (by assumption) (by assumption) | ((with_reducible show SpV _ _ _ _); assumption) | ((with_reducible show RV _ _ _ _ _); assumption) | ((with_reducible show RC _ _ _ _); assumption) | ((with_reducible show CDiv _ _); exact ⟨by omega, by omega⟩) | ((with_reducible show CMul _ _); first | exact .inl ⟨by omega, by omega⟩ | exact .inr ⟨by omega, by omega⟩) | ((with_reducible show CPow _ _); exact ⟨by omega, by omega, by decide⟩) | ((with_reducible show (0 : Int) < _); omega) | ((with_reducible show (0 : Int) ≤ _); omega) | ((with_reducible show scal _ _ = true); rfl)))
      · rfl
    | some xs =>
      have hl := hk.ls
      obtain ⟨a, rfl, ha⟩ : ∃ a, v = .ref a ∧ H a = some (.lst xs) := by
        cases hl with
        | lst h => exact ⟨_, rfl, h⟩
      have hs : SqL K H a xs := sq_of ha
      refine q_when (b := !(decide (1 ≤ xs.length) && decide (xs.length ≤ 60))) ?_ (fun hb H1 e => ?_) (fun hb H1 e => ?_)
      · apply et_is
        · (repeat' (first | with_reducible exact ev_c | ((with_reducible show Ev (tVar _) _ _ _); exact ev_var rfl) | with_reducible exact ea_nil | with_reducible exact eo_none | with_reducible refine' ea_cons ?_ ?_ | with_reducible refine' eo_some ?_ | with_reducible refine' ev_and2 ?_ ?_ | with_reducible refine' ev_or2 ?_ ?_ | with_reducible refine' ev_notV ?_ | with_reducible exact ru_I | with_reducible refine' ev_un ?_ ?_ | with_reducible exact rv_I0 | with_reducible exact rv_isN | with_reducible exact rv_notN | with_reducible refine' rv_I ?_ | with_reducible refine' rv_eq ?_ | with_reducible refine' rv_ne ?_ | with_reducible refine' ev_op ?_ ?_ ?_ | with_reducible refine' ev_chain2 ?_ ?_ ?_ ?_ ?_ | with_reducible refine' et_B ?_ | with_reducible refine' et_test ?_ | with_reducible refine' et_and2 ?_ ?_ | with_reducible refine' et_or2 ?_ ?_ | with_reducible refine' et_not ?_ | with_reducible refine' ev_call ?_ ?_ | with_reducible refine' ev_callS ?_ ?_ | with_reducible refine' ev_cb ?_ ?_ | with_reducible exact isi_bool (by assumption) | with_reducible exact isi_int (by assumption) | with_reducible exact isi_list (by assumption) | with_reducible exact rc_len (by assumption) | with_reducible exact rc_sum (by assumption) | with_reducible exact rc_abs | with_reducible exact isi_listL (by assumption) | with_reducible exact isi_intI | with_reducible exact isi_boolI | with_reducible exact rc_lenT (by assumption) | with_reducible exact isi_tup (by assumption) | with_reducible exact rv_eqL (by assumption) (by assumption) | with_reducible exact rv_neL (by assumption) (by assumption) | with_reducible exact rv_neT (by assumption) (by assumption) | with_reducible exact rv_ixL (by assumption) (by assumption) | with_reducible exact rv_ixT (by assumption) (by assumption) | with_reducible refine' ev_din ?_ ?_ (by assumption) | with_reducible refine' ev_dnotin ?_ ?_ (by assumption) | with_reducible refine' ev_dget ?_ ?_ (by assumption) (by assumption) | ((with_reducible show SpV _ _ _ _); assumption) | ((with_reducible show RV _ _ _ _ _); assumption) | ((with_reducible show RC _ _ _ _); assumption) | ((with_reducible show CDiv _ _); exact ⟨by omega, by omega⟩) | ((with_reducible show CMul _ _); first | exact .inl ⟨by omega, by omega⟩ | exact .inr ⟨by omega, by omega⟩) | ((with_reducible show CPow _ _); exact ⟨by omega, by omega, by decide⟩) | ((with_reducible show (0 : Int) < _); omega) | ((with_reducible show (0 : Int) ≤ _); omega) | ((with_reducible show scal _ _ = true); rfl)))
        · show (!true || !(decide ((1 : Int) ≤ (xs.length : Int)) && decide ((xs.length : Int) ≤ 60))) = _
          rw [decide_eq_decide.mpr (show (1 : Int) ≤ (xs.length : Int) ↔ 1 ≤ xs.length by omega), decide_eq_decide.mpr (show (xs.length : Int) ≤ 60 ↔ xs.length ≤ 60 by omega)]
          rfl
      · have h0 : rowOk (some xs) = false := by
          simp only [rowOk]
          rw [Bool.not_eq_true'] at hb
          rw [hb]
          rfl
        rw [h0] at q
        exact q H1 e
      · rw [Bool.not_eq_false'] at hb
        have hlen : xs.length ≤ 60 := by
          simp at hb
          omega
        have h0 : rowOk (some xs) = xs.all fun x => inB x (-1000000) 1000000 := by
          simp only [rowOk, hb, Bool.true_and]
        rw [h0] at q
        have em : EvL (tLc (iList K (tVar 0)) (gName 1) tYes (tCall sp_within [] E0 (tCons (tVar 1) (tCons (tUn (rU fun i => .int (-i)) (tC (.int 1000000))) (tCons (tC (.int 1000000)) tNil)))) [1]) [some (V.ref a), none] H1 ((xs.map fun x => inB x (-1000000) 1000000).map V.bl) := by
          rw [List.map_map]
          refine el_map _ (by (repeat' (first | with_reducible exact ev_c | ((with_reducible show Ev (tVar _) _ _ _); exact ev_var rfl) | with_reducible exact ea_nil | with_reducible exact eo_none | with_reducible refine' ea_cons ?_ ?_ | with_reducible refine' eo_some ?_ | with_reducible refine' ev_and2 ?_ ?_ | with_reducible refine' ev_or2 ?_ ?_ | with_reducible refine' ev_notV ?_ | with_reducible exact ru_I | with_reducible refine' ev_un ?_ ?_ | with_reducible exact rv_I0 | with_reducible exact rv_isN | with_reducible exact rv_notN | with_reducible refine' rv_I ?_ | with_reducible refine' rv_eq ?_ | with_reducible refine' rv_ne ?_ | with_reducible refine' ev_op ?_ ?_ ?_ | with_reducible refine' ev_chain2 ?_ ?_ ?_ ?_ ?_ | with_reducible refine' et_B ?_ | with_reducible refine' et_test ?_ | with_reducible refine' et_and2 ?_ ?_ | with_reducible refine' et_or2 ?_ ?_ | with_reducible refine' et_not ?_ | with_reducible refine' ev_call ?_ ?_ | with_reducible refine' ev_callS ?_ ?_ | with_reducible refine' ev_cb ?_ ?_ | with_reducible exact isi_bool (by assumption) | with_reducible exact isi_int (by assumption) | with_reducible exact isi_list (by assumption) | with_reducible exact rc_len (by assumption) | with_reducible exact rc_sum (by assumption) | with_reducible exact rc_abs | with_reducible exact isi_listL (by assumption) | with_reducible exact isi_intI | with_reducible exact isi_boolI | with_reducible exact rc_lenT (by assumption) | with_reducible exact isi_tup (by assumption) | with_reducible exact rv_eqL (by assumption) (by assumption) | with_reducible exact rv_neL (by assumption) (by assumption) | with_reducible exact rv_neT (by assumption) (by assumption) | with_reducible exact rv_ixL (by assumption) (by assumption) | with_reducible exact rv_ixT (by assumption) (by assumption) | with_reducible refine' ev_din ?_ ?_ (by assumption) | with_reducible refine' ev_dnotin ?_ ?_ (by assumption) | with_reducible refine' ev_dget ?_ ?_ (by assumption) (by assumption) | ((with_reducible show SpV _ _ _ _); assumption) | ((with_reducible show RV _ _ _ _ _); assumption) | ((with_reducible show RC _ _ _ _); assumption) | ((with_reducible show CDiv _ _); exact ⟨by omega, by omega⟩) | ((with_reducible show CMul _ _); first | exact .inl ⟨by omega, by omega⟩ | exact .inr ⟨by omega, by omega⟩) | ((with_reducible show CPow _ _); exact ⟨by omega, by omega, by decide⟩) | ((with_reducible show (0 : Int) < _); omega) | ((with_reducible show (0 : Int) ≤ _); omega) | ((with_reducible show scal _ _ = true); rfl)))) (ex_l e hs) (by omega) (fun _ => rfl) (fun x H2 e2 hx => ?_)
          have hw := sv_within (lo := -1000000) (hi := 1000000) ((hk.kd xs rfl x hx).mono (e.trans e2))
          (repeat' (first | with_reducible exact ev_c | ((with_reducible show Ev (tVar _) _ _ _); exact ev_var rfl) | with_reducible exact ea_nil | with_reducible exact eo_none | with_reducible refine' ea_cons ?_ ?_ | with_reducible refine' eo_some ?_ | with_reducible refine' ev_and2 ?_ ?_ | with_reducible refine' ev_or2 ?_ ?_ | with_reducible refine' ev_notV ?_ | with_reducible exact ru_I | with_reducible refine' ev_un ?_ ?_ | with_reducible exact rv_I0 | with_reducible exact rv_isN | with_reducible exact rv_notN | with_reducible refine' rv_I ?_ | with_reducible refine' rv_eq ?_ | with_reducible refine' rv_ne ?_ | with_reducible refine' ev_op ?_ ?_ ?_ | with_reducible refine' ev_chain2 ?_ ?_ ?_ ?_ ?_ | with_reducible refine' et_B ?_ | with_reducible refine' et_test ?_ | with_reducible refine' et_and2 ?_ ?_ | with_reducible refine' et_or2 ?_ ?_ | with_reducible refine' et_not ?_ | with_reducible refine' ev_call ?_ ?_ | with_reducible refine' ev_callS ?_ ?_ | with_reducible refine' ev_cb ?_ ?_ | with_reducible exact isi_bool (by assumption) | with_reducible exact isi_int (by assumption) | with_reducible exact isi_list (by assumption) | with_reducible exact rc_len (by assumption) | with_reducible exact rc_sum (by assumption) | with_reducible exact rc_abs | with_reducible exact isi_listL (by assumption) | with_reducible exact isi_intI | with_reducible exact isi_boolI | with_reducible exact rc_lenT (by assumption) | with_reducible exact isi_tup (by assumption) | with_reducible exact rv_eqL (by assumption) (by assumption) | with_reducible exact rv_neL (by assumption) (by assumption) | with_reducible exact rv_neT (by assumption) (by assumption) | with_reducible exact rv_ixL (by assumption) (by assumption) | with_reducible exact rv_ixT (by assumption) (by assumption) | with_reducible refine' ev_din ?_ ?_ (by assumption) | with_reducible refine' ev_dnotin ?_ ?_ (by assumption) | with_reducible refine' ev_dget ?_ ?_ (by assumption) (by assumption) | ((with_reducible show SpV _ _ _ _); assumption) | ((with_reducible show RV _ _ _ _ _); assumption) | ((with_reducible show RC _ _ _ _); assumption) | ((with_reducible show CDiv _ _); exact ⟨by omega, by omega⟩) | ((with_reducible show CMul _ _); first | exact .inl ⟨by omega, by omega⟩ | exact .inr ⟨by omega, by omega⟩) | ((with_reducible show CPow _ _); exact ⟨by omega, by omega, by decide⟩) | ((with_reducible show (0 : Int) < _); omega) | ((with_reducible show (0 : Int) ≤ _); omega) | ((with_reducible show scal _ _ = true); rfl)))
        refine s_when (b := !(xs.all fun x => inB x (-1000000) 1000000)) ?_ (fun hb H2 e2 => ?_) (fun hb H2 e2 => ?_)
        · refine et_not (et_B ?_)
          have z := ev_all (K := K) em
          have z2 : ((xs.map fun x => inB x (-1000000) 1000000).all id) = xs.all fun x => inB x (-1000000) 1000000 := by
            rw [List.all_map]
            rfl
          rw [z2] at z
          exact z
        · rw [Bool.not_eq_true'] at hb
          rw [hb] at q
          exact q H2 (e.trans e2)
        · rw [Bool.not_eq_false'] at hb
          rw [hb] at q
          exact q H2 (e.trans e2)


/-! the first two beats that land together -/
def land (ns : List Int) (j : Nat) : Int := ((j : Int) + ns.getD j 0) % (ns.length : Int)
def seenAt (ns : List Int) (j : Nat) : Option Nat := (List.range j).find? fun i => decide (land ns i = land ns j)
def clashOf (ns : List Int) : Option (Nat × Nat) := (List.range ns.length).findSome? fun j => (seenAt ns j).map fun i => (i, j)
def kvAt (ns : List Int) (j : Nat) : List (Key × V) := (List.range j).map fun i => (Sum.inl (land ns i), V.int (i : Int))
theorem kvAt_val (ns : List Int) (j k : Nat) : valV (kvAt ns j) (Sum.inl (land ns k) : Key) = ((List.range j).find? fun i => decide (land ns i = land ns k)).map fun i => V.int (i : Int) := by
  unfold valV kvAt
  rw [List.find?_map]
  have e : ((fun kv : Key × V => decide (kv.1 = Sum.inl (land ns k))) ∘ fun i => ((Sum.inl (land ns i) : Key), V.int (i : Int))) = fun i => decide (land ns i = land ns k) := by
    funext i
    show decide ((Sum.inl (land ns i) : Key) = Sum.inl (land ns k)) = _
    rw [decide_eq_decide]
    exact ⟨fun z => Sum.inl.inj z, fun z => by rw [z]⟩
  rw [e]
  cases (List.range j).find? fun i => decide (land ns i = land ns k) <;> rfl
theorem kvAt_len (ns : List Int) (j : Nat) : (kvAt ns j).length = j := by simp [kvAt]
theorem kvAt_put {ns : List Int} {j : Nat} (h : seenAt ns j = none) : putK (kvAt ns j) (Sum.inl (land ns j) : Key) (V.int (j : Int)) = kvAt ns (j + 1) := by
  rw [putK_new]
  · unfold kvAt
    rw [List.range_succ, List.map_append]
    rfl
  · rw [kvAt_val]
    unfold seenAt at h
    rw [h]
    rfl
theorem findSome_at {α : Type} {f : Nat → Option α} {n j : Nat} {x : α} (hj : j < n) (h : ∀ i, i < j → f i = none) (hx : f j = some x) : (List.range n).findSome? f = some x := by
  induction n with
  | zero => omega
  | succ n ih =>
    rw [List.range_succ, List.findSome?_append]
    by_cases e : j < n
    · rw [ih e]
      rfl
    · have e2 : j = n := by omega
      subst e2
      have h0 : (List.range j).findSome? f = none := by
        rw [List.findSome?_eq_none_iff]
        intro i hi
        exact h i (List.mem_range.mp hi)
      rw [h0]
      simp [hx]
theorem findSome_none {α : Type} {f : Nat → Option α} {n : Nat} (h : ∀ i, i < n → f i = none) : (List.range n).findSome? f = none := by
  rw [List.findSome?_eq_none_iff]
  intro i hi
  exact h i (List.mem_range.mp hi)
def clashRe (ns : List Int) : Re := match clashOf ns with
  | some (i, j) => .tup [.int (i : Int), .int (j : Int)]
  | none => .val .non
def rowsOf (o : Option (List V)) : List Int := (o.getD []).map fun v => match v with
  | .int i => i
  | _ => 0
theorem rowsOf_some (ns : List Int) : rowsOf (some (ns.map V.int)) = ns := by
  simp only [rowsOf, Option.getD, List.map_map]
  have e : ((fun v : V => match v with | .int i => i | _ => 0) ∘ V.int) = id := by
    funext i
    rfl
  rw [e, List.map_id]
def sp_clash_of (K : PySem.W.Frag) : Sp := fun vs H Q E => ∃ v o, vs = [v] ∧ Row H v o ∧ Give K (if rowOk o then clashRe (rowsOf o) else .err "NotARow") H Q E
theorem sv_check_row {K : PySem.W.Frag} {H : Hp} {v : V} {o : Option (List V)} (hk : Row H v o) (h : rowOk o = true) : SpV (sp_check_row K) [v] H .non := spv_of fun H1 e Q E k => ⟨v, o, rfl, hk.mono e, by
  rw [h]
  exact k⟩
theorem sx_check_row {K : PySem.W.Frag} {H : Hp} {v : V} {o : Option (List V)} {E : XK} (hk : Row H v o) (h : rowOk o = false) (he : ∀ H2, Ex H H2 → E (.ref (He.ga K "NotARow")) none H2) : ∀ H1, Ex H H1 → ∀ Q : VK, sp_check_row K [v] H1 Q E := fun H1 e Q => ⟨v, o, rfl, hk.mono e, by
  rw [h]
  exact fun H2 e2 => he H2 (e.trans e2)⟩
theorem sc_clash_of : FnScope ["row", "size", "came", "j", "spot"] ["row"] (defScope s_clash_of) := ⟨rfl, rfl, rfl, by decide +kernel, rfl, by decide +kernel, by decide +kernel⟩
theorem ok_clash_of {P : Program} {w : World} {K : PySem.W.Frag} {mg : Str → Option Value} {base : Heap} (T : TXT K mg) : OK P w K mg base "clash_of" ["row"] 4 (sp_clash_of K) := by
  have O_check_row := ok_check_row (P := P) (w := w) (base := base) T
  obtain ⟨fd, F⟩ := T.def_ 4
  refine ⟨_, fd, T.glo 3, F.kp, F.bindsN (fun _ _ _ _ _ _ us hl => match us, hl with | [_], _ => rfl), F.ok sc_clash_of (fun vs H Q E h => ?_) (fun cdv A outer s H vs Q E hr h => ?_), F.bindsA (fun _ _ _ _ _ _ us hl => match us, hl with | [_], _ => rfl)⟩
  · first | (obtain ⟨rfl, _⟩ := h; rfl) | (obtain ⟨_, rfl, _⟩ := h; rfl) | (obtain ⟨_, _, rfl, _⟩ := h; rfl) | (obtain ⟨_, _, _, rfl, _⟩ := h; rfl) | (obtain ⟨_, _, _, _, rfl, _⟩ := h; rfl) | (obtain ⟨_, _, _, _, _, rfl, _⟩ := h; rfl) | (obtain ⟨_, _, _, _, _, _, rfl, _⟩ := h; rfl) | (obtain ⟨_, _, _, _, _, _, _, rfl, _⟩ := h; rfl) | (obtain ⟨_, _, _, _, _, _, _, _, rfl, _⟩ := h; rfl)
  · replace F : FunD K "clash_of" "clash_of" (defArgs s_clash_of) (defBody s_clash_of) (defScope s_clash_of) [] [] (He.ga K "clash_of") fd := F
    refine ⟨_, (pss_cons (ps_expr (pe_own O_check_row (hr.mono (by decide)) (by rfl) (passes_call (takes_of rfl rfl rfl rfl) (fun _ _ _ _ h => h)) (pa_cons (pv 0) pa_nil)))
      (pss_cons (ps_set (i := 1) sc_clash_of.nd rfl (Or.inl rfl) (pe_callB (id := "len") (k_len K) (by rfl) (T.free 28) (by decide +kernel) (pa_cons (pv 0) pa_nil)))
      (pss_cons (ps_set (i := 2) sc_clash_of.nd rfl (Or.inl rfl) pe_dnewK)
      (pss_cons (ps_for (passes_of rfl) rfl (pi_range1 (by rfl) (T.free 32) (pa_cons (pv 1) pa_nil)) (pg_name (i := 3) sc_clash_of.nd rfl (Or.inl rfl))
        (pss_cons (ps_set (i := 4) sc_clash_of.nd rfl (Or.inl rfl) (pe_op op_mod (pe_op op_add (pv 3) (pe_ix (k_ixL K) (pv 0) (pv 3) (fun _ _ => rfl))) (pv 1)))
      (pss_cons (ps_if (pt_cmp (pc_din (hu_of hr) (pv 4) (pv 2)))
        (pss_one (ps_ret (pe_tup (pa_cons (pe_dget (hu_of hr) (pv 2) (pv 4) (fun _ _ => rfl)) (pa_cons (pv 3) pa_nil)))))
        pss_nil)
      (pss_one (ps_dput (hu_of hr) (pv 2) (pv 4) (pv 3) rfl)))))
      (pss_one (ps_ret pe_non)))))), ?_⟩
    obtain ⟨v, o, rfl, hk, q⟩ := h
    dsimp only [cxOf, L2.start, List.map_cons, List.map_nil, List.length_cons, List.length_nil, Nat.reduceAdd, Nat.reduceSub, List.replicate_succ, List.replicate_zero, List.cons_append, List.nil_append, Nat.zero_add, List.reduceReplicate, List.map]
    by_cases ho : rowOk o = true
    case neg =>
      have ho : rowOk o = false := by simpa using ho
      rw [ho] at q
      exact xq_drop (rz_call (by (repeat' (first | with_reducible exact ev_c | ((with_reducible show Ev (tVar _) _ _ _); exact ev_var rfl) | with_reducible exact ea_nil | with_reducible exact eo_none | with_reducible refine' ea_cons ?_ ?_ | with_reducible refine' eo_some ?_ | with_reducible refine' ev_and2 ?_ ?_ | with_reducible refine' ev_or2 ?_ ?_ | with_reducible refine' ev_notV ?_ | with_reducible exact ru_I | with_reducible refine' ev_un ?_ ?_ | with_reducible exact rv_I0 | with_reducible exact rv_isN | with_reducible exact rv_notN | with_reducible refine' rv_I ?_ | with_reducible refine' rv_eq ?_ | with_reducible refine' rv_ne ?_ | with_reducible refine' ev_op ?_ ?_ ?_ | with_reducible refine' ev_chain2 ?_ ?_ ?_ ?_ ?_ | with_reducible refine' et_B ?_ | with_reducible refine' et_test ?_ | with_reducible refine' et_and2 ?_ ?_ | with_reducible refine' et_or2 ?_ ?_ | with_reducible refine' et_not ?_ | with_reducible refine' ev_call ?_ ?_ | with_reducible refine' ev_callS ?_ ?_ | with_reducible refine' ev_cb ?_ ?_ | with_reducible exact isi_bool (by assumption) | with_reducible exact isi_int (by assumption) | with_reducible exact isi_list (by assumption) | with_reducible exact rc_len (by assumption) | with_reducible exact rc_sum (by assumption) | with_reducible exact rc_abs | with_reducible exact isi_listL (by assumption) | with_reducible exact isi_intI | with_reducible exact isi_boolI | with_reducible exact rc_lenT (by assumption) | with_reducible exact isi_tup (by assumption) | with_reducible exact rv_eqL (by assumption) (by assumption) | with_reducible exact rv_neL (by assumption) (by assumption) | with_reducible exact rv_neT (by assumption) (by assumption) | with_reducible exact rv_ixL (by assumption) (by assumption) | with_reducible exact rv_ixT (by assumption) (by assumption) | with_reducible refine' ev_din ?_ ?_ (by assumption) | with_reducible refine' ev_dnotin ?_ ?_ (by assumption) | with_reducible refine' ev_dget ?_ ?_ (by assumption) (by assumption) | ((with_reducible show SpV _ _ _ _); assumption) | ((with_reducible show RV _ _ _ _ _); assumption) | ((with_reducible show RC _ _ _ _); assumption) | ((with_reducible show CDiv _ _); exact ⟨by omega, by omega⟩) | ((with_reducible show CMul _ _); first | exact .inl ⟨by omega, by omega⟩ | exact .inr ⟨by omega, by omega⟩) | ((with_reducible show CPow _ _); exact ⟨by omega, by omega, by decide⟩) | ((with_reducible show (0 : Int) < _); omega) | ((with_reducible show (0 : Int) ≤ _); omega) | ((with_reducible show scal _ _ = true); rfl)))) (sx_check_row hk ho q))
    rw [ho] at q
    have hcr := sv_check_row (K := K) hk ho
    obtain ⟨ns, rfl, hn⟩ := row_ints ho
    obtain ⟨h1, h2, h3⟩ := hn
    rw [rowsOf_some] at q
    obtain ⟨a, rfl, ha⟩ : ∃ a, v = .ref a ∧ H a = some (.lst (ns.map V.int)) := by
      have hl := hk.ls
      cases hl with
      | lst h => exact ⟨_, rfl, h⟩
    have hs : SqL K H a (ns.map V.int) := sq_of ha
    refine q_drop (v := .non) (by (repeat' (first | with_reducible exact ev_c | ((with_reducible show Ev (tVar _) _ _ _); exact ev_var rfl) | with_reducible exact ea_nil | with_reducible exact eo_none | with_reducible refine' ea_cons ?_ ?_ | with_reducible refine' eo_some ?_ | with_reducible refine' ev_and2 ?_ ?_ | with_reducible refine' ev_or2 ?_ ?_ | with_reducible refine' ev_notV ?_ | with_reducible exact ru_I | with_reducible refine' ev_un ?_ ?_ | with_reducible exact rv_I0 | with_reducible exact rv_isN | with_reducible exact rv_notN | with_reducible refine' rv_I ?_ | with_reducible refine' rv_eq ?_ | with_reducible refine' rv_ne ?_ | with_reducible refine' ev_op ?_ ?_ ?_ | with_reducible refine' ev_chain2 ?_ ?_ ?_ ?_ ?_ | with_reducible refine' et_B ?_ | with_reducible refine' et_test ?_ | with_reducible refine' et_and2 ?_ ?_ | with_reducible refine' et_or2 ?_ ?_ | with_reducible refine' et_not ?_ | with_reducible refine' ev_call ?_ ?_ | with_reducible refine' ev_callS ?_ ?_ | with_reducible refine' ev_cb ?_ ?_ | with_reducible exact isi_bool (by assumption) | with_reducible exact isi_int (by assumption) | with_reducible exact isi_list (by assumption) | with_reducible exact rc_len (by assumption) | with_reducible exact rc_sum (by assumption) | with_reducible exact rc_abs | with_reducible exact isi_listL (by assumption) | with_reducible exact isi_intI | with_reducible exact isi_boolI | with_reducible exact rc_lenT (by assumption) | with_reducible exact isi_tup (by assumption) | with_reducible exact rv_eqL (by assumption) (by assumption) | with_reducible exact rv_neL (by assumption) (by assumption) | with_reducible exact rv_neT (by assumption) (by assumption) | with_reducible exact rv_ixL (by assumption) (by assumption) | with_reducible exact rv_ixT (by assumption) (by assumption) | with_reducible refine' ev_din ?_ ?_ (by assumption) | with_reducible refine' ev_dnotin ?_ ?_ (by assumption) | with_reducible refine' ev_dget ?_ ?_ (by assumption) (by assumption) | ((with_reducible show SpV _ _ _ _); assumption) | ((with_reducible show RV _ _ _ _ _); assumption) | ((with_reducible show RC _ _ _ _); assumption) | ((with_reducible show CDiv _ _); exact ⟨by omega, by omega⟩) | ((with_reducible show CMul _ _); first | exact .inl ⟨by omega, by omega⟩ | exact .inr ⟨by omega, by omega⟩) | ((with_reducible show CPow _ _); exact ⟨by omega, by omega, by decide⟩) | ((with_reducible show (0 : Int) < _); omega) | ((with_reducible show (0 : Int) ≤ _); omega) | ((with_reducible show scal _ _ = true); rfl)))) fun H1 e1 => ?_
    have hs1 : SqL K H1 a (ns.map V.int) := ex_l e1 hs
    refine q_asg (v := .int (ns.length : Int)) ?_ fun H2 e2 => ?_
    · apply ev_is
      · (repeat' (first | with_reducible exact ev_c | ((with_reducible show Ev (tVar _) _ _ _); exact ev_var rfl) | with_reducible exact ea_nil | with_reducible exact eo_none | with_reducible refine' ea_cons ?_ ?_ | with_reducible refine' eo_some ?_ | with_reducible refine' ev_and2 ?_ ?_ | with_reducible refine' ev_or2 ?_ ?_ | with_reducible refine' ev_notV ?_ | with_reducible exact ru_I | with_reducible refine' ev_un ?_ ?_ | with_reducible exact rv_I0 | with_reducible exact rv_isN | with_reducible exact rv_notN | with_reducible refine' rv_I ?_ | with_reducible refine' rv_eq ?_ | with_reducible refine' rv_ne ?_ | with_reducible refine' ev_op ?_ ?_ ?_ | with_reducible refine' ev_chain2 ?_ ?_ ?_ ?_ ?_ | with_reducible refine' et_B ?_ | with_reducible refine' et_test ?_ | with_reducible refine' et_and2 ?_ ?_ | with_reducible refine' et_or2 ?_ ?_ | with_reducible refine' et_not ?_ | with_reducible refine' ev_call ?_ ?_ | with_reducible refine' ev_callS ?_ ?_ | with_reducible refine' ev_cb ?_ ?_ | with_reducible exact isi_bool (by assumption) | with_reducible exact isi_int (by assumption) | with_reducible exact isi_list (by assumption) | with_reducible exact rc_len (by assumption) | with_reducible exact rc_sum (by assumption) | with_reducible exact rc_abs | with_reducible exact isi_listL (by assumption) | with_reducible exact isi_intI | with_reducible exact isi_boolI | with_reducible exact rc_lenT (by assumption) | with_reducible exact isi_tup (by assumption) | with_reducible exact rv_eqL (by assumption) (by assumption) | with_reducible exact rv_neL (by assumption) (by assumption) | with_reducible exact rv_neT (by assumption) (by assumption) | with_reducible exact rv_ixL (by assumption) (by assumption) | with_reducible exact rv_ixT (by assumption) (by assumption) | with_reducible refine' ev_din ?_ ?_ (by assumption) | with_reducible refine' ev_dnotin ?_ ?_ (by assumption) | with_reducible refine' ev_dget ?_ ?_ (by assumption) (by assumption) | ((with_reducible show SpV _ _ _ _); assumption) | ((with_reducible show RV _ _ _ _ _); assumption) | ((with_reducible show RC _ _ _ _); assumption) | ((with_reducible show CDiv _ _); exact ⟨by omega, by omega⟩) | ((with_reducible show CMul _ _); first | exact .inl ⟨by omega, by omega⟩ | exact .inr ⟨by omega, by omega⟩) | ((with_reducible show CPow _ _); exact ⟨by omega, by omega, by decide⟩) | ((with_reducible show (0 : Int) < _); omega) | ((with_reducible show (0 : Int) ≤ _); omega) | ((with_reducible show scal _ _ = true); rfl)))
      · rw [List.length_map]
    refine q_dnew fun d hd => ?_
    have e20 : Ex H H2 := e1.trans e2
    refine q_forR1 (n := (ns.length : Int)) (by (repeat' (first | with_reducible exact ev_c | ((with_reducible show Ev (tVar _) _ _ _); exact ev_var rfl) | with_reducible exact ea_nil | with_reducible exact eo_none | with_reducible refine' ea_cons ?_ ?_ | with_reducible refine' eo_some ?_ | with_reducible refine' ev_and2 ?_ ?_ | with_reducible refine' ev_or2 ?_ ?_ | with_reducible refine' ev_notV ?_ | with_reducible exact ru_I | with_reducible refine' ev_un ?_ ?_ | with_reducible exact rv_I0 | with_reducible exact rv_isN | with_reducible exact rv_notN | with_reducible refine' rv_I ?_ | with_reducible refine' rv_eq ?_ | with_reducible refine' rv_ne ?_ | with_reducible refine' ev_op ?_ ?_ ?_ | with_reducible refine' ev_chain2 ?_ ?_ ?_ ?_ ?_ | with_reducible refine' et_B ?_ | with_reducible refine' et_test ?_ | with_reducible refine' et_and2 ?_ ?_ | with_reducible refine' et_or2 ?_ ?_ | with_reducible refine' et_not ?_ | with_reducible refine' ev_call ?_ ?_ | with_reducible refine' ev_callS ?_ ?_ | with_reducible refine' ev_cb ?_ ?_ | with_reducible exact isi_bool (by assumption) | with_reducible exact isi_int (by assumption) | with_reducible exact isi_list (by assumption) | with_reducible exact rc_len (by assumption) | with_reducible exact rc_sum (by assumption) | with_reducible exact rc_abs | with_reducible exact isi_listL (by assumption) | with_reducible exact isi_intI | with_reducible exact isi_boolI | with_reducible exact rc_lenT (by assumption) | with_reducible exact isi_tup (by assumption) | with_reducible exact rv_eqL (by assumption) (by assumption) | with_reducible exact rv_neL (by assumption) (by assumption) | with_reducible exact rv_neT (by assumption) (by assumption) | with_reducible exact rv_ixL (by assumption) (by assumption) | with_reducible exact rv_ixT (by assumption) (by assumption) | with_reducible refine' ev_din ?_ ?_ (by assumption) | with_reducible refine' ev_dnotin ?_ ?_ (by assumption) | with_reducible refine' ev_dget ?_ ?_ (by assumption) (by assumption) | ((with_reducible show SpV _ _ _ _); assumption) | ((with_reducible show RV _ _ _ _ _); assumption) | ((with_reducible show RC _ _ _ _); assumption) | ((with_reducible show CDiv _ _); exact ⟨by omega, by omega⟩) | ((with_reducible show CMul _ _); first | exact .inl ⟨by omega, by omega⟩ | exact .inr ⟨by omega, by omega⟩) | ((with_reducible show CPow _ _); exact ⟨by omega, by omega, by decide⟩) | ((with_reducible show (0 : Int) < _); omega) | ((with_reducible show (0 : Int) ≤ _); omega) | ((with_reducible show scal _ _ = true); rfl)))) (by omega) (fun i σ' H' => ∃ y4 y5, σ' = [some (V.ref a), some (V.int (ns.length : Int)), some (V.ref d), y4, y5] ∧ Ex H2 H' ∧ H' d = some (.dK (kvAt ns i)) ∧ ∀ j, j < i → seenAt ns j = none) (fun H3 e3 => ⟨none, none, rfl, (Ex.new hd).trans e3, e3 _ _ upd_same, fun j hj => by omega⟩) ?_ ?_
    · rintro i σ' H' hi ⟨y4, y5, rfl, e3, hd3, hno⟩
      have hi' : i < ns.length := by omega
      have hs3 : SqL K H' a (ns.map V.int) := ex_l (e20.trans e3) hs
      have gi := atI_int hi'
      refine q_asg (v := .int (land ns i)) (show Ev _ _ _ (.int (((i : Int) + ns.getD i 0) % (ns.length : Int))) by (repeat' (first | with_reducible exact ev_c | ((with_reducible show Ev (tVar _) _ _ _); exact ev_var rfl) | with_reducible exact ea_nil | with_reducible exact eo_none | with_reducible refine' ea_cons ?_ ?_ | with_reducible refine' eo_some ?_ | with_reducible refine' ev_and2 ?_ ?_ | with_reducible refine' ev_or2 ?_ ?_ | with_reducible refine' ev_notV ?_ | with_reducible exact ru_I | with_reducible refine' ev_un ?_ ?_ | with_reducible exact rv_I0 | with_reducible exact rv_isN | with_reducible exact rv_notN | with_reducible refine' rv_I ?_ | with_reducible refine' rv_eq ?_ | with_reducible refine' rv_ne ?_ | with_reducible refine' ev_op ?_ ?_ ?_ | with_reducible refine' ev_chain2 ?_ ?_ ?_ ?_ ?_ | with_reducible refine' et_B ?_ | with_reducible refine' et_test ?_ | with_reducible refine' et_and2 ?_ ?_ | with_reducible refine' et_or2 ?_ ?_ | with_reducible refine' et_not ?_ | with_reducible refine' ev_call ?_ ?_ | with_reducible refine' ev_callS ?_ ?_ | with_reducible refine' ev_cb ?_ ?_ | with_reducible exact isi_bool (by assumption) | with_reducible exact isi_int (by assumption) | with_reducible exact isi_list (by assumption) | with_reducible exact rc_len (by assumption) | with_reducible exact rc_sum (by assumption) | with_reducible exact rc_abs | with_reducible exact isi_listL (by assumption) | with_reducible exact isi_intI | with_reducible exact isi_boolI | with_reducible exact rc_lenT (by assumption) | with_reducible exact isi_tup (by assumption) | with_reducible exact rv_eqL (by assumption) (by assumption) | with_reducible exact rv_neL (by assumption) (by assumption) | with_reducible exact rv_neT (by assumption) (by assumption) | with_reducible exact rv_ixL (by assumption) (by assumption) | with_reducible exact rv_ixT (by assumption) (by assumption) | with_reducible refine' ev_din ?_ ?_ (by assumption) | with_reducible refine' ev_dnotin ?_ ?_ (by assumption) | with_reducible refine' ev_dget ?_ ?_ (by assumption) (by assumption) | ((with_reducible show SpV _ _ _ _); assumption) | ((with_reducible show RV _ _ _ _ _); assumption) | ((with_reducible show RC _ _ _ _); assumption) | ((with_reducible show CDiv _ _); exact ⟨by omega, by omega⟩) | ((with_reducible show CMul _ _); first | exact .inl ⟨by omega, by omega⟩ | exact .inr ⟨by omega, by omega⟩) | ((with_reducible show CPow _ _); exact ⟨by omega, by omega, by decide⟩) | ((with_reducible show (0 : Int) < _); omega) | ((with_reducible show (0 : Int) ≤ _); omega) | ((with_reducible show scal _ _ = true); rfl)))) fun H4 e4 => ?_
      have hd4 : H4 d = some (.dK (kvAt ns i)) := e4 _ _ hd3
      refine q_when (b := (seenAt ns i).isSome) ?_ (fun hb H5 e5 => ?_) (fun hb H5 e5 => ?_)
      · apply et_is
        · (repeat' (first | with_reducible exact ev_c | ((with_reducible show Ev (tVar _) _ _ _); exact ev_var rfl) | with_reducible exact ea_nil | with_reducible exact eo_none | with_reducible refine' ea_cons ?_ ?_ | with_reducible refine' eo_some ?_ | with_reducible refine' ev_and2 ?_ ?_ | with_reducible refine' ev_or2 ?_ ?_ | with_reducible refine' ev_notV ?_ | with_reducible exact ru_I | with_reducible refine' ev_un ?_ ?_ | with_reducible exact rv_I0 | with_reducible exact rv_isN | with_reducible exact rv_notN | with_reducible refine' rv_I ?_ | with_reducible refine' rv_eq ?_ | with_reducible refine' rv_ne ?_ | with_reducible refine' ev_op ?_ ?_ ?_ | with_reducible refine' ev_chain2 ?_ ?_ ?_ ?_ ?_ | with_reducible refine' et_B ?_ | with_reducible refine' et_test ?_ | with_reducible refine' et_and2 ?_ ?_ | with_reducible refine' et_or2 ?_ ?_ | with_reducible refine' et_not ?_ | with_reducible refine' ev_call ?_ ?_ | with_reducible refine' ev_callS ?_ ?_ | with_reducible refine' ev_cb ?_ ?_ | with_reducible exact isi_bool (by assumption) | with_reducible exact isi_int (by assumption) | with_reducible exact isi_list (by assumption) | with_reducible exact rc_len (by assumption) | with_reducible exact rc_sum (by assumption) | with_reducible exact rc_abs | with_reducible exact isi_listL (by assumption) | with_reducible exact isi_intI | with_reducible exact isi_boolI | with_reducible exact rc_lenT (by assumption) | with_reducible exact isi_tup (by assumption) | with_reducible exact rv_eqL (by assumption) (by assumption) | with_reducible exact rv_neL (by assumption) (by assumption) | with_reducible exact rv_neT (by assumption) (by assumption) | with_reducible exact rv_ixL (by assumption) (by assumption) | with_reducible exact rv_ixT (by assumption) (by assumption) | with_reducible refine' ev_din ?_ ?_ (by assumption) | with_reducible refine' ev_dnotin ?_ ?_ (by assumption) | with_reducible refine' ev_dget ?_ ?_ (by assumption) (by assumption) | ((with_reducible show SpV _ _ _ _); assumption) | ((with_reducible show RV _ _ _ _ _); assumption) | ((with_reducible show RC _ _ _ _); assumption) | ((with_reducible show CDiv _ _); exact ⟨by omega, by omega⟩) | ((with_reducible show CMul _ _); first | exact .inl ⟨by omega, by omega⟩ | exact .inr ⟨by omega, by omega⟩) | ((with_reducible show CPow _ _); exact ⟨by omega, by omega, by decide⟩) | ((with_reducible show (0 : Int) < _); omega) | ((with_reducible show (0 : Int) ≤ _); omega) | ((with_reducible show scal _ _ = true); rfl)))
        · rw [kvAt_val]
          unfold seenAt
          cases (List.range i).find? fun k => decide (land ns k = land ns i) <;> rfl
      · obtain ⟨k, hk2⟩ := Option.isSome_iff_exists.mp hb
        have ec : clashRe ns = .tup [.int (k : Int), .int (i : Int)] := by
          have z : clashOf ns = some (k, i) := findSome_at hi' (fun j hj => by rw [hno j hj]; rfl) (by rw [hk2]; rfl)
          unfold clashRe
          rw [z]
        rw [if_pos rfl, ec] at q
        have hd5 : H5 d = some (.dK (kvAt ns i)) := e5 _ _ hd4
        have hv : valV (kvAt ns i) (Sum.inl (land ns i) : Key) = some (V.int (k : Int)) := by
          rw [kvAt_val]
          unfold seenAt at hk2
          rw [hk2]
          rfl
        refine s_retU2 (xs := [.int (k : Int), .int (i : Int)]) (by (repeat' (first | with_reducible exact ev_c | ((with_reducible show Ev (tVar _) _ _ _); exact ev_var rfl) | with_reducible exact ea_nil | with_reducible exact eo_none | with_reducible refine' ea_cons ?_ ?_ | with_reducible refine' eo_some ?_ | with_reducible refine' ev_and2 ?_ ?_ | with_reducible refine' ev_or2 ?_ ?_ | with_reducible refine' ev_notV ?_ | with_reducible exact ru_I | with_reducible refine' ev_un ?_ ?_ | with_reducible exact rv_I0 | with_reducible exact rv_isN | with_reducible exact rv_notN | with_reducible refine' rv_I ?_ | with_reducible refine' rv_eq ?_ | with_reducible refine' rv_ne ?_ | with_reducible refine' ev_op ?_ ?_ ?_ | with_reducible refine' ev_chain2 ?_ ?_ ?_ ?_ ?_ | with_reducible refine' et_B ?_ | with_reducible refine' et_test ?_ | with_reducible refine' et_and2 ?_ ?_ | with_reducible refine' et_or2 ?_ ?_ | with_reducible refine' et_not ?_ | with_reducible refine' ev_call ?_ ?_ | with_reducible refine' ev_callS ?_ ?_ | with_reducible refine' ev_cb ?_ ?_ | with_reducible exact isi_bool (by assumption) | with_reducible exact isi_int (by assumption) | with_reducible exact isi_list (by assumption) | with_reducible exact rc_len (by assumption) | with_reducible exact rc_sum (by assumption) | with_reducible exact rc_abs | with_reducible exact isi_listL (by assumption) | with_reducible exact isi_intI | with_reducible exact isi_boolI | with_reducible exact rc_lenT (by assumption) | with_reducible exact isi_tup (by assumption) | with_reducible exact rv_eqL (by assumption) (by assumption) | with_reducible exact rv_neL (by assumption) (by assumption) | with_reducible exact rv_neT (by assumption) (by assumption) | with_reducible exact rv_ixL (by assumption) (by assumption) | with_reducible exact rv_ixT (by assumption) (by assumption) | with_reducible refine' ev_din ?_ ?_ (by assumption) | with_reducible refine' ev_dnotin ?_ ?_ (by assumption) | with_reducible refine' ev_dget ?_ ?_ (by assumption) (by assumption) | ((with_reducible show SpV _ _ _ _); assumption) | ((with_reducible show RV _ _ _ _ _); assumption) | ((with_reducible show RC _ _ _ _); assumption) | ((with_reducible show CDiv _ _); exact ⟨by omega, by omega⟩) | ((with_reducible show CMul _ _); first | exact .inl ⟨by omega, by omega⟩ | exact .inr ⟨by omega, by omega⟩) | ((with_reducible show CPow _ _); exact ⟨by omega, by omega, by decide⟩) | ((with_reducible show (0 : Int) < _); omega) | ((with_reducible show (0 : Int) ≤ _); omega) | ((with_reducible show scal _ _ = true); rfl)))) (by show 2 ≤ 100000; decide) ?_
        exact RetU.mono (((e20.trans e3).trans e4).trans e5) q
      · have hb' : seenAt ns i = none := by
          cases z : seenAt ns i with
          | none => rfl
          | some k =>
            rw [z] at hb
            cases hb
        have hd5 : H5 d = some (.dK (kvAt ns i)) := e5 _ _ hd4
        refine s_dput hd5 (v := .int (i : Int)) (i := land ns i) (by (repeat' (first | with_reducible exact ev_c | ((with_reducible show Ev (tVar _) _ _ _); exact ev_var rfl) | with_reducible exact ea_nil | with_reducible exact eo_none | with_reducible refine' ea_cons ?_ ?_ | with_reducible refine' eo_some ?_ | with_reducible refine' ev_and2 ?_ ?_ | with_reducible refine' ev_or2 ?_ ?_ | with_reducible refine' ev_notV ?_ | with_reducible exact ru_I | with_reducible refine' ev_un ?_ ?_ | with_reducible exact rv_I0 | with_reducible exact rv_isN | with_reducible exact rv_notN | with_reducible refine' rv_I ?_ | with_reducible refine' rv_eq ?_ | with_reducible refine' rv_ne ?_ | with_reducible refine' ev_op ?_ ?_ ?_ | with_reducible refine' ev_chain2 ?_ ?_ ?_ ?_ ?_ | with_reducible refine' et_B ?_ | with_reducible refine' et_test ?_ | with_reducible refine' et_and2 ?_ ?_ | with_reducible refine' et_or2 ?_ ?_ | with_reducible refine' et_not ?_ | with_reducible refine' ev_call ?_ ?_ | with_reducible refine' ev_callS ?_ ?_ | with_reducible refine' ev_cb ?_ ?_ | with_reducible exact isi_bool (by assumption) | with_reducible exact isi_int (by assumption) | with_reducible exact isi_list (by assumption) | with_reducible exact rc_len (by assumption) | with_reducible exact rc_sum (by assumption) | with_reducible exact rc_abs | with_reducible exact isi_listL (by assumption) | with_reducible exact isi_intI | with_reducible exact isi_boolI | with_reducible exact rc_lenT (by assumption) | with_reducible exact isi_tup (by assumption) | with_reducible exact rv_eqL (by assumption) (by assumption) | with_reducible exact rv_neL (by assumption) (by assumption) | with_reducible exact rv_neT (by assumption) (by assumption) | with_reducible exact rv_ixL (by assumption) (by assumption) | with_reducible exact rv_ixT (by assumption) (by assumption) | with_reducible refine' ev_din ?_ ?_ (by assumption) | with_reducible refine' ev_dnotin ?_ ?_ (by assumption) | with_reducible refine' ev_dget ?_ ?_ (by assumption) (by assumption) | ((with_reducible show SpV _ _ _ _); assumption) | ((with_reducible show RV _ _ _ _ _); assumption) | ((with_reducible show RC _ _ _ _); assumption) | ((with_reducible show CDiv _ _); exact ⟨by omega, by omega⟩) | ((with_reducible show CMul _ _); first | exact .inl ⟨by omega, by omega⟩ | exact .inr ⟨by omega, by omega⟩) | ((with_reducible show CPow _ _); exact ⟨by omega, by omega, by decide⟩) | ((with_reducible show (0 : Int) < _); omega) | ((with_reducible show (0 : Int) ≤ _); omega) | ((with_reducible show scal _ _ = true); rfl)))) (by (repeat' (first | with_reducible exact ev_c | ((with_reducible show Ev (tVar _) _ _ _); exact ev_var rfl) | with_reducible exact ea_nil | with_reducible exact eo_none | with_reducible refine' ea_cons ?_ ?_ | with_reducible refine' eo_some ?_ | with_reducible refine' ev_and2 ?_ ?_ | with_reducible refine' ev_or2 ?_ ?_ | with_reducible refine' ev_notV ?_ | with_reducible exact ru_I | with_reducible refine' ev_un ?_ ?_ | with_reducible exact rv_I0 | with_reducible exact rv_isN | with_reducible exact rv_notN | with_reducible refine' rv_I ?_ | with_reducible refine' rv_eq ?_ | with_reducible refine' rv_ne ?_ | with_reducible refine' ev_op ?_ ?_ ?_ | with_reducible refine' ev_chain2 ?_ ?_ ?_ ?_ ?_ | with_reducible refine' et_B ?_ | with_reducible refine' et_test ?_ | with_reducible refine' et_and2 ?_ ?_ | with_reducible refine' et_or2 ?_ ?_ | with_reducible refine' et_not ?_ | with_reducible refine' ev_call ?_ ?_ | with_reducible refine' ev_callS ?_ ?_ | with_reducible refine' ev_cb ?_ ?_ | with_reducible exact isi_bool (by assumption) | with_reducible exact isi_int (by assumption) | with_reducible exact isi_list (by assumption) | with_reducible exact rc_len (by assumption) | with_reducible exact rc_sum (by assumption) | with_reducible exact rc_abs | with_reducible exact isi_listL (by assumption) | with_reducible exact isi_intI | with_reducible exact isi_boolI | with_reducible exact rc_lenT (by assumption) | with_reducible exact isi_tup (by assumption) | with_reducible exact rv_eqL (by assumption) (by assumption) | with_reducible exact rv_neL (by assumption) (by assumption) | with_reducible exact rv_neT (by assumption) (by assumption) | with_reducible exact rv_ixL (by assumption) (by assumption) | with_reducible exact rv_ixT (by assumption) (by assumption) | with_reducible refine' ev_din ?_ ?_ (by assumption) | with_reducible refine' ev_dnotin ?_ ?_ (by assumption) | with_reducible refine' ev_dget ?_ ?_ (by assumption) (by assumption) | ((with_reducible show SpV _ _ _ _); assumption) | ((with_reducible show RV _ _ _ _ _); assumption) | ((with_reducible show RC _ _ _ _); assumption) | ((with_reducible show CDiv _ _); exact ⟨by omega, by omega⟩) | ((with_reducible show CMul _ _); first | exact .inl ⟨by omega, by omega⟩ | exact .inr ⟨by omega, by omega⟩) | ((with_reducible show CPow _ _); exact ⟨by omega, by omega, by decide⟩) | ((with_reducible show (0 : Int) < _); omega) | ((with_reducible show (0 : Int) ≤ _); omega) | ((with_reducible show scal _ _ = true); rfl)))) (by (repeat' (first | with_reducible exact ev_c | ((with_reducible show Ev (tVar _) _ _ _); exact ev_var rfl) | with_reducible exact ea_nil | with_reducible exact eo_none | with_reducible refine' ea_cons ?_ ?_ | with_reducible refine' eo_some ?_ | with_reducible refine' ev_and2 ?_ ?_ | with_reducible refine' ev_or2 ?_ ?_ | with_reducible refine' ev_notV ?_ | with_reducible exact ru_I | with_reducible refine' ev_un ?_ ?_ | with_reducible exact rv_I0 | with_reducible exact rv_isN | with_reducible exact rv_notN | with_reducible refine' rv_I ?_ | with_reducible refine' rv_eq ?_ | with_reducible refine' rv_ne ?_ | with_reducible refine' ev_op ?_ ?_ ?_ | with_reducible refine' ev_chain2 ?_ ?_ ?_ ?_ ?_ | with_reducible refine' et_B ?_ | with_reducible refine' et_test ?_ | with_reducible refine' et_and2 ?_ ?_ | with_reducible refine' et_or2 ?_ ?_ | with_reducible refine' et_not ?_ | with_reducible refine' ev_call ?_ ?_ | with_reducible refine' ev_callS ?_ ?_ | with_reducible refine' ev_cb ?_ ?_ | with_reducible exact isi_bool (by assumption) | with_reducible exact isi_int (by assumption) | with_reducible exact isi_list (by assumption) | with_reducible exact rc_len (by assumption) | with_reducible exact rc_sum (by assumption) | with_reducible exact rc_abs | with_reducible exact isi_listL (by assumption) | with_reducible exact isi_intI | with_reducible exact isi_boolI | with_reducible exact rc_lenT (by assumption) | with_reducible exact isi_tup (by assumption) | with_reducible exact rv_eqL (by assumption) (by assumption) | with_reducible exact rv_neL (by assumption) (by assumption) | with_reducible exact rv_neT (by assumption) (by assumption) | with_reducible exact rv_ixL (by assumption) (by assumption) | with_reducible exact rv_ixT (by assumption) (by assumption) | with_reducible refine' ev_din ?_ ?_ (by assumption) | with_reducible refine' ev_dnotin ?_ ?_ (by assumption) | with_reducible refine' ev_dget ?_ ?_ (by assumption) (by assumption) | ((with_reducible show SpV _ _ _ _); assumption) | ((with_reducible show RV _ _ _ _ _); assumption) | ((with_reducible show RC _ _ _ _); assumption) | ((with_reducible show CDiv _ _); exact ⟨by omega, by omega⟩) | ((with_reducible show CMul _ _); first | exact .inl ⟨by omega, by omega⟩ | exact .inr ⟨by omega, by omega⟩) | ((with_reducible show CPow _ _); exact ⟨by omega, by omega, by decide⟩) | ((with_reducible show (0 : Int) < _); omega) | ((with_reducible show (0 : Int) ≤ _); omega) | ((with_reducible show scal _ _ = true); rfl)))) (by rw [kvAt_len]; omega) fun H6 e6 => ?_
        refine ⟨_, _, rfl, Ex.mut (((e3.trans e4).trans e5).trans e6) hd, ?_, fun j hj => ?_⟩
        · rw [kvAt_put hb']
          exact upd_same
        · by_cases z : j < i
          · exact hno j z
          · have : j = i := by omega
            rw [this]
            exact hb'
    · rintro σ' H' ⟨y4, y5, rfl, e3, hd3, hno⟩
      have ec : clashRe ns = .val .non := by
        have z : clashOf ns = none := findSome_none (fun j hj => by rw [hno j (by omega)]; rfl)
        unfold clashRe
        rw [z]
      rw [if_pos rfl, ec] at q
      exact s_ret (by (repeat' (first | with_reducible exact ev_c | ((with_reducible show Ev (tVar _) _ _ _); exact ev_var rfl) | with_reducible exact ea_nil | with_reducible exact eo_none | with_reducible refine' ea_cons ?_ ?_ | with_reducible refine' eo_some ?_ | with_reducible refine' ev_and2 ?_ ?_ | with_reducible refine' ev_or2 ?_ ?_ | with_reducible refine' ev_notV ?_ | with_reducible exact ru_I | with_reducible refine' ev_un ?_ ?_ | with_reducible exact rv_I0 | with_reducible exact rv_isN | with_reducible exact rv_notN | with_reducible refine' rv_I ?_ | with_reducible refine' rv_eq ?_ | with_reducible refine' rv_ne ?_ | with_reducible refine' ev_op ?_ ?_ ?_ | with_reducible refine' ev_chain2 ?_ ?_ ?_ ?_ ?_ | with_reducible refine' et_B ?_ | with_reducible refine' et_test ?_ | with_reducible refine' et_and2 ?_ ?_ | with_reducible refine' et_or2 ?_ ?_ | with_reducible refine' et_not ?_ | with_reducible refine' ev_call ?_ ?_ | with_reducible refine' ev_callS ?_ ?_ | with_reducible refine' ev_cb ?_ ?_ | with_reducible exact isi_bool (by assumption) | with_reducible exact isi_int (by assumption) | with_reducible exact isi_list (by assumption) | with_reducible exact rc_len (by assumption) | with_reducible exact rc_sum (by assumption) | with_reducible exact rc_abs | with_reducible exact isi_listL (by assumption) | with_reducible exact isi_intI | with_reducible exact isi_boolI | with_reducible exact rc_lenT (by assumption) | with_reducible exact isi_tup (by assumption) | with_reducible exact rv_eqL (by assumption) (by assumption) | with_reducible exact rv_neL (by assumption) (by assumption) | with_reducible exact rv_neT (by assumption) (by assumption) | with_reducible exact rv_ixL (by assumption) (by assumption) | with_reducible exact rv_ixT (by assumption) (by assumption) | with_reducible refine' ev_din ?_ ?_ (by assumption) | with_reducible refine' ev_dnotin ?_ ?_ (by assumption) | with_reducible refine' ev_dget ?_ ?_ (by assumption) (by assumption) | ((with_reducible show SpV _ _ _ _); assumption) | ((with_reducible show RV _ _ _ _ _); assumption) | ((with_reducible show RC _ _ _ _); assumption) | ((with_reducible show CDiv _ _); exact ⟨by omega, by omega⟩) | ((with_reducible show CMul _ _); first | exact .inl ⟨by omega, by omega⟩ | exact .inr ⟨by omega, by omega⟩) | ((with_reducible show CPow _ _); exact ⟨by omega, by omega, by decide⟩) | ((with_reducible show (0 : Int) < _); omega) | ((with_reducible show (0 : Int) ≤ _); omega) | ((with_reducible show scal _ _ = true); rfl)))) fun H4 e4 => q H4 ((e20.trans e3).trans e4)

end TB

/-! ### rows: Clash, check_pattern, balls_of, even, kept -/
namespace TB
open PySem PySem.Spec PyProof.Rows L2 Evl
theorem sc_Clash : FnScope ["self", "beats"] ["self", "beats"] (defScope s_Clash___init__) := ⟨rfl, rfl, rfl, by decide +kernel, rfl, by decide +kernel, by decide +kernel⟩
def sp_init (C : Addr) : Sp := fun vs H Q E => ∃ a b, vs = [.ref a, b] ∧ H a = some (exo a C none) ∧ ∀ d, H d = none → d ≠ a → Q .non (upd (upd H d (exd d [(("beats" : Str), b)])) a (exo a C (some d)))
theorem clashC {K : PySem.W.Frag} {mg : Str → Option Value} (T : TXT K mg) : ClashC K (He.ga K "Clash") := clashB_ok (tx_clash T)
theorem ok_Clash {P : Program} {w : World} {K : PySem.W.Frag} {mg : Str → Option Value} {base : Heap} (T : TXT K mg) : OKE P w K mg base "Clash" ["self", "beats"] 1 (sp_init (He.ga K "Clash")) := by
  obtain ⟨fd, F⟩ := T.def_ 0
  have cc := clashC T
  refine ⟨fd, cc, T.glo 23, F.bindsN (fun _ _ _ _ _ _ us hl => match us, hl with | [_, _], _ => rfl), F.ok sc_Clash (fun vs H Q E h => ?_) (fun cdv A outer s H vs Q E hr h => ?_)⟩
  · obtain ⟨a, b, rfl, _⟩ := h
    rfl
  · refine ⟨_, (pss_one (ps_ost (pv 0) (pv 1))), ?_⟩
    obtain ⟨a, b, rfl, ha, q⟩ := h
    dsimp only [cxOf, L2.start, List.map_cons, List.map_nil, List.length_cons, List.length_nil, Nat.reduceAdd, Nat.reduceSub, List.replicate_succ, List.replicate_zero, List.cons_append, List.nil_append, Nat.zero_add, List.reduceReplicate, List.map]
    exact ⟨_, rfl, _, rfl, a, _, rfl, cc.o, cc.n, .inl ⟨ha, fun d hd hne => q d hd hne⟩⟩
/-- what a clash that is raised leaves -/
theorem raise_clash {σ : L2.St} {H : Hp} {te : TE} {b : Addr} {i j : Int} {E : XK} {C : Addr} (hb : Ev te σ H (.ref b)) (ht : H b = some (.tup [.int i, .int j]))
    (k : ∀ H2 d p, H d = none → Ex H H2 → H2 d = some (.xd [(("beats" : Str), .ref p)]) → H2 p = some (.tup [.int i, .int j]) → E (.ref C) (some d) H2) :
    tMkO C (sp_init C) [] (tCons te tNil) σ H fun cls d H' => E cls d H' := by
  refine hb H (Ex.refl H) _ fun H1 e1 => ⟨by show 1 ≤ 1000; decide, fun a ha => ?_⟩
  refine ⟨a, .ref b, rfl, upd_same, fun d hd hne => ⟨rfl, d, [(("beats" : Str), .ref b)], upd_same, ?_, ?_, ?_⟩⟩
  · rw [upd_ne hne, upd_same]
  · rw [upd_ne hne] at hd
    exact hd
  · have hd1 : H1 d = none := by
      rw [upd_ne hne] at hd
      exact hd
    have hx : Ex H1 (upd (del (upd (upd (upd H1 a (exo a C none)) d (exd d [(("beats" : Str), .ref b)])) a (exo a C (some d))) a) d (.xd [(("beats" : Str), .ref b)])) := fun c o h => by
      have nca : c ≠ a := ne_of_none h ha
      have ncd : c ≠ d := ne_of_none h hd1
      rw [upd_ne ncd, del_ne nca, upd_ne nca, upd_ne ncd, upd_ne nca]
      exact h
    exact k _ d b (fresh_back e1 hd1) (e1.trans hx) upd_same (hx _ _ (e1 _ _ ht))
def patRe (ns : List Int) (r : Re) : Re := match clashOf ns with
  | some (i, j) => .clash (i : Int) (j : Int)
  | none => r
/-- a door that takes a pattern -/
def doorRe (o : Option (List V)) (f : List Int → Re) : Re := if rowOk o then patRe (rowsOf o) (f (rowsOf o)) else .err "NotARow"
def sp_check_pattern (K : PySem.W.Frag) : Sp := fun vs H Q E => ∃ v o, vs = [v] ∧ Row H v o ∧ Give K (doorRe o fun _ => .val .non) H Q E
def sp_balls_of (K : PySem.W.Frag) : Sp := fun vs H Q E => ∃ v o, vs = [v] ∧ Row H v o ∧ Give K (doorRe o fun ns => .val (.int (ns.sum / (ns.length : Int)))) H Q E
theorem sx_clash_of {K : PySem.W.Frag} {H : Hp} {v : V} {o : Option (List V)} {E : XK} (hk : Row H v o) (h : rowOk o = false) (he : ∀ H2, Ex H H2 → E (.ref (He.ga K "NotARow")) none H2) : ∀ H1, Ex H H1 → ∀ Q : VK, sp_clash_of K [v] H1 Q E := fun H1 e Q => ⟨v, o, rfl, hk.mono e, by
  rw [h]
  exact fun H2 e2 => he H2 (e.trans e2)⟩
theorem sv_clash_of {K : PySem.W.Frag} {H : Hp} {v : V} {o : Option (List V)} (hk : Row H v o) (h : rowOk o = true) (hc : clashOf (rowsOf o) = none) : SpV (sp_clash_of K) [v] H .non := spv_of fun H1 e Q E k => ⟨v, o, rfl, hk.mono e, by
  rw [h, if_pos rfl]
  unfold clashRe
  rw [hc]
  exact k⟩
theorem su_clash_of {K : PySem.W.Frag} {H : Hp} {v : V} {o : Option (List V)} {i j : Nat} (hk : Row H v o) (h : rowOk o = true) (hc : clashOf (rowsOf o) = some (i, j)) : SpU (sp_clash_of K) [v] H [.int (i : Int), .int (j : Int)] := fun H1 e Q k E => ⟨v, o, rfl, hk.mono e, by
  rw [h, if_pos rfl]
  unfold clashRe
  rw [hc]
  exact k⟩
theorem sc_check_pattern : FnScope ["row", "beats"] ["row"] (defScope s_check_pattern) := ⟨rfl, rfl, rfl, by decide +kernel, rfl, by decide +kernel, by decide +kernel⟩
theorem ok_check_pattern {P : Program} {w : World} {K : PySem.W.Frag} {mg : Str → Option Value} {base : Heap} (T : TXT K mg) : OK P w K mg base "check_pattern" ["row"] 5 (sp_check_pattern K) := by
  have O_clash_of := ok_clash_of (P := P) (w := w) (base := base) T
  have O_Clash := ok_Clash (P := P) (w := w) (base := base) T
  obtain ⟨fd, F⟩ := T.def_ 5
  refine ⟨_, fd, T.glo 4, F.kp, F.bindsN (fun _ _ _ _ _ _ us hl => match us, hl with | [_], _ => rfl), F.ok sc_check_pattern (fun vs H Q E h => ?_) (fun cdv A outer s H vs Q E hr h => ?_), F.bindsA (fun _ _ _ _ _ _ us hl => match us, hl with | [_], _ => rfl)⟩
  · first | (obtain ⟨rfl, _⟩ := h; rfl) | (obtain ⟨_, rfl, _⟩ := h; rfl) | (obtain ⟨_, _, rfl, _⟩ := h; rfl) | (obtain ⟨_, _, _, rfl, _⟩ := h; rfl) | (obtain ⟨_, _, _, _, rfl, _⟩ := h; rfl) | (obtain ⟨_, _, _, _, _, rfl, _⟩ := h; rfl) | (obtain ⟨_, _, _, _, _, _, rfl, _⟩ := h; rfl) | (obtain ⟨_, _, _, _, _, _, _, rfl, _⟩ := h; rfl) | (obtain ⟨_, _, _, _, _, _, _, _, rfl, _⟩ := h; rfl)
  · replace F : FunD K "check_pattern" "check_pattern" (defArgs s_check_pattern) (defBody s_check_pattern) (defScope s_check_pattern) [] [] (He.ga K "check_pattern") fd := F
    refine ⟨_, (pss_cons (ps_set (i := 1) sc_check_pattern.nd rfl (Or.inl rfl) (pe_own O_clash_of (hr.mono (by decide)) (by rfl) (passes_call (takes_of rfl rfl rfl rfl) (fun _ _ _ _ h => h)) (pa_cons (pv 0) pa_nil)))
      (pss_one (ps_if (pt_cmpR op_notN (pv 1) pe_non (nomark _))
        (pss_one (ps_raise rfl (takes_of rfl rfl rfl rfl) (pmk_oexT O_Clash (hr.mono (by decide)) (pa_cons (pv 1) pa_nil))))
        pss_nil))), ?_⟩
    obtain ⟨v, o, rfl, hk, q⟩ := h
    dsimp only [cxOf, L2.start, List.map_cons, List.map_nil, List.length_cons, List.length_nil, Nat.reduceAdd, Nat.reduceSub, List.replicate_succ, List.replicate_zero, List.cons_append, List.nil_append, Nat.zero_add, List.reduceReplicate, List.map]
    by_cases ho : rowOk o = true
    case neg =>
      have ho : rowOk o = false := by simpa using ho
      unfold doorRe at q
      rw [ho] at q
      exact xq_asg (rz_call (by (repeat' (first | with_reducible exact ev_c | ((with_reducible show Ev (tVar _) _ _ _); exact ev_var rfl) | with_reducible exact ea_nil | with_reducible exact eo_none | with_reducible refine' ea_cons ?_ ?_ | with_reducible refine' eo_some ?_ | with_reducible refine' ev_and2 ?_ ?_ | with_reducible refine' ev_or2 ?_ ?_ | with_reducible refine' ev_notV ?_ | with_reducible exact ru_I | with_reducible refine' ev_un ?_ ?_ | with_reducible exact rv_I0 | with_reducible exact rv_isN | with_reducible exact rv_notN | with_reducible refine' rv_I ?_ | with_reducible refine' rv_eq ?_ | with_reducible refine' rv_ne ?_ | with_reducible refine' ev_op ?_ ?_ ?_ | with_reducible refine' ev_chain2 ?_ ?_ ?_ ?_ ?_ | with_reducible refine' et_B ?_ | with_reducible refine' et_test ?_ | with_reducible refine' et_and2 ?_ ?_ | with_reducible refine' et_or2 ?_ ?_ | with_reducible refine' et_not ?_ | with_reducible refine' ev_call ?_ ?_ | with_reducible refine' ev_callS ?_ ?_ | with_reducible refine' ev_cb ?_ ?_ | with_reducible exact isi_bool (by assumption) | with_reducible exact isi_int (by assumption) | with_reducible exact isi_list (by assumption) | with_reducible exact rc_len (by assumption) | with_reducible exact rc_sum (by assumption) | with_reducible exact rc_abs | with_reducible exact isi_listL (by assumption) | with_reducible exact isi_intI | with_reducible exact isi_boolI | with_reducible exact rc_lenT (by assumption) | with_reducible exact isi_tup (by assumption) | with_reducible exact rv_eqL (by assumption) (by assumption) | with_reducible exact rv_neL (by assumption) (by assumption) | with_reducible exact rv_neT (by assumption) (by assumption) | with_reducible exact rv_ixL (by assumption) (by assumption) | with_reducible exact rv_ixT (by assumption) (by assumption) | with_reducible refine' ev_din ?_ ?_ (by assumption) | with_reducible refine' ev_dnotin ?_ ?_ (by assumption) | with_reducible refine' ev_dget ?_ ?_ (by assumption) (by assumption) | ((with_reducible show SpV _ _ _ _); assumption) | ((with_reducible show RV _ _ _ _ _); assumption) | ((with_reducible show RC _ _ _ _); assumption) | ((with_reducible show CDiv _ _); exact ⟨by omega, by omega⟩) | ((with_reducible show CMul _ _); first | exact .inl ⟨by omega, by omega⟩ | exact .inr ⟨by omega, by omega⟩) | ((with_reducible show CPow _ _); exact ⟨by omega, by omega, by decide⟩) | ((with_reducible show (0 : Int) < _); omega) | ((with_reducible show (0 : Int) ≤ _); omega) | ((with_reducible show scal _ _ = true); rfl)))) (sx_clash_of hk ho q))
    unfold doorRe at q
    rw [ho, if_pos rfl] at q
    cases hc : clashOf (rowsOf o) with
    | none =>
      unfold patRe at q
      rw [hc] at q
      have h1 := sv_clash_of (K := K) hk ho hc
      refine q_asg (v := .non) (by (repeat' (first | with_reducible exact ev_c | ((with_reducible show Ev (tVar _) _ _ _); exact ev_var rfl) | with_reducible exact ea_nil | with_reducible exact eo_none | with_reducible refine' ea_cons ?_ ?_ | with_reducible refine' eo_some ?_ | with_reducible refine' ev_and2 ?_ ?_ | with_reducible refine' ev_or2 ?_ ?_ | with_reducible refine' ev_notV ?_ | with_reducible exact ru_I | with_reducible refine' ev_un ?_ ?_ | with_reducible exact rv_I0 | with_reducible exact rv_isN | with_reducible exact rv_notN | with_reducible refine' rv_I ?_ | with_reducible refine' rv_eq ?_ | with_reducible refine' rv_ne ?_ | with_reducible refine' ev_op ?_ ?_ ?_ | with_reducible refine' ev_chain2 ?_ ?_ ?_ ?_ ?_ | with_reducible refine' et_B ?_ | with_reducible refine' et_test ?_ | with_reducible refine' et_and2 ?_ ?_ | with_reducible refine' et_or2 ?_ ?_ | with_reducible refine' et_not ?_ | with_reducible refine' ev_call ?_ ?_ | with_reducible refine' ev_callS ?_ ?_ | with_reducible refine' ev_cb ?_ ?_ | with_reducible exact isi_bool (by assumption) | with_reducible exact isi_int (by assumption) | with_reducible exact isi_list (by assumption) | with_reducible exact rc_len (by assumption) | with_reducible exact rc_sum (by assumption) | with_reducible exact rc_abs | with_reducible exact isi_listL (by assumption) | with_reducible exact isi_intI | with_reducible exact isi_boolI | with_reducible exact rc_lenT (by assumption) | with_reducible exact isi_tup (by assumption) | with_reducible exact rv_eqL (by assumption) (by assumption) | with_reducible exact rv_neL (by assumption) (by assumption) | with_reducible exact rv_neT (by assumption) (by assumption) | with_reducible exact rv_ixL (by assumption) (by assumption) | with_reducible exact rv_ixT (by assumption) (by assumption) | with_reducible refine' ev_din ?_ ?_ (by assumption) | with_reducible refine' ev_dnotin ?_ ?_ (by assumption) | with_reducible refine' ev_dget ?_ ?_ (by assumption) (by assumption) | ((with_reducible show SpV _ _ _ _); assumption) | ((with_reducible show RV _ _ _ _ _); assumption) | ((with_reducible show RC _ _ _ _); assumption) | ((with_reducible show CDiv _ _); exact ⟨by omega, by omega⟩) | ((with_reducible show CMul _ _); first | exact .inl ⟨by omega, by omega⟩ | exact .inr ⟨by omega, by omega⟩) | ((with_reducible show CPow _ _); exact ⟨by omega, by omega, by decide⟩) | ((with_reducible show (0 : Int) < _); omega) | ((with_reducible show (0 : Int) ≤ _); omega) | ((with_reducible show scal _ _ = true); rfl)))) fun H1 e1 => ?_
      exact s_when (b := false) (by apply et_is; (focus ((repeat' (first | with_reducible exact ev_c | ((with_reducible show Ev (tVar _) _ _ _); exact ev_var rfl) | with_reducible exact ea_nil | with_reducible exact eo_none | with_reducible refine' ea_cons ?_ ?_ | with_reducible refine' eo_some ?_ | with_reducible refine' ev_and2 ?_ ?_ | with_reducible refine' ev_or2 ?_ ?_ | with_reducible refine' ev_notV ?_ | with_reducible exact ru_I | with_reducible refine' ev_un ?_ ?_ | with_reducible exact rv_I0 | with_reducible exact rv_isN | with_reducible exact rv_notN | with_reducible refine' rv_I ?_ | with_reducible refine' rv_eq ?_ | with_reducible refine' rv_ne ?_ | with_reducible refine' ev_op ?_ ?_ ?_ | with_reducible refine' ev_chain2 ?_ ?_ ?_ ?_ ?_ | with_reducible refine' et_B ?_ | with_reducible refine' et_test ?_ | with_reducible refine' et_and2 ?_ ?_ | with_reducible refine' et_or2 ?_ ?_ | with_reducible refine' et_not ?_ | with_reducible refine' ev_call ?_ ?_ | with_reducible refine' ev_callS ?_ ?_ | with_reducible refine' ev_cb ?_ ?_ | with_reducible exact isi_bool (by assumption) | with_reducible exact isi_int (by assumption) | with_reducible exact isi_list (by assumption) | with_reducible exact rc_len (by assumption) | with_reducible exact rc_sum (by assumption) | with_reducible exact rc_abs | with_reducible exact isi_listL (by assumption) | with_reducible exact isi_intI | with_reducible exact isi_boolI | with_reducible exact rc_lenT (by assumption) | with_reducible exact isi_tup (by assumption) | with_reducible exact rv_eqL (by assumption) (by assumption) | with_reducible exact rv_neL (by assumption) (by assumption) | with_reducible exact rv_neT (by assumption) (by assumption) | with_reducible exact rv_ixL (by assumption) (by assumption) | with_reducible exact rv_ixT (by assumption) (by assumption) | with_reducible refine' ev_din ?_ ?_ (by assumption) | with_reducible refine' ev_dnotin ?_ ?_ (by assumption) | with_reducible refine' ev_dget ?_ ?_ (by assumption) (by assumption) | ((with_reducible show SpV _ _ _ _); assumption) | ((with_reducible show RV _ _ _ _ _); assumption) | ((with_reducible show RC _ _ _ _); assumption) | ((with_reducible show CDiv _ _); exact ⟨by omega, by omega⟩) | ((with_reducible show CMul _ _); first | exact .inl ⟨by omega, by omega⟩ | exact .inr ⟨by omega, by omega⟩) | ((with_reducible show CPow _ _); exact ⟨by omega, by omega, by decide⟩) | ((with_reducible show (0 : Int) < _); omega) | ((with_reducible show (0 : Int) ≤ _); omega) | ((with_reducible show scal _ _ = true); rfl))))); rfl) (fun hb => nomatch hb) fun _ H2 e2 => q H2 (e1.trans e2)
    | some ij =>
      obtain ⟨i, j⟩ := ij
      unfold patRe at q
      rw [hc] at q
      refine q_asgU (xs := [.int (i : Int), .int (j : Int)]) (eu_call (by (repeat' (first | with_reducible exact ev_c | ((with_reducible show Ev (tVar _) _ _ _); exact ev_var rfl) | with_reducible exact ea_nil | with_reducible exact eo_none | with_reducible refine' ea_cons ?_ ?_ | with_reducible refine' eo_some ?_ | with_reducible refine' ev_and2 ?_ ?_ | with_reducible refine' ev_or2 ?_ ?_ | with_reducible refine' ev_notV ?_ | with_reducible exact ru_I | with_reducible refine' ev_un ?_ ?_ | with_reducible exact rv_I0 | with_reducible exact rv_isN | with_reducible exact rv_notN | with_reducible refine' rv_I ?_ | with_reducible refine' rv_eq ?_ | with_reducible refine' rv_ne ?_ | with_reducible refine' ev_op ?_ ?_ ?_ | with_reducible refine' ev_chain2 ?_ ?_ ?_ ?_ ?_ | with_reducible refine' et_B ?_ | with_reducible refine' et_test ?_ | with_reducible refine' et_and2 ?_ ?_ | with_reducible refine' et_or2 ?_ ?_ | with_reducible refine' et_not ?_ | with_reducible refine' ev_call ?_ ?_ | with_reducible refine' ev_callS ?_ ?_ | with_reducible refine' ev_cb ?_ ?_ | with_reducible exact isi_bool (by assumption) | with_reducible exact isi_int (by assumption) | with_reducible exact isi_list (by assumption) | with_reducible exact rc_len (by assumption) | with_reducible exact rc_sum (by assumption) | with_reducible exact rc_abs | with_reducible exact isi_listL (by assumption) | with_reducible exact isi_intI | with_reducible exact isi_boolI | with_reducible exact rc_lenT (by assumption) | with_reducible exact isi_tup (by assumption) | with_reducible exact rv_eqL (by assumption) (by assumption) | with_reducible exact rv_neL (by assumption) (by assumption) | with_reducible exact rv_neT (by assumption) (by assumption) | with_reducible exact rv_ixL (by assumption) (by assumption) | with_reducible exact rv_ixT (by assumption) (by assumption) | with_reducible refine' ev_din ?_ ?_ (by assumption) | with_reducible refine' ev_dnotin ?_ ?_ (by assumption) | with_reducible refine' ev_dget ?_ ?_ (by assumption) (by assumption) | ((with_reducible show SpV _ _ _ _); assumption) | ((with_reducible show RV _ _ _ _ _); assumption) | ((with_reducible show RC _ _ _ _); assumption) | ((with_reducible show CDiv _ _); exact ⟨by omega, by omega⟩) | ((with_reducible show CMul _ _); first | exact .inl ⟨by omega, by omega⟩ | exact .inr ⟨by omega, by omega⟩) | ((with_reducible show CPow _ _); exact ⟨by omega, by omega, by decide⟩) | ((with_reducible show (0 : Int) < _); omega) | ((with_reducible show (0 : Int) ≤ _); omega) | ((with_reducible show scal _ _ = true); rfl)))) (su_clash_of (K := K) hk ho hc)) fun p H1 hp e1 h1 => ?_
      refine s_when (b := true) (by apply et_is; (focus ((repeat' (first | with_reducible exact ev_c | ((with_reducible show Ev (tVar _) _ _ _); exact ev_var rfl) | with_reducible exact ea_nil | with_reducible exact eo_none | with_reducible refine' ea_cons ?_ ?_ | with_reducible refine' eo_some ?_ | with_reducible refine' ev_and2 ?_ ?_ | with_reducible refine' ev_or2 ?_ ?_ | with_reducible refine' ev_notV ?_ | with_reducible exact ru_I | with_reducible refine' ev_un ?_ ?_ | with_reducible exact rv_I0 | with_reducible exact rv_isN | with_reducible exact rv_notN | with_reducible refine' rv_I ?_ | with_reducible refine' rv_eq ?_ | with_reducible refine' rv_ne ?_ | with_reducible refine' ev_op ?_ ?_ ?_ | with_reducible refine' ev_chain2 ?_ ?_ ?_ ?_ ?_ | with_reducible refine' et_B ?_ | with_reducible refine' et_test ?_ | with_reducible refine' et_and2 ?_ ?_ | with_reducible refine' et_or2 ?_ ?_ | with_reducible refine' et_not ?_ | with_reducible refine' ev_call ?_ ?_ | with_reducible refine' ev_callS ?_ ?_ | with_reducible refine' ev_cb ?_ ?_ | with_reducible exact isi_bool (by assumption) | with_reducible exact isi_int (by assumption) | with_reducible exact isi_list (by assumption) | with_reducible exact rc_len (by assumption) | with_reducible exact rc_sum (by assumption) | with_reducible exact rc_abs | with_reducible exact isi_listL (by assumption) | with_reducible exact isi_intI | with_reducible exact isi_boolI | with_reducible exact rc_lenT (by assumption) | with_reducible exact isi_tup (by assumption) | with_reducible exact rv_eqL (by assumption) (by assumption) | with_reducible exact rv_neL (by assumption) (by assumption) | with_reducible exact rv_neT (by assumption) (by assumption) | with_reducible exact rv_ixL (by assumption) (by assumption) | with_reducible exact rv_ixT (by assumption) (by assumption) | with_reducible refine' ev_din ?_ ?_ (by assumption) | with_reducible refine' ev_dnotin ?_ ?_ (by assumption) | with_reducible refine' ev_dget ?_ ?_ (by assumption) (by assumption) | ((with_reducible show SpV _ _ _ _); assumption) | ((with_reducible show RV _ _ _ _ _); assumption) | ((with_reducible show RC _ _ _ _); assumption) | ((with_reducible show CDiv _ _); exact ⟨by omega, by omega⟩) | ((with_reducible show CMul _ _); first | exact .inl ⟨by omega, by omega⟩ | exact .inr ⟨by omega, by omega⟩) | ((with_reducible show CPow _ _); exact ⟨by omega, by omega, by decide⟩) | ((with_reducible show (0 : Int) < _); omega) | ((with_reducible show (0 : Int) ≤ _); omega) | ((with_reducible show scal _ _ = true); rfl))))); rfl) (fun _ H2 e2 => ?_) (fun hb => nomatch hb)
      exact raise_clash (b := p) (i := (i : Int)) (j := (j : Int)) (by (repeat' (first | with_reducible exact ev_c | ((with_reducible show Ev (tVar _) _ _ _); exact ev_var rfl) | with_reducible exact ea_nil | with_reducible exact eo_none | with_reducible refine' ea_cons ?_ ?_ | with_reducible refine' eo_some ?_ | with_reducible refine' ev_and2 ?_ ?_ | with_reducible refine' ev_or2 ?_ ?_ | with_reducible refine' ev_notV ?_ | with_reducible exact ru_I | with_reducible refine' ev_un ?_ ?_ | with_reducible exact rv_I0 | with_reducible exact rv_isN | with_reducible exact rv_notN | with_reducible refine' rv_I ?_ | with_reducible refine' rv_eq ?_ | with_reducible refine' rv_ne ?_ | with_reducible refine' ev_op ?_ ?_ ?_ | with_reducible refine' ev_chain2 ?_ ?_ ?_ ?_ ?_ | with_reducible refine' et_B ?_ | with_reducible refine' et_test ?_ | with_reducible refine' et_and2 ?_ ?_ | with_reducible refine' et_or2 ?_ ?_ | with_reducible refine' et_not ?_ | with_reducible refine' ev_call ?_ ?_ | with_reducible refine' ev_callS ?_ ?_ | with_reducible refine' ev_cb ?_ ?_ | with_reducible exact isi_bool (by assumption) | with_reducible exact isi_int (by assumption) | with_reducible exact isi_list (by assumption) | with_reducible exact rc_len (by assumption) | with_reducible exact rc_sum (by assumption) | with_reducible exact rc_abs | with_reducible exact isi_listL (by assumption) | with_reducible exact isi_intI | with_reducible exact isi_boolI | with_reducible exact rc_lenT (by assumption) | with_reducible exact isi_tup (by assumption) | with_reducible exact rv_eqL (by assumption) (by assumption) | with_reducible exact rv_neL (by assumption) (by assumption) | with_reducible exact rv_neT (by assumption) (by assumption) | with_reducible exact rv_ixL (by assumption) (by assumption) | with_reducible exact rv_ixT (by assumption) (by assumption) | with_reducible refine' ev_din ?_ ?_ (by assumption) | with_reducible refine' ev_dnotin ?_ ?_ (by assumption) | with_reducible refine' ev_dget ?_ ?_ (by assumption) (by assumption) | ((with_reducible show SpV _ _ _ _); assumption) | ((with_reducible show RV _ _ _ _ _); assumption) | ((with_reducible show RC _ _ _ _); assumption) | ((with_reducible show CDiv _ _); exact ⟨by omega, by omega⟩) | ((with_reducible show CMul _ _); first | exact .inl ⟨by omega, by omega⟩ | exact .inr ⟨by omega, by omega⟩) | ((with_reducible show CPow _ _); exact ⟨by omega, by omega, by decide⟩) | ((with_reducible show (0 : Int) < _); omega) | ((with_reducible show (0 : Int) ≤ _); omega) | ((with_reducible show scal _ _ = true); rfl)))) (e2 _ _ h1) fun H3 d p' hd e3 h3 h4 => q H3 d p' (fresh_back (e1.trans e2) hd) ((e1.trans e2).trans e3) h3 h4

/-- what a def that is handed a row does with what is no pattern: check_pattern's refusals, for a body that begins by it -/
theorem sv_check_pattern {K : PySem.W.Frag} {H : Hp} {v : V} {o : Option (List V)} (hk : Row H v o) (h : rowOk o = true) (hc : clashOf (rowsOf o) = none) : SpV (sp_check_pattern K) [v] H .non := spv_of fun H1 e Q E k => ⟨v, o, rfl, hk.mono e, by
  unfold doorRe patRe
  rw [h, if_pos rfl, hc]
  exact k⟩
theorem sx_check_pattern {K : PySem.W.Frag} {H : Hp} {v : V} {o : Option (List V)} {E : XK} {Q0 : VK} {f : List Int → Re} (hk : Row H v o) (q : Give K (doorRe o f) H Q0 E) (h : ¬ (rowOk o = true ∧ clashOf (rowsOf o) = none)) : ∀ H1, Ex H H1 → ∀ Q : VK, sp_check_pattern K [v] H1 Q E := fun H1 e Q => ⟨v, o, rfl, hk.mono e, by
  have q1 := Give.mono e q
  unfold doorRe patRe at q1 ⊢
  by_cases ho : rowOk o = true
  · rw [ho, if_pos rfl] at q1 ⊢
    cases hc : clashOf (rowsOf o) with
    | none => exact absurd ⟨ho, hc⟩ h
    | some ij =>
      rw [hc] at q1
      exact q1
  · rw [if_neg ho] at q1 ⊢
    exact q1⟩
/-- the row that a pattern's door goes on with -/
theorem door_go {K : PySem.W.Frag} {H : Hp} {v : V} {o : Option (List V)} {E : XK} {Q : VK} {f : List Int → Re} (hk : Row H v o) (q : Give K (doorRe o f) H Q E) (h : rowOk o = true ∧ clashOf (rowsOf o) = none) :
    ∃ a ns, v = .ref a ∧ o = some (ns.map V.int) ∧ H a = some (.lst (ns.map V.int)) ∧ RowI ns ∧ clashOf ns = none ∧ Give K (f ns) H Q E := by
  obtain ⟨ho, hc⟩ := h
  obtain ⟨ns, rfl, hn⟩ := row_ints ho
  have hl := hk.ls
  cases hl with
  | lst h =>
    unfold doorRe patRe at q
    rw [ho, if_pos rfl, hc] at q
    rw [rowsOf_some] at q hc
    exact ⟨_, ns, rfl, rfl, h, hn, hc, q⟩
end TB

/-! ### even, kept, turned, lifted -/
namespace TB
open PySem PySem.Spec PyProof.Rows L2 Evl
abbrev inM (v : V) : Bool := inB v (-1000000) 1000000
theorem sv_check_number {K : PySem.W.Frag} {H : Hp} {v : V} (hk : Kd H v) (h : inM v = true) : SpV (sp_check_number K) [v] H .non := spv_of fun H1 e Q E k => ⟨v, rfl, hk.mono e, by
  rw [show inB v (-1000000) 1000000 = true from h]
  exact k⟩
theorem sx_check_number {K : PySem.W.Frag} {H : Hp} {v : V} {E : XK} (hk : Kd H v) (h : inM v = false) (he : ∀ H2, Ex H H2 → E (.ref (He.ga K "OutOfBounds")) none H2) : ∀ H1, Ex H H1 → ∀ Q : VK, sp_check_number K [v] H1 Q E := fun H1 e Q => ⟨v, rfl, hk.mono e, by
  rw [show inB v (-1000000) 1000000 = false from h]
  exact fun H2 e2 => he H2 (e.trans e2)⟩
def evenRe (x y : V) : Re := if inB x 1 60 then (if inM y then .lst (match x with
  | .int n => List.replicate n.toNat y
  | _ => []) else .err "OutOfBounds") else .err "OutOfBounds"
def sp_even (K : PySem.W.Frag) : Sp := fun vs H Q E => ∃ x y, vs = [x, y] ∧ Kd H x ∧ Kd H y ∧ Give K (evenRe x y) H Q E
def allM (ns : List Int) : Bool := ns.all fun n => decide (-1000000 ≤ n) && decide (n ≤ 1000000)
def sp_kept (K : PySem.W.Frag) : Sp := fun vs H Q E => ∃ p ns, vs = [.ref p] ∧ H p = some (.lst (ns.map V.int)) ∧ Give K (if allM ns then .val (.ref p) else .err "OutOfBounds") H Q E
/-- kept([..]) -/
theorem el_kept {K : PySem.W.Frag} {σ : L2.St} {H : Hp} {te : TE} {ns : List Int} {E : XK} (h : EvL te σ H (ns.map V.int)) (ha : allM ns = true) : EvL (tCall (sp_kept K) [] E (tCons te tNil)) σ H (ns.map V.int) := fun H1 e Q q =>
  h H1 e _ fun p H2 hp e2 h2 => ⟨p, ns, rfl, h2, by
    rw [ha, if_pos rfl]
    exact fun H3 e3 => q p H3 hp (e2.trans e3) (e3 _ _ h2)⟩
theorem rz_kept {K : PySem.W.Frag} {σ : L2.St} {H : Hp} {te : TE} {ns : List Int} {E : XK} (h : EvL te σ H (ns.map V.int)) (ha : allM ns = false) (he : ∀ H2, Ex H H2 → E (.ref (He.ga K "OutOfBounds")) none H2) : Rz (tCall (sp_kept K) [] E (tCons te tNil)) σ H := fun H1 e Q =>
  h H1 e _ fun p H2 hp e2 h2 => ⟨p, ns, rfl, h2, by
    rw [ha]
    exact fun H3 e3 => he H3 ((e.trans e2).trans e3)⟩
def keptRe (ns : List Int) : Re := if allM ns then .lst (ns.map V.int) else .err "OutOfBounds"
theorem s_retKept {K : PySem.W.Frag} {σ : L2.St} {H H0 : Hp} {te : TE} {ns : List Int} {E : XK} {Q : VK} {D : Ends} (h : EvL te σ H (ns.map V.int)) (e0 : Ex H0 H) (q : Give K (keptRe ns) H0 Q E) (hD : D.rt = Q) : tRet (tCall (sp_kept K) [] E (tCons te tNil)) D σ H := by
  unfold keptRe at q
  by_cases ha : allM ns = true
  · rw [ha, if_pos rfl] at q
    exact s_retL (el_kept h ha) fun p H3 hp e3 h3 => by
      rw [hD]
      exact q p H3 (fresh_back e0 hp) (e0.trans e3) h3
  · have ha : allM ns = false := by simpa using ha
    rw [ha] at q
    exact x_ret (rz_kept h ha fun H2 e2 => q H2 (e0.trans e2))
/-! slices from and to a place -/
theorem cut_from (xs : List V) (s : Nat) : cutV xs (some (s : Int)) none = xs.drop s := by
  unfold cutV
  rw [HT.sIx_nat, HT.sIx_none]
  by_cases h : s ≤ xs.length
  · rw [Nat.min_eq_left h, List.take_of_length_le (by rw [List.length_drop]; exact Nat.le_refl _)]
  · rw [Nat.min_eq_right (by omega), List.drop_of_length_le (Nat.le_refl _), List.drop_of_length_le (by omega), List.take_nil]
theorem cut_to (xs : List V) (s : Nat) : cutV xs none (some (s : Int)) = xs.take s := by
  unfold cutV
  rw [HT.sIx_none, HT.sIx_nat]
  by_cases h : s ≤ xs.length
  · rw [Nat.min_eq_left h]
    rfl
  · rw [Nat.min_eq_right (by omega), List.drop_zero, Nat.sub_zero, List.take_of_length_le (Nat.le_refl _), List.take_of_length_le (by omega)]
/-- a new list made of two new ones -/
theorem el_cat {σ : L2.St} {H : Hp} {ta tb : TE} {xs ys : List V} (h1 : EvL ta σ H xs) (h2 : EvL tb σ H ys) (hl : xs.length + ys.length ≤ 100000) : EvL (tOp rCat ta tb) σ H (xs ++ ys) := fun H1 e Q q =>
  h1 H1 e _ fun p H2 hp e2 g1 => h2 H2 (e.trans e2) _ fun r H3 hr e3 g2 => ⟨p, r, xs, ys, rfl, rfl, e3 _ _ g1, g2, sz_of hl, fun u hu => q u _ (fresh_back (e2.trans e3) hu) ((e2.trans e3).trans (Ex.new hu)) upd_same⟩
def turnI (ns : List Int) (k : Int) : List Int := ns.drop (k % (ns.length : Int)).toNat ++ ns.take (k % (ns.length : Int)).toNat
def numRe (v : V) (f : Int → Re) : Re := match v with
  | .int i => if inM v then f i else .err "OutOfBounds"
  | _ => .err "OutOfBounds"
def sp_turned (K : PySem.W.Frag) : Sp := fun vs H Q E => ∃ v o k, vs = [v, k] ∧ Row H v o ∧ Kd H k ∧ Give K (doorRe o fun ns => numRe k fun i => .lst ((turnI ns i).map V.int)) H Q E
def sp_lifted (K : PySem.W.Frag) : Sp := fun vs H Q E => ∃ v o k, vs = [v, k] ∧ Row H v o ∧ Kd H k ∧ Give K (doorRe o fun ns => numRe k fun i => keptRe (ns.map (· + i))) H Q E
theorem num_bad {v : V} {f : Int → Re} (h : inM v = false) : numRe v f = .err "OutOfBounds" := by
  cases v with
  | int i =>
    show (if inM (.int i) then f i else .err "OutOfBounds") = _
    rw [h]
    rfl
  | _ => rfl
theorem num_good {v : V} {f : Int → Re} (h : inM v = true) : ∃ i, v = .int i ∧ numRe v f = f i := by
  cases v with
  | int i =>
    refine ⟨i, rfl, ?_⟩
    show (if inM (.int i) then f i else .err "OutOfBounds") = _
    rw [h, if_pos rfl]
  | _ => cases h
end TB

/-! ### the laws' own makers: cells, sizes, spots, throws -/
namespace TB
open PySem PySem.Spec PyProof.Rows L2 Evl
def sp_cell (K : PySem.W.Frag) : Sp := fun vs H Q E => ∃ (a : Addr) (ns : List Int) (k : Nat), vs = [.ref a, .int (k : Int)] ∧ SqL K H a (ns.map V.int) ∧ RetV (.int (ns.getD k 0)) H Q
theorem sv_cell {K : PySem.W.Frag} {H : Hp} {a : Addr} {ns : List Int} {k : Nat} (h : SqL K H a (ns.map V.int)) : SpV (sp_cell K) [.ref a, .int (k : Int)] H (.int (ns.getD k 0)) := spv_of fun H1 e Q E q => ⟨a, ns, k, rfl, ex_l e h, q⟩
theorem sc__law_cell_at : FnScope ["_law_script", "_law_k"] ["_law_script", "_law_k"] (defScope s__law_cell_at) := ⟨rfl, rfl, rfl, by decide +kernel, rfl, by decide +kernel, by decide +kernel⟩
theorem ok__law_cell_at {P : Program} {w : World} {K : PySem.W.Frag} {mg : Str → Option Value} {base : Heap} (T : TXT K mg) : OK P w K mg base "_law_cell_at" ["_law_script", "_law_k"] 1 (sp_cell K) := by
  obtain ⟨fd, F⟩ := T.def_ 9
  refine ⟨_, fd, T.glo 8, F.kp, F.bindsN (fun _ _ _ _ _ _ us hl => match us, hl with | [_, _], _ => rfl), F.ok sc__law_cell_at (fun vs H Q E h => ?_) (fun cdv A outer s H vs Q E hr h => ?_), F.bindsA (fun _ _ _ _ _ _ us hl => match us, hl with | [_, _], _ => rfl)⟩
  · first | (obtain ⟨rfl, _⟩ := h; rfl) | (obtain ⟨_, rfl, _⟩ := h; rfl) | (obtain ⟨_, _, rfl, _⟩ := h; rfl) | (obtain ⟨_, _, _, rfl, _⟩ := h; rfl) | (obtain ⟨_, _, _, _, rfl, _⟩ := h; rfl) | (obtain ⟨_, _, _, _, _, rfl, _⟩ := h; rfl) | (obtain ⟨_, _, _, _, _, _, rfl, _⟩ := h; rfl) | (obtain ⟨_, _, _, _, _, _, _, rfl, _⟩ := h; rfl) | (obtain ⟨_, _, _, _, _, _, _, _, rfl, _⟩ := h; rfl)
  · replace F : FunD K "_law_cell_at" "_law_cell_at" (defArgs s__law_cell_at) (defBody s__law_cell_at) (defScope s__law_cell_at) [] [] (He.ga K "_law_cell_at") fd := F
    refine ⟨_, (pss_cons (ps_if (pt_cmpR op_lt (pv 1) (pe_callB (id := "len") (k_len K) (by rfl) (T.free 28) (by decide +kernel) (pa_cons (pv 0) pa_nil)) (nomark _))
        (pss_one (ps_ret (pe_ix (k_ixL K) (pv 0) (pv 1) (fun _ _ => rfl))))
        pss_nil)
      (pss_one (ps_ret pe_int))), ?_⟩
    obtain ⟨a, ns, k, rfl, hs, q⟩ := h
    dsimp only [cxOf, L2.start, List.map_cons, List.map_nil, List.length_cons, List.length_nil, Nat.reduceAdd, Nat.reduceSub, List.replicate_succ, List.replicate_zero, List.cons_append, List.nil_append, Nat.zero_add, List.reduceReplicate, List.map]
    refine q_when (b := decide ((k : Int) < (ns.length : Int))) ?_ (fun hb H1 e1 => ?_) (fun hb H1 e1 => ?_)
    · apply et_is
      · (repeat' (first | with_reducible exact ev_c | ((with_reducible show Ev (tVar _) _ _ _); exact ev_var rfl) | with_reducible exact ea_nil | with_reducible exact eo_none | with_reducible refine' ea_cons ?_ ?_ | with_reducible refine' eo_some ?_ | with_reducible refine' ev_and2 ?_ ?_ | with_reducible refine' ev_or2 ?_ ?_ | with_reducible refine' ev_notV ?_ | with_reducible exact ru_I | with_reducible refine' ev_un ?_ ?_ | with_reducible exact rv_I0 | with_reducible exact rv_isN | with_reducible exact rv_notN | with_reducible refine' rv_I ?_ | with_reducible refine' rv_eq ?_ | with_reducible refine' rv_ne ?_ | with_reducible refine' ev_op ?_ ?_ ?_ | with_reducible refine' ev_chain2 ?_ ?_ ?_ ?_ ?_ | with_reducible refine' et_B ?_ | with_reducible refine' et_test ?_ | with_reducible refine' et_and2 ?_ ?_ | with_reducible refine' et_or2 ?_ ?_ | with_reducible refine' et_not ?_ | with_reducible refine' ev_call ?_ ?_ | with_reducible refine' ev_callS ?_ ?_ | with_reducible refine' ev_cb ?_ ?_ | with_reducible exact isi_bool (by assumption) | with_reducible exact isi_int (by assumption) | with_reducible exact isi_list (by assumption) | with_reducible exact rc_len (by assumption) | with_reducible exact rc_sum (by assumption) | with_reducible exact rc_abs | with_reducible exact isi_listL (by assumption) | with_reducible exact isi_intI | with_reducible exact isi_boolI | with_reducible exact rc_lenT (by assumption) | with_reducible exact isi_tup (by assumption) | with_reducible exact rv_eqL (by assumption) (by assumption) | with_reducible exact rv_neL (by assumption) (by assumption) | with_reducible exact rv_neT (by assumption) (by assumption) | with_reducible exact rv_ixL (by assumption) (by assumption) | with_reducible exact rv_ixT (by assumption) (by assumption) | with_reducible refine' ev_din ?_ ?_ (by assumption) | with_reducible refine' ev_dnotin ?_ ?_ (by assumption) | with_reducible refine' ev_dget ?_ ?_ (by assumption) (by assumption) | ((with_reducible show SpV _ _ _ _); assumption) | ((with_reducible show RV _ _ _ _ _); assumption) | ((with_reducible show RC _ _ _ _); assumption) | ((with_reducible show CDiv _ _); exact ⟨by omega, by omega⟩) | ((with_reducible show CMul _ _); first | exact .inl ⟨by omega, by omega⟩ | exact .inr ⟨by omega, by omega⟩) | ((with_reducible show CPow _ _); exact ⟨by omega, by omega, by decide⟩) | ((with_reducible show (0 : Int) < _); omega) | ((with_reducible show (0 : Int) ≤ _); omega) | ((with_reducible show scal _ _ = true); rfl)))
      · rw [List.length_map]
    · have hk : k < ns.length := by
        have := of_decide_eq_true hb
        omega
      have hs1 := ex_l e1 hs
      have g := atI_int hk
      exact s_ret (by (repeat' (first | with_reducible exact ev_c | ((with_reducible show Ev (tVar _) _ _ _); exact ev_var rfl) | with_reducible exact ea_nil | with_reducible exact eo_none | with_reducible refine' ea_cons ?_ ?_ | with_reducible refine' eo_some ?_ | with_reducible refine' ev_and2 ?_ ?_ | with_reducible refine' ev_or2 ?_ ?_ | with_reducible refine' ev_notV ?_ | with_reducible exact ru_I | with_reducible refine' ev_un ?_ ?_ | with_reducible exact rv_I0 | with_reducible exact rv_isN | with_reducible exact rv_notN | with_reducible refine' rv_I ?_ | with_reducible refine' rv_eq ?_ | with_reducible refine' rv_ne ?_ | with_reducible refine' ev_op ?_ ?_ ?_ | with_reducible refine' ev_chain2 ?_ ?_ ?_ ?_ ?_ | with_reducible refine' et_B ?_ | with_reducible refine' et_test ?_ | with_reducible refine' et_and2 ?_ ?_ | with_reducible refine' et_or2 ?_ ?_ | with_reducible refine' et_not ?_ | with_reducible refine' ev_call ?_ ?_ | with_reducible refine' ev_callS ?_ ?_ | with_reducible refine' ev_cb ?_ ?_ | with_reducible exact isi_bool (by assumption) | with_reducible exact isi_int (by assumption) | with_reducible exact isi_list (by assumption) | with_reducible exact rc_len (by assumption) | with_reducible exact rc_sum (by assumption) | with_reducible exact rc_abs | with_reducible exact isi_listL (by assumption) | with_reducible exact isi_intI | with_reducible exact isi_boolI | with_reducible exact rc_lenT (by assumption) | with_reducible exact isi_tup (by assumption) | with_reducible exact rv_eqL (by assumption) (by assumption) | with_reducible exact rv_neL (by assumption) (by assumption) | with_reducible exact rv_neT (by assumption) (by assumption) | with_reducible exact rv_ixL (by assumption) (by assumption) | with_reducible exact rv_ixT (by assumption) (by assumption) | with_reducible refine' ev_din ?_ ?_ (by assumption) | with_reducible refine' ev_dnotin ?_ ?_ (by assumption) | with_reducible refine' ev_dget ?_ ?_ (by assumption) (by assumption) | ((with_reducible show SpV _ _ _ _); assumption) | ((with_reducible show RV _ _ _ _ _); assumption) | ((with_reducible show RC _ _ _ _); assumption) | ((with_reducible show CDiv _ _); exact ⟨by omega, by omega⟩) | ((with_reducible show CMul _ _); first | exact .inl ⟨by omega, by omega⟩ | exact .inr ⟨by omega, by omega⟩) | ((with_reducible show CPow _ _); exact ⟨by omega, by omega, by decide⟩) | ((with_reducible show (0 : Int) < _); omega) | ((with_reducible show (0 : Int) ≤ _); omega) | ((with_reducible show scal _ _ = true); rfl)))) fun H2 e2 => q H2 (e1.trans e2)
    · have hk : ¬ k < ns.length := by
        have := of_decide_eq_false hb
        omega
      have z : ns.getD k 0 = 0 := by
        rw [List.getD_eq_getElem?_getD, List.getElem?_eq_none (by omega)]
        rfl
      rw [z] at q
      exact s_ret (by (repeat' (first | with_reducible exact ev_c | ((with_reducible show Ev (tVar _) _ _ _); exact ev_var rfl) | with_reducible exact ea_nil | with_reducible exact eo_none | with_reducible refine' ea_cons ?_ ?_ | with_reducible refine' eo_some ?_ | with_reducible refine' ev_and2 ?_ ?_ | with_reducible refine' ev_or2 ?_ ?_ | with_reducible refine' ev_notV ?_ | with_reducible exact ru_I | with_reducible refine' ev_un ?_ ?_ | with_reducible exact rv_I0 | with_reducible exact rv_isN | with_reducible exact rv_notN | with_reducible refine' rv_I ?_ | with_reducible refine' rv_eq ?_ | with_reducible refine' rv_ne ?_ | with_reducible refine' ev_op ?_ ?_ ?_ | with_reducible refine' ev_chain2 ?_ ?_ ?_ ?_ ?_ | with_reducible refine' et_B ?_ | with_reducible refine' et_test ?_ | with_reducible refine' et_and2 ?_ ?_ | with_reducible refine' et_or2 ?_ ?_ | with_reducible refine' et_not ?_ | with_reducible refine' ev_call ?_ ?_ | with_reducible refine' ev_callS ?_ ?_ | with_reducible refine' ev_cb ?_ ?_ | with_reducible exact isi_bool (by assumption) | with_reducible exact isi_int (by assumption) | with_reducible exact isi_list (by assumption) | with_reducible exact rc_len (by assumption) | with_reducible exact rc_sum (by assumption) | with_reducible exact rc_abs | with_reducible exact isi_listL (by assumption) | with_reducible exact isi_intI | with_reducible exact isi_boolI | with_reducible exact rc_lenT (by assumption) | with_reducible exact isi_tup (by assumption) | with_reducible exact rv_eqL (by assumption) (by assumption) | with_reducible exact rv_neL (by assumption) (by assumption) | with_reducible exact rv_neT (by assumption) (by assumption) | with_reducible exact rv_ixL (by assumption) (by assumption) | with_reducible exact rv_ixT (by assumption) (by assumption) | with_reducible refine' ev_din ?_ ?_ (by assumption) | with_reducible refine' ev_dnotin ?_ ?_ (by assumption) | with_reducible refine' ev_dget ?_ ?_ (by assumption) (by assumption) | ((with_reducible show SpV _ _ _ _); assumption) | ((with_reducible show RV _ _ _ _ _); assumption) | ((with_reducible show RC _ _ _ _); assumption) | ((with_reducible show CDiv _ _); exact ⟨by omega, by omega⟩) | ((with_reducible show CMul _ _); first | exact .inl ⟨by omega, by omega⟩ | exact .inr ⟨by omega, by omega⟩) | ((with_reducible show CPow _ _); exact ⟨by omega, by omega, by decide⟩) | ((with_reducible show (0 : Int) < _); omega) | ((with_reducible show (0 : Int) ≤ _); omega) | ((with_reducible show scal _ _ = true); rfl)))) fun H2 e2 => q H2 (e1.trans e2)

def mixed (c k : Int) : Int := ((c + 977 * k + 31) * 48271 % 2147483647) * ((c + 977 * k + 31) * 48271 % 2147483647) % 2147483629
theorem mixed_nn (c k : Int) : 0 ≤ mixed c k := Int.emod_nonneg _ (by decide)
theorem mixed_lt (c k : Int) : mixed c k < 2147483629 := Int.emod_lt_of_pos _ (by decide)
def sp_mixed : Sp := fun vs H Q E => ∃ (c k : Int), vs = [.int c, .int k] ∧ RetV (.int (mixed c k)) H Q
theorem sv_mixed {H : Hp} {c k : Int} : SpV sp_mixed [.int c, .int k] H (.int (mixed c k)) := spv_of fun H1 e Q E q => ⟨c, k, rfl, q⟩
theorem sc__law_mixed : FnScope ["_law_cell", "_law_k", "_law_found"] ["_law_cell", "_law_k"] (defScope s__law_mixed) := ⟨rfl, rfl, rfl, by decide +kernel, rfl, by decide +kernel, by decide +kernel⟩
theorem ok__law_mixed {P : Program} {w : World} {K : PySem.W.Frag} {mg : Str → Option Value} {base : Heap} (T : TXT K mg) : OK P w K mg base "_law_mixed" ["_law_cell", "_law_k"] 1 (sp_mixed) := by
  obtain ⟨fd, F⟩ := T.def_ 10
  refine ⟨_, fd, T.glo 9, F.kp, F.bindsN (fun _ _ _ _ _ _ us hl => match us, hl with | [_, _], _ => rfl), F.ok sc__law_mixed (fun vs H Q E h => ?_) (fun cdv A outer s H vs Q E hr h => ?_), F.bindsA (fun _ _ _ _ _ _ us hl => match us, hl with | [_, _], _ => rfl)⟩
  · first | (obtain ⟨rfl, _⟩ := h; rfl) | (obtain ⟨_, rfl, _⟩ := h; rfl) | (obtain ⟨_, _, rfl, _⟩ := h; rfl) | (obtain ⟨_, _, _, rfl, _⟩ := h; rfl) | (obtain ⟨_, _, _, _, rfl, _⟩ := h; rfl) | (obtain ⟨_, _, _, _, _, rfl, _⟩ := h; rfl) | (obtain ⟨_, _, _, _, _, _, rfl, _⟩ := h; rfl) | (obtain ⟨_, _, _, _, _, _, _, rfl, _⟩ := h; rfl) | (obtain ⟨_, _, _, _, _, _, _, _, rfl, _⟩ := h; rfl)
  · replace F : FunD K "_law_mixed" "_law_mixed" (defArgs s__law_mixed) (defBody s__law_mixed) (defScope s__law_mixed) [] [] (He.ga K "_law_mixed") fd := F
    refine ⟨_, (pss_cons (ps_set (i := 2) sc__law_mixed.nd rfl (Or.inl rfl) (pe_op op_mod (pe_op op_mul (pe_op op_add (pe_op op_add (pv 0) (pe_op op_mul pe_int (pv 1))) pe_int) pe_int) pe_int))
      (pss_one (ps_ret (pe_op op_mod (pe_op op_mul (pv 2) (pv 2)) pe_int)))), ?_⟩
    obtain ⟨c, k, rfl, q⟩ := h
    dsimp only [cxOf, L2.start, List.map_cons, List.map_nil, List.length_cons, List.length_nil, Nat.reduceAdd, Nat.reduceSub, List.replicate_succ, List.replicate_zero, List.cons_append, List.nil_append, Nat.zero_add, List.reduceReplicate, List.map]
    refine q_asg (v := .int ((c + 977 * k + 31) * 48271 % 2147483647)) ?_ fun H1 e1 => ?_
    · (repeat' (first | with_reducible exact ev_c | ((with_reducible show Ev (tVar _) _ _ _); exact ev_var rfl) | with_reducible exact ea_nil | with_reducible exact eo_none | with_reducible refine' ea_cons ?_ ?_ | with_reducible refine' eo_some ?_ | with_reducible refine' ev_and2 ?_ ?_ | with_reducible refine' ev_or2 ?_ ?_ | with_reducible refine' ev_notV ?_ | with_reducible exact ru_I | with_reducible refine' ev_un ?_ ?_ | with_reducible exact rv_I0 | with_reducible exact rv_isN | with_reducible exact rv_notN | with_reducible refine' rv_I ?_ | with_reducible refine' rv_eq ?_ | with_reducible refine' rv_ne ?_ | with_reducible refine' ev_op ?_ ?_ ?_ | with_reducible refine' ev_chain2 ?_ ?_ ?_ ?_ ?_ | with_reducible refine' et_B ?_ | with_reducible refine' et_test ?_ | with_reducible refine' et_and2 ?_ ?_ | with_reducible refine' et_or2 ?_ ?_ | with_reducible refine' et_not ?_ | with_reducible refine' ev_call ?_ ?_ | with_reducible refine' ev_callS ?_ ?_ | with_reducible refine' ev_cb ?_ ?_ | with_reducible exact isi_bool (by assumption) | with_reducible exact isi_int (by assumption) | with_reducible exact isi_list (by assumption) | with_reducible exact rc_len (by assumption) | with_reducible exact rc_sum (by assumption) | with_reducible exact rc_abs | with_reducible exact isi_listL (by assumption) | with_reducible exact isi_intI | with_reducible exact isi_boolI | with_reducible exact rc_lenT (by assumption) | with_reducible exact isi_tup (by assumption) | with_reducible exact rv_eqL (by assumption) (by assumption) | with_reducible exact rv_neL (by assumption) (by assumption) | with_reducible exact rv_neT (by assumption) (by assumption) | with_reducible exact rv_ixL (by assumption) (by assumption) | with_reducible exact rv_ixT (by assumption) (by assumption) | with_reducible refine' ev_din ?_ ?_ (by assumption) | with_reducible refine' ev_dnotin ?_ ?_ (by assumption) | with_reducible refine' ev_dget ?_ ?_ (by assumption) (by assumption) | ((with_reducible show SpV _ _ _ _); assumption) | ((with_reducible show RV _ _ _ _ _); assumption) | ((with_reducible show RC _ _ _ _); assumption) | ((with_reducible show CDiv _ _); exact ⟨by omega, by omega⟩) | ((with_reducible show CMul _ _); first | exact .inl ⟨by omega, by omega⟩ | exact .inr ⟨by omega, by omega⟩) | ((with_reducible show CPow _ _); exact ⟨by omega, by omega, by decide⟩) | ((with_reducible show (0 : Int) < _); omega) | ((with_reducible show (0 : Int) ≤ _); omega) | ((with_reducible show scal _ _ = true); rfl)))
    · have h1 : 0 ≤ (c + 977 * k + 31) * 48271 % 2147483647 := Int.emod_nonneg _ (by decide)
      have h2 : (c + 977 * k + 31) * 48271 % 2147483647 < 2147483647 := Int.emod_lt_of_pos _ (by decide)
      refine s_ret (v := .int (mixed c k)) ?_ fun H2 e2 => q H2 (e1.trans e2)
      apply ev_is
      · (repeat' (first | with_reducible exact ev_c | ((with_reducible show Ev (tVar _) _ _ _); exact ev_var rfl) | with_reducible exact ea_nil | with_reducible exact eo_none | with_reducible refine' ea_cons ?_ ?_ | with_reducible refine' eo_some ?_ | with_reducible refine' ev_and2 ?_ ?_ | with_reducible refine' ev_or2 ?_ ?_ | with_reducible refine' ev_notV ?_ | with_reducible exact ru_I | with_reducible refine' ev_un ?_ ?_ | with_reducible exact rv_I0 | with_reducible exact rv_isN | with_reducible exact rv_notN | with_reducible refine' rv_I ?_ | with_reducible refine' rv_eq ?_ | with_reducible refine' rv_ne ?_ | with_reducible refine' ev_op ?_ ?_ ?_ | with_reducible refine' ev_chain2 ?_ ?_ ?_ ?_ ?_ | with_reducible refine' et_B ?_ | with_reducible refine' et_test ?_ | with_reducible refine' et_and2 ?_ ?_ | with_reducible refine' et_or2 ?_ ?_ | with_reducible refine' et_not ?_ | with_reducible refine' ev_call ?_ ?_ | with_reducible refine' ev_callS ?_ ?_ | with_reducible refine' ev_cb ?_ ?_ | with_reducible exact isi_bool (by assumption) | with_reducible exact isi_int (by assumption) | with_reducible exact isi_list (by assumption) | with_reducible exact rc_len (by assumption) | with_reducible exact rc_sum (by assumption) | with_reducible exact rc_abs | with_reducible exact isi_listL (by assumption) | with_reducible exact isi_intI | with_reducible exact isi_boolI | with_reducible exact rc_lenT (by assumption) | with_reducible exact isi_tup (by assumption) | with_reducible exact rv_eqL (by assumption) (by assumption) | with_reducible exact rv_neL (by assumption) (by assumption) | with_reducible exact rv_neT (by assumption) (by assumption) | with_reducible exact rv_ixL (by assumption) (by assumption) | with_reducible exact rv_ixT (by assumption) (by assumption) | with_reducible refine' ev_din ?_ ?_ (by assumption) | with_reducible refine' ev_dnotin ?_ ?_ (by assumption) | with_reducible refine' ev_dget ?_ ?_ (by assumption) (by assumption) | ((with_reducible show SpV _ _ _ _); assumption) | ((with_reducible show RV _ _ _ _ _); assumption) | ((with_reducible show RC _ _ _ _); assumption) | ((with_reducible show CDiv _ _); exact ⟨by omega, by omega⟩) | ((with_reducible show CMul _ _); first | exact .inl ⟨by omega, by omega⟩ | exact .inr ⟨by omega, by omega⟩) | ((with_reducible show CPow _ _); exact ⟨by omega, by omega, by decide⟩) | ((with_reducible show (0 : Int) < _); omega) | ((with_reducible show (0 : Int) ≤ _); omega) | ((with_reducible show scal _ _ = true); rfl)))
      · rfl

def sizeBy (c : Int) : Int := if c % 4 = 1 then 1 + c / 4 % 60 else 1 + c / 4 % 9
theorem sizeBy_1 (c : Int) : 1 ≤ sizeBy c := by
  unfold sizeBy
  split <;> omega
theorem sizeBy_60 (c : Int) : sizeBy c ≤ 60 := by
  unfold sizeBy
  split <;> omega
def sp_size : Sp := fun vs H Q E => ∃ (c : Int), vs = [.int c] ∧ RetV (.int (sizeBy c)) H Q
theorem sv_size {H : Hp} {c : Int} : SpV sp_size [.int c] H (.int (sizeBy c)) := spv_of fun H1 e Q E q => ⟨c, rfl, q⟩
theorem sc__law_size_by : FnScope ["_law_cell"] ["_law_cell"] (defScope s__law_size_by) := ⟨rfl, rfl, rfl, by decide +kernel, rfl, by decide +kernel, by decide +kernel⟩
theorem ok__law_size_by {P : Program} {w : World} {K : PySem.W.Frag} {mg : Str → Option Value} {base : Heap} (T : TXT K mg) : OK P w K mg base "_law_size_by" ["_law_cell"] 1 (sp_size) := by
  obtain ⟨fd, F⟩ := T.def_ 11
  refine ⟨_, fd, T.glo 10, F.kp, F.bindsN (fun _ _ _ _ _ _ us hl => match us, hl with | [_], _ => rfl), F.ok sc__law_size_by (fun vs H Q E h => ?_) (fun cdv A outer s H vs Q E hr h => ?_), F.bindsA (fun _ _ _ _ _ _ us hl => match us, hl with | [_], _ => rfl)⟩
  · first | (obtain ⟨rfl, _⟩ := h; rfl) | (obtain ⟨_, rfl, _⟩ := h; rfl) | (obtain ⟨_, _, rfl, _⟩ := h; rfl) | (obtain ⟨_, _, _, rfl, _⟩ := h; rfl) | (obtain ⟨_, _, _, _, rfl, _⟩ := h; rfl) | (obtain ⟨_, _, _, _, _, rfl, _⟩ := h; rfl) | (obtain ⟨_, _, _, _, _, _, rfl, _⟩ := h; rfl) | (obtain ⟨_, _, _, _, _, _, _, rfl, _⟩ := h; rfl) | (obtain ⟨_, _, _, _, _, _, _, _, rfl, _⟩ := h; rfl)
  · replace F : FunD K "_law_size_by" "_law_size_by" (defArgs s__law_size_by) (defBody s__law_size_by) (defScope s__law_size_by) [] [] (He.ga K "_law_size_by") fd := F
    refine ⟨_, (pss_cons (ps_if (pt_cmpR op_eq (pe_op op_mod (pv 0) pe_int) pe_int (nomark _))
        (pss_one (ps_ret (pe_op op_add pe_int (pe_op op_mod (pe_op op_fdiv (pv 0) pe_int) pe_int))))
        pss_nil)
      (pss_one (ps_ret (pe_op op_add pe_int (pe_op op_mod (pe_op op_fdiv (pv 0) pe_int) pe_int))))), ?_⟩
    obtain ⟨c, rfl, q⟩ := h
    dsimp only [cxOf, L2.start, List.map_cons, List.map_nil, List.length_cons, List.length_nil, Nat.reduceAdd, Nat.reduceSub, List.replicate_succ, List.replicate_zero, List.cons_append, List.nil_append, Nat.zero_add, List.reduceReplicate, List.map]
    refine q_when (b := decide (c % 4 = 1)) ?_ (fun hb H1 e1 => ?_) (fun hb H1 e1 => ?_)
    · apply et_is
      · (repeat' (first | with_reducible exact ev_c | ((with_reducible show Ev (tVar _) _ _ _); exact ev_var rfl) | with_reducible exact ea_nil | with_reducible exact eo_none | with_reducible refine' ea_cons ?_ ?_ | with_reducible refine' eo_some ?_ | with_reducible refine' ev_and2 ?_ ?_ | with_reducible refine' ev_or2 ?_ ?_ | with_reducible refine' ev_notV ?_ | with_reducible exact ru_I | with_reducible refine' ev_un ?_ ?_ | with_reducible exact rv_I0 | with_reducible exact rv_isN | with_reducible exact rv_notN | with_reducible refine' rv_I ?_ | with_reducible refine' rv_eq ?_ | with_reducible refine' rv_ne ?_ | with_reducible refine' ev_op ?_ ?_ ?_ | with_reducible refine' ev_chain2 ?_ ?_ ?_ ?_ ?_ | with_reducible refine' et_B ?_ | with_reducible refine' et_test ?_ | with_reducible refine' et_and2 ?_ ?_ | with_reducible refine' et_or2 ?_ ?_ | with_reducible refine' et_not ?_ | with_reducible refine' ev_call ?_ ?_ | with_reducible refine' ev_callS ?_ ?_ | with_reducible refine' ev_cb ?_ ?_ | with_reducible exact isi_bool (by assumption) | with_reducible exact isi_int (by assumption) | with_reducible exact isi_list (by assumption) | with_reducible exact rc_len (by assumption) | with_reducible exact rc_sum (by assumption) | with_reducible exact rc_abs | with_reducible exact isi_listL (by assumption) | with_reducible exact isi_intI | with_reducible exact isi_boolI | with_reducible exact rc_lenT (by assumption) | with_reducible exact isi_tup (by assumption) | with_reducible exact rv_eqL (by assumption) (by assumption) | with_reducible exact rv_neL (by assumption) (by assumption) | with_reducible exact rv_neT (by assumption) (by assumption) | with_reducible exact rv_ixL (by assumption) (by assumption) | with_reducible exact rv_ixT (by assumption) (by assumption) | with_reducible refine' ev_din ?_ ?_ (by assumption) | with_reducible refine' ev_dnotin ?_ ?_ (by assumption) | with_reducible refine' ev_dget ?_ ?_ (by assumption) (by assumption) | ((with_reducible show SpV _ _ _ _); assumption) | ((with_reducible show RV _ _ _ _ _); assumption) | ((with_reducible show RC _ _ _ _); assumption) | ((with_reducible show CDiv _ _); exact ⟨by omega, by omega⟩) | ((with_reducible show CMul _ _); first | exact .inl ⟨by omega, by omega⟩ | exact .inr ⟨by omega, by omega⟩) | ((with_reducible show CPow _ _); exact ⟨by omega, by omega, by decide⟩) | ((with_reducible show (0 : Int) < _); omega) | ((with_reducible show (0 : Int) ≤ _); omega) | ((with_reducible show scal _ _ = true); rfl)))
      · exact dec_int.trans (by rw [Bool.eq_iff_iff]; simp)
    · have z : sizeBy c = 1 + c / 4 % 60 := if_pos (of_decide_eq_true hb)
      rw [z] at q
      refine s_ret ?_ fun H2 e2 => q H2 (e1.trans e2)
      (repeat' (first | with_reducible exact ev_c | ((with_reducible show Ev (tVar _) _ _ _); exact ev_var rfl) | with_reducible exact ea_nil | with_reducible exact eo_none | with_reducible refine' ea_cons ?_ ?_ | with_reducible refine' eo_some ?_ | with_reducible refine' ev_and2 ?_ ?_ | with_reducible refine' ev_or2 ?_ ?_ | with_reducible refine' ev_notV ?_ | with_reducible exact ru_I | with_reducible refine' ev_un ?_ ?_ | with_reducible exact rv_I0 | with_reducible exact rv_isN | with_reducible exact rv_notN | with_reducible refine' rv_I ?_ | with_reducible refine' rv_eq ?_ | with_reducible refine' rv_ne ?_ | with_reducible refine' ev_op ?_ ?_ ?_ | with_reducible refine' ev_chain2 ?_ ?_ ?_ ?_ ?_ | with_reducible refine' et_B ?_ | with_reducible refine' et_test ?_ | with_reducible refine' et_and2 ?_ ?_ | with_reducible refine' et_or2 ?_ ?_ | with_reducible refine' et_not ?_ | with_reducible refine' ev_call ?_ ?_ | with_reducible refine' ev_callS ?_ ?_ | with_reducible refine' ev_cb ?_ ?_ | with_reducible exact isi_bool (by assumption) | with_reducible exact isi_int (by assumption) | with_reducible exact isi_list (by assumption) | with_reducible exact rc_len (by assumption) | with_reducible exact rc_sum (by assumption) | with_reducible exact rc_abs | with_reducible exact isi_listL (by assumption) | with_reducible exact isi_intI | with_reducible exact isi_boolI | with_reducible exact rc_lenT (by assumption) | with_reducible exact isi_tup (by assumption) | with_reducible exact rv_eqL (by assumption) (by assumption) | with_reducible exact rv_neL (by assumption) (by assumption) | with_reducible exact rv_neT (by assumption) (by assumption) | with_reducible exact rv_ixL (by assumption) (by assumption) | with_reducible exact rv_ixT (by assumption) (by assumption) | with_reducible refine' ev_din ?_ ?_ (by assumption) | with_reducible refine' ev_dnotin ?_ ?_ (by assumption) | with_reducible refine' ev_dget ?_ ?_ (by assumption) (by assumption) | ((with_reducible show SpV _ _ _ _); assumption) | ((with_reducible show RV _ _ _ _ _); assumption) | ((with_reducible show RC _ _ _ _); assumption) | ((with_reducible show CDiv _ _); exact ⟨by omega, by omega⟩) | ((with_reducible show CMul _ _); first | exact .inl ⟨by omega, by omega⟩ | exact .inr ⟨by omega, by omega⟩) | ((with_reducible show CPow _ _); exact ⟨by omega, by omega, by decide⟩) | ((with_reducible show (0 : Int) < _); omega) | ((with_reducible show (0 : Int) ≤ _); omega) | ((with_reducible show scal _ _ = true); rfl)))
    · have z : sizeBy c = 1 + c / 4 % 9 := if_neg (of_decide_eq_false hb)
      rw [z] at q
      refine s_ret ?_ fun H2 e2 => q H2 (e1.trans e2)
      (repeat' (first | with_reducible exact ev_c | ((with_reducible show Ev (tVar _) _ _ _); exact ev_var rfl) | with_reducible exact ea_nil | with_reducible exact eo_none | with_reducible refine' ea_cons ?_ ?_ | with_reducible refine' eo_some ?_ | with_reducible refine' ev_and2 ?_ ?_ | with_reducible refine' ev_or2 ?_ ?_ | with_reducible refine' ev_notV ?_ | with_reducible exact ru_I | with_reducible refine' ev_un ?_ ?_ | with_reducible exact rv_I0 | with_reducible exact rv_isN | with_reducible exact rv_notN | with_reducible refine' rv_I ?_ | with_reducible refine' rv_eq ?_ | with_reducible refine' rv_ne ?_ | with_reducible refine' ev_op ?_ ?_ ?_ | with_reducible refine' ev_chain2 ?_ ?_ ?_ ?_ ?_ | with_reducible refine' et_B ?_ | with_reducible refine' et_test ?_ | with_reducible refine' et_and2 ?_ ?_ | with_reducible refine' et_or2 ?_ ?_ | with_reducible refine' et_not ?_ | with_reducible refine' ev_call ?_ ?_ | with_reducible refine' ev_callS ?_ ?_ | with_reducible refine' ev_cb ?_ ?_ | with_reducible exact isi_bool (by assumption) | with_reducible exact isi_int (by assumption) | with_reducible exact isi_list (by assumption) | with_reducible exact rc_len (by assumption) | with_reducible exact rc_sum (by assumption) | with_reducible exact rc_abs | with_reducible exact isi_listL (by assumption) | with_reducible exact isi_intI | with_reducible exact isi_boolI | with_reducible exact rc_lenT (by assumption) | with_reducible exact isi_tup (by assumption) | with_reducible exact rv_eqL (by assumption) (by assumption) | with_reducible exact rv_neL (by assumption) (by assumption) | with_reducible exact rv_neT (by assumption) (by assumption) | with_reducible exact rv_ixL (by assumption) (by assumption) | with_reducible exact rv_ixT (by assumption) (by assumption) | with_reducible refine' ev_din ?_ ?_ (by assumption) | with_reducible refine' ev_dnotin ?_ ?_ (by assumption) | with_reducible refine' ev_dget ?_ ?_ (by assumption) (by assumption) | ((with_reducible show SpV _ _ _ _); assumption) | ((with_reducible show RV _ _ _ _ _); assumption) | ((with_reducible show RC _ _ _ _); assumption) | ((with_reducible show CDiv _ _); exact ⟨by omega, by omega⟩) | ((with_reducible show CMul _ _); first | exact .inl ⟨by omega, by omega⟩ | exact .inr ⟨by omega, by omega⟩) | ((with_reducible show CPow _ _); exact ⟨by omega, by omega, by decide⟩) | ((with_reducible show (0 : Int) < _); omega) | ((with_reducible show (0 : Int) ≤ _); omega) | ((with_reducible show scal _ _ = true); rfl)))

def natsI (n : Nat) : List Int := (List.range n).map fun i : Nat => (i : Int)
theorem natsI_len (n : Nat) : (natsI n).length = n := by simp [natsI]
/-- the spots: some arrangement of 0, 1, .. -/
def sp_spots : Sp := fun vs H Q E => ∃ (n : Nat) (c : Int), vs = [.int (n : Int), .int c] ∧ n ≤ 60 ∧ 1 ≤ n ∧ ∀ xs : List Int, xs.Perm (natsI n) → RetL (xs.map V.int) H Q
theorem sc__law_spots_by : FnScope ["_law_size", "_law_cell", "_law_spots", "_law_k", "_law_other", "_law_first"] ["_law_size", "_law_cell"] (defScope s__law_spots_by) := ⟨rfl, rfl, rfl, by decide +kernel, rfl, by decide +kernel, by decide +kernel⟩
theorem ok__law_spots_by {P : Program} {w : World} {K : PySem.W.Frag} {mg : Str → Option Value} {base : Heap} (T : TXT K mg) : OK P w K mg base "_law_spots_by" ["_law_size", "_law_cell"] 2 (sp_spots) := by
  have O__law_mixed := ok__law_mixed (P := P) (w := w) (base := base) T
  obtain ⟨fd, F⟩ := T.def_ 12
  refine ⟨_, fd, T.glo 11, F.kp, F.bindsN (fun _ _ _ _ _ _ us hl => match us, hl with | [_, _], _ => rfl), F.ok sc__law_spots_by (fun vs H Q E h => ?_) (fun cdv A outer s H vs Q E hr h => ?_), F.bindsA (fun _ _ _ _ _ _ us hl => match us, hl with | [_, _], _ => rfl)⟩
  · first | (obtain ⟨rfl, _⟩ := h; rfl) | (obtain ⟨_, rfl, _⟩ := h; rfl) | (obtain ⟨_, _, rfl, _⟩ := h; rfl) | (obtain ⟨_, _, _, rfl, _⟩ := h; rfl) | (obtain ⟨_, _, _, _, rfl, _⟩ := h; rfl) | (obtain ⟨_, _, _, _, _, rfl, _⟩ := h; rfl) | (obtain ⟨_, _, _, _, _, _, rfl, _⟩ := h; rfl) | (obtain ⟨_, _, _, _, _, _, _, rfl, _⟩ := h; rfl) | (obtain ⟨_, _, _, _, _, _, _, _, rfl, _⟩ := h; rfl)
  · replace F : FunD K "_law_spots_by" "_law_spots_by" (defArgs s__law_spots_by) (defBody s__law_spots_by) (defScope s__law_spots_by) [] [] (He.ga K "_law_spots_by") fd := F
    refine ⟨_, (pss_cons (ps_setLc (i := 2) (own := [("_law_k", 3)]) (g := gName 3) (tt := tYes) rfl sc__law_spots_by.nd rfl rfl (sw_true rfl rfl rfl (by decide +kernel)) (pi_range1 (by rfl) (T.free 32) (pa_cons (pv 0) pa_nil)) (blkOk_by (N := ["_law_size", "_law_cell", "_law_spots", "_law_k", "_law_other", "_law_first"]) (sc := defScope s__law_spots_by) (by decide +kernel)) (fun _ _ _ _ _ => pg_name (i := 3) sc__law_spots_by.nd rfl (Or.inl rfl)) (fun _ _ _ _ _ => pts_nil) (fun _ _ _ _ _ => (pv 3)))
      (pss_cons (ps_for (passes_of rfl) rfl (pi_range1 (by rfl) (T.free 32) (pa_cons (pv 0) pa_nil)) (pg_name (i := 3) sc__law_spots_by.nd rfl (Or.inl rfl))
        (pss_cons (ps_set (i := 4) sc__law_spots_by.nd rfl (Or.inl rfl) (pe_op op_mod (pe_own O__law_mixed (hr.mono (by decide)) (by rfl) (passes_call (takes_of rfl rfl rfl rfl) (fun _ _ _ _ h => h)) (pa_cons (pv 1) (pa_cons (pv 3) pa_nil))) (pv 0)))
      (pss_cons (ps_set (i := 5) sc__law_spots_by.nd rfl (Or.inl rfl) (pe_ix (k_ixL K) (pv 2) (pv 3) (fun _ _ => rfl)))
      (pss_cons (ps_asg (pe_ix (k_ixL K) (pv 2) (pv 4) (fun _ _ => rfl)) (pg_sub (pv 2) (pv 3) set_list))
      (pss_one (ps_asg (pv 5) (pg_sub (pv 2) (pv 4) set_list)))))))
      (pss_one (ps_ret (pv 2))))), ?_⟩
    obtain ⟨n, c, rfl, hn, hn1, q⟩ := h
    dsimp only [cxOf, L2.start, List.map_cons, List.map_nil, List.length_cons, List.length_nil, Nat.reduceAdd, Nat.reduceSub, List.replicate_succ, List.replicate_zero, List.cons_append, List.nil_append, Nat.zero_add, List.reduceReplicate, List.map]
    refine q_asgL (xs := (natsI n).map V.int) ?_ fun p H1 hp e1 h1 => ?_
    · have z := el_rng (σ := [some (V.int (n : Int)), some (V.int c), none, none, none, none]) (H := H) (te := tVar 3) (j := 3) (vs := [3]) (ta := tCons (tVar 0) tNil) (n := (n : Int)) (fun i : Nat => V.int (i : Int)) (by (repeat' (first | with_reducible exact ev_c | ((with_reducible show Ev (tVar _) _ _ _); exact ev_var rfl) | with_reducible exact ea_nil | with_reducible exact eo_none | with_reducible refine' ea_cons ?_ ?_ | with_reducible refine' eo_some ?_ | with_reducible refine' ev_and2 ?_ ?_ | with_reducible refine' ev_or2 ?_ ?_ | with_reducible refine' ev_notV ?_ | with_reducible exact ru_I | with_reducible refine' ev_un ?_ ?_ | with_reducible exact rv_I0 | with_reducible exact rv_isN | with_reducible exact rv_notN | with_reducible refine' rv_I ?_ | with_reducible refine' rv_eq ?_ | with_reducible refine' rv_ne ?_ | with_reducible refine' ev_op ?_ ?_ ?_ | with_reducible refine' ev_chain2 ?_ ?_ ?_ ?_ ?_ | with_reducible refine' et_B ?_ | with_reducible refine' et_test ?_ | with_reducible refine' et_and2 ?_ ?_ | with_reducible refine' et_or2 ?_ ?_ | with_reducible refine' et_not ?_ | with_reducible refine' ev_call ?_ ?_ | with_reducible refine' ev_callS ?_ ?_ | with_reducible refine' ev_cb ?_ ?_ | with_reducible exact isi_bool (by assumption) | with_reducible exact isi_int (by assumption) | with_reducible exact isi_list (by assumption) | with_reducible exact rc_len (by assumption) | with_reducible exact rc_sum (by assumption) | with_reducible exact rc_abs | with_reducible exact isi_listL (by assumption) | with_reducible exact isi_intI | with_reducible exact isi_boolI | with_reducible exact rc_lenT (by assumption) | with_reducible exact isi_tup (by assumption) | with_reducible exact rv_eqL (by assumption) (by assumption) | with_reducible exact rv_neL (by assumption) (by assumption) | with_reducible exact rv_neT (by assumption) (by assumption) | with_reducible exact rv_ixL (by assumption) (by assumption) | with_reducible exact rv_ixT (by assumption) (by assumption) | with_reducible refine' ev_din ?_ ?_ (by assumption) | with_reducible refine' ev_dnotin ?_ ?_ (by assumption) | with_reducible refine' ev_dget ?_ ?_ (by assumption) (by assumption) | ((with_reducible show SpV _ _ _ _); assumption) | ((with_reducible show RV _ _ _ _ _); assumption) | ((with_reducible show RC _ _ _ _); assumption) | ((with_reducible show CDiv _ _); exact ⟨by omega, by omega⟩) | ((with_reducible show CMul _ _); first | exact .inl ⟨by omega, by omega⟩ | exact .inr ⟨by omega, by omega⟩) | ((with_reducible show CPow _ _); exact ⟨by omega, by omega, by decide⟩) | ((with_reducible show (0 : Int) < _); omega) | ((with_reducible show (0 : Int) ≤ _); omega) | ((with_reducible show scal _ _ = true); rfl)))) (by omega) (fun _ => rfl) (fun i H2 e2 hi => by (repeat' (first | with_reducible exact ev_c | ((with_reducible show Ev (tVar _) _ _ _); exact ev_var rfl) | with_reducible exact ea_nil | with_reducible exact eo_none | with_reducible refine' ea_cons ?_ ?_ | with_reducible refine' eo_some ?_ | with_reducible refine' ev_and2 ?_ ?_ | with_reducible refine' ev_or2 ?_ ?_ | with_reducible refine' ev_notV ?_ | with_reducible exact ru_I | with_reducible refine' ev_un ?_ ?_ | with_reducible exact rv_I0 | with_reducible exact rv_isN | with_reducible exact rv_notN | with_reducible refine' rv_I ?_ | with_reducible refine' rv_eq ?_ | with_reducible refine' rv_ne ?_ | with_reducible refine' ev_op ?_ ?_ ?_ | with_reducible refine' ev_chain2 ?_ ?_ ?_ ?_ ?_ | with_reducible refine' et_B ?_ | with_reducible refine' et_test ?_ | with_reducible refine' et_and2 ?_ ?_ | with_reducible refine' et_or2 ?_ ?_ | with_reducible refine' et_not ?_ | with_reducible refine' ev_call ?_ ?_ | with_reducible refine' ev_callS ?_ ?_ | with_reducible refine' ev_cb ?_ ?_ | with_reducible exact isi_bool (by assumption) | with_reducible exact isi_int (by assumption) | with_reducible exact isi_list (by assumption) | with_reducible exact rc_len (by assumption) | with_reducible exact rc_sum (by assumption) | with_reducible exact rc_abs | with_reducible exact isi_listL (by assumption) | with_reducible exact isi_intI | with_reducible exact isi_boolI | with_reducible exact rc_lenT (by assumption) | with_reducible exact isi_tup (by assumption) | with_reducible exact rv_eqL (by assumption) (by assumption) | with_reducible exact rv_neL (by assumption) (by assumption) | with_reducible exact rv_neT (by assumption) (by assumption) | with_reducible exact rv_ixL (by assumption) (by assumption) | with_reducible exact rv_ixT (by assumption) (by assumption) | with_reducible refine' ev_din ?_ ?_ (by assumption) | with_reducible refine' ev_dnotin ?_ ?_ (by assumption) | with_reducible refine' ev_dget ?_ ?_ (by assumption) (by assumption) | ((with_reducible show SpV _ _ _ _); assumption) | ((with_reducible show RV _ _ _ _ _); assumption) | ((with_reducible show RC _ _ _ _); assumption) | ((with_reducible show CDiv _ _); exact ⟨by omega, by omega⟩) | ((with_reducible show CMul _ _); first | exact .inl ⟨by omega, by omega⟩ | exact .inr ⟨by omega, by omega⟩) | ((with_reducible show CPow _ _); exact ⟨by omega, by omega, by decide⟩) | ((with_reducible show (0 : Int) < _); omega) | ((with_reducible show (0 : Int) ≤ _); omega) | ((with_reducible show scal _ _ = true); rfl))))
      have z2 : (natsI n).map V.int = (List.range (n : Int).toNat).map fun i : Nat => V.int (i : Int) := by
        rw [natsI, List.map_map]
        rfl
      rw [z2]
      exact z
    refine q_forR1 (n := (n : Int)) (by (repeat' (first | with_reducible exact ev_c | ((with_reducible show Ev (tVar _) _ _ _); exact ev_var rfl) | with_reducible exact ea_nil | with_reducible exact eo_none | with_reducible refine' ea_cons ?_ ?_ | with_reducible refine' eo_some ?_ | with_reducible refine' ev_and2 ?_ ?_ | with_reducible refine' ev_or2 ?_ ?_ | with_reducible refine' ev_notV ?_ | with_reducible exact ru_I | with_reducible refine' ev_un ?_ ?_ | with_reducible exact rv_I0 | with_reducible exact rv_isN | with_reducible exact rv_notN | with_reducible refine' rv_I ?_ | with_reducible refine' rv_eq ?_ | with_reducible refine' rv_ne ?_ | with_reducible refine' ev_op ?_ ?_ ?_ | with_reducible refine' ev_chain2 ?_ ?_ ?_ ?_ ?_ | with_reducible refine' et_B ?_ | with_reducible refine' et_test ?_ | with_reducible refine' et_and2 ?_ ?_ | with_reducible refine' et_or2 ?_ ?_ | with_reducible refine' et_not ?_ | with_reducible refine' ev_call ?_ ?_ | with_reducible refine' ev_callS ?_ ?_ | with_reducible refine' ev_cb ?_ ?_ | with_reducible exact isi_bool (by assumption) | with_reducible exact isi_int (by assumption) | with_reducible exact isi_list (by assumption) | with_reducible exact rc_len (by assumption) | with_reducible exact rc_sum (by assumption) | with_reducible exact rc_abs | with_reducible exact isi_listL (by assumption) | with_reducible exact isi_intI | with_reducible exact isi_boolI | with_reducible exact rc_lenT (by assumption) | with_reducible exact isi_tup (by assumption) | with_reducible exact rv_eqL (by assumption) (by assumption) | with_reducible exact rv_neL (by assumption) (by assumption) | with_reducible exact rv_neT (by assumption) (by assumption) | with_reducible exact rv_ixL (by assumption) (by assumption) | with_reducible exact rv_ixT (by assumption) (by assumption) | with_reducible refine' ev_din ?_ ?_ (by assumption) | with_reducible refine' ev_dnotin ?_ ?_ (by assumption) | with_reducible refine' ev_dget ?_ ?_ (by assumption) (by assumption) | ((with_reducible show SpV _ _ _ _); assumption) | ((with_reducible show RV _ _ _ _ _); assumption) | ((with_reducible show RC _ _ _ _); assumption) | ((with_reducible show CDiv _ _); exact ⟨by omega, by omega⟩) | ((with_reducible show CMul _ _); first | exact .inl ⟨by omega, by omega⟩ | exact .inr ⟨by omega, by omega⟩) | ((with_reducible show CPow _ _); exact ⟨by omega, by omega, by decide⟩) | ((with_reducible show (0 : Int) < _); omega) | ((with_reducible show (0 : Int) ≤ _); omega) | ((with_reducible show scal _ _ = true); rfl)))) (by omega) (fun i σ' H' => ∃ y3 y4 y5 xs, σ' = [some (V.int (n : Int)), some (V.int c), some (V.ref p), y3, y4, y5] ∧ Ex H H' ∧ H' p = some (.lst (xs.map V.int)) ∧ xs.Perm (natsI n)) (fun H2 e2 => ⟨none, none, none, natsI n, rfl, e1.trans e2, e2 _ _ h1, .refl _⟩) ?_ ?_
    · rintro i σ' H' hi ⟨y3, y4, y5, xs, rfl, e3, h3, pm⟩
      have hi' : i < n := by omega
      have hl : xs.length = n := by rw [pm.length_eq, natsI_len]
      obtain ⟨o, ho⟩ := Int.eq_ofNat_of_zero_le (Int.emod_nonneg (mixed c (i : Int)) (show ((n : Nat) : Int) ≠ 0 by omega))
      have ho2 : o < n := by
        have := Int.emod_lt_of_pos (mixed c (i : Int)) (show (0 : Int) < (n : Int) by omega)
        omega
      have sm := sv_mixed (H := H') (c := c) (k := (i : Int))
      refine q_asg (v := .int (o : Int)) ?_ fun H4 e4 => ?_
      · apply ev_is
        · (repeat' (first | with_reducible exact ev_c | ((with_reducible show Ev (tVar _) _ _ _); exact ev_var rfl) | with_reducible exact ea_nil | with_reducible exact eo_none | with_reducible refine' ea_cons ?_ ?_ | with_reducible refine' eo_some ?_ | with_reducible refine' ev_and2 ?_ ?_ | with_reducible refine' ev_or2 ?_ ?_ | with_reducible refine' ev_notV ?_ | with_reducible exact ru_I | with_reducible refine' ev_un ?_ ?_ | with_reducible exact rv_I0 | with_reducible exact rv_isN | with_reducible exact rv_notN | with_reducible refine' rv_I ?_ | with_reducible refine' rv_eq ?_ | with_reducible refine' rv_ne ?_ | with_reducible refine' ev_op ?_ ?_ ?_ | with_reducible refine' ev_chain2 ?_ ?_ ?_ ?_ ?_ | with_reducible refine' et_B ?_ | with_reducible refine' et_test ?_ | with_reducible refine' et_and2 ?_ ?_ | with_reducible refine' et_or2 ?_ ?_ | with_reducible refine' et_not ?_ | with_reducible refine' ev_call ?_ ?_ | with_reducible refine' ev_callS ?_ ?_ | with_reducible refine' ev_cb ?_ ?_ | with_reducible exact isi_bool (by assumption) | with_reducible exact isi_int (by assumption) | with_reducible exact isi_list (by assumption) | with_reducible exact rc_len (by assumption) | with_reducible exact rc_sum (by assumption) | with_reducible exact rc_abs | with_reducible exact isi_listL (by assumption) | with_reducible exact isi_intI | with_reducible exact isi_boolI | with_reducible exact rc_lenT (by assumption) | with_reducible exact isi_tup (by assumption) | with_reducible exact rv_eqL (by assumption) (by assumption) | with_reducible exact rv_neL (by assumption) (by assumption) | with_reducible exact rv_neT (by assumption) (by assumption) | with_reducible exact rv_ixL (by assumption) (by assumption) | with_reducible exact rv_ixT (by assumption) (by assumption) | with_reducible refine' ev_din ?_ ?_ (by assumption) | with_reducible refine' ev_dnotin ?_ ?_ (by assumption) | with_reducible refine' ev_dget ?_ ?_ (by assumption) (by assumption) | ((with_reducible show SpV _ _ _ _); assumption) | ((with_reducible show RV _ _ _ _ _); assumption) | ((with_reducible show RC _ _ _ _); assumption) | ((with_reducible show CDiv _ _); exact ⟨by omega, by omega⟩) | ((with_reducible show CMul _ _); first | exact .inl ⟨by omega, by omega⟩ | exact .inr ⟨by omega, by omega⟩) | ((with_reducible show CPow _ _); exact ⟨by omega, by omega, by decide⟩) | ((with_reducible show (0 : Int) < _); omega) | ((with_reducible show (0 : Int) ≤ _); omega) | ((with_reducible show scal _ _ = true); rfl)))
        · rw [ho]
      have h4 := e4 _ _ h3
      have s4 : SqL K H4 p (xs.map V.int) := sq_of h4
      have gi := atI_int (ns := xs) (j := i) (by omega)
      refine q_asg (v := .int (xs.getD i 0)) (by (repeat' (first | with_reducible exact ev_c | ((with_reducible show Ev (tVar _) _ _ _); exact ev_var rfl) | with_reducible exact ea_nil | with_reducible exact eo_none | with_reducible refine' ea_cons ?_ ?_ | with_reducible refine' eo_some ?_ | with_reducible refine' ev_and2 ?_ ?_ | with_reducible refine' ev_or2 ?_ ?_ | with_reducible refine' ev_notV ?_ | with_reducible exact ru_I | with_reducible refine' ev_un ?_ ?_ | with_reducible exact rv_I0 | with_reducible exact rv_isN | with_reducible exact rv_notN | with_reducible refine' rv_I ?_ | with_reducible refine' rv_eq ?_ | with_reducible refine' rv_ne ?_ | with_reducible refine' ev_op ?_ ?_ ?_ | with_reducible refine' ev_chain2 ?_ ?_ ?_ ?_ ?_ | with_reducible refine' et_B ?_ | with_reducible refine' et_test ?_ | with_reducible refine' et_and2 ?_ ?_ | with_reducible refine' et_or2 ?_ ?_ | with_reducible refine' et_not ?_ | with_reducible refine' ev_call ?_ ?_ | with_reducible refine' ev_callS ?_ ?_ | with_reducible refine' ev_cb ?_ ?_ | with_reducible exact isi_bool (by assumption) | with_reducible exact isi_int (by assumption) | with_reducible exact isi_list (by assumption) | with_reducible exact rc_len (by assumption) | with_reducible exact rc_sum (by assumption) | with_reducible exact rc_abs | with_reducible exact isi_listL (by assumption) | with_reducible exact isi_intI | with_reducible exact isi_boolI | with_reducible exact rc_lenT (by assumption) | with_reducible exact isi_tup (by assumption) | with_reducible exact rv_eqL (by assumption) (by assumption) | with_reducible exact rv_neL (by assumption) (by assumption) | with_reducible exact rv_neT (by assumption) (by assumption) | with_reducible exact rv_ixL (by assumption) (by assumption) | with_reducible exact rv_ixT (by assumption) (by assumption) | with_reducible refine' ev_din ?_ ?_ (by assumption) | with_reducible refine' ev_dnotin ?_ ?_ (by assumption) | with_reducible refine' ev_dget ?_ ?_ (by assumption) (by assumption) | ((with_reducible show SpV _ _ _ _); assumption) | ((with_reducible show RV _ _ _ _ _); assumption) | ((with_reducible show RC _ _ _ _); assumption) | ((with_reducible show CDiv _ _); exact ⟨by omega, by omega⟩) | ((with_reducible show CMul _ _); first | exact .inl ⟨by omega, by omega⟩ | exact .inr ⟨by omega, by omega⟩) | ((with_reducible show CPow _ _); exact ⟨by omega, by omega, by decide⟩) | ((with_reducible show (0 : Int) < _); omega) | ((with_reducible show (0 : Int) ≤ _); omega) | ((with_reducible show scal _ _ = true); rfl)))) fun H5 e5 => ?_
      have h5 := e5 _ _ h4
      have s5 : SqL K H5 p (xs.map V.int) := sq_of h5
      have go := atI_int (ns := xs) (j := o) (by omega)
      refine q_setL (j := i) h5 (v := .int (xs.getD o 0)) (by (repeat' (first | with_reducible exact ev_c | ((with_reducible show Ev (tVar _) _ _ _); exact ev_var rfl) | with_reducible exact ea_nil | with_reducible exact eo_none | with_reducible refine' ea_cons ?_ ?_ | with_reducible refine' eo_some ?_ | with_reducible refine' ev_and2 ?_ ?_ | with_reducible refine' ev_or2 ?_ ?_ | with_reducible refine' ev_notV ?_ | with_reducible exact ru_I | with_reducible refine' ev_un ?_ ?_ | with_reducible exact rv_I0 | with_reducible exact rv_isN | with_reducible exact rv_notN | with_reducible refine' rv_I ?_ | with_reducible refine' rv_eq ?_ | with_reducible refine' rv_ne ?_ | with_reducible refine' ev_op ?_ ?_ ?_ | with_reducible refine' ev_chain2 ?_ ?_ ?_ ?_ ?_ | with_reducible refine' et_B ?_ | with_reducible refine' et_test ?_ | with_reducible refine' et_and2 ?_ ?_ | with_reducible refine' et_or2 ?_ ?_ | with_reducible refine' et_not ?_ | with_reducible refine' ev_call ?_ ?_ | with_reducible refine' ev_callS ?_ ?_ | with_reducible refine' ev_cb ?_ ?_ | with_reducible exact isi_bool (by assumption) | with_reducible exact isi_int (by assumption) | with_reducible exact isi_list (by assumption) | with_reducible exact rc_len (by assumption) | with_reducible exact rc_sum (by assumption) | with_reducible exact rc_abs | with_reducible exact isi_listL (by assumption) | with_reducible exact isi_intI | with_reducible exact isi_boolI | with_reducible exact rc_lenT (by assumption) | with_reducible exact isi_tup (by assumption) | with_reducible exact rv_eqL (by assumption) (by assumption) | with_reducible exact rv_neL (by assumption) (by assumption) | with_reducible exact rv_neT (by assumption) (by assumption) | with_reducible exact rv_ixL (by assumption) (by assumption) | with_reducible exact rv_ixT (by assumption) (by assumption) | with_reducible refine' ev_din ?_ ?_ (by assumption) | with_reducible refine' ev_dnotin ?_ ?_ (by assumption) | with_reducible refine' ev_dget ?_ ?_ (by assumption) (by assumption) | ((with_reducible show SpV _ _ _ _); assumption) | ((with_reducible show RV _ _ _ _ _); assumption) | ((with_reducible show RC _ _ _ _); assumption) | ((with_reducible show CDiv _ _); exact ⟨by omega, by omega⟩) | ((with_reducible show CMul _ _); first | exact .inl ⟨by omega, by omega⟩ | exact .inr ⟨by omega, by omega⟩) | ((with_reducible show CPow _ _); exact ⟨by omega, by omega, by decide⟩) | ((with_reducible show (0 : Int) < _); omega) | ((with_reducible show (0 : Int) ≤ _); omega) | ((with_reducible show scal _ _ = true); rfl)))) (by (repeat' (first | with_reducible exact ev_c | ((with_reducible show Ev (tVar _) _ _ _); exact ev_var rfl) | with_reducible exact ea_nil | with_reducible exact eo_none | with_reducible refine' ea_cons ?_ ?_ | with_reducible refine' eo_some ?_ | with_reducible refine' ev_and2 ?_ ?_ | with_reducible refine' ev_or2 ?_ ?_ | with_reducible refine' ev_notV ?_ | with_reducible exact ru_I | with_reducible refine' ev_un ?_ ?_ | with_reducible exact rv_I0 | with_reducible exact rv_isN | with_reducible exact rv_notN | with_reducible refine' rv_I ?_ | with_reducible refine' rv_eq ?_ | with_reducible refine' rv_ne ?_ | with_reducible refine' ev_op ?_ ?_ ?_ | with_reducible refine' ev_chain2 ?_ ?_ ?_ ?_ ?_ | with_reducible refine' et_B ?_ | with_reducible refine' et_test ?_ | with_reducible refine' et_and2 ?_ ?_ | with_reducible refine' et_or2 ?_ ?_ | with_reducible refine' et_not ?_ | with_reducible refine' ev_call ?_ ?_ | with_reducible refine' ev_callS ?_ ?_ | with_reducible refine' ev_cb ?_ ?_ | with_reducible exact isi_bool (by assumption) | with_reducible exact isi_int (by assumption) | with_reducible exact isi_list (by assumption) | with_reducible exact rc_len (by assumption) | with_reducible exact rc_sum (by assumption) | with_reducible exact rc_abs | with_reducible exact isi_listL (by assumption) | with_reducible exact isi_intI | with_reducible exact isi_boolI | with_reducible exact rc_lenT (by assumption) | with_reducible exact isi_tup (by assumption) | with_reducible exact rv_eqL (by assumption) (by assumption) | with_reducible exact rv_neL (by assumption) (by assumption) | with_reducible exact rv_neT (by assumption) (by assumption) | with_reducible exact rv_ixL (by assumption) (by assumption) | with_reducible exact rv_ixT (by assumption) (by assumption) | with_reducible refine' ev_din ?_ ?_ (by assumption) | with_reducible refine' ev_dnotin ?_ ?_ (by assumption) | with_reducible refine' ev_dget ?_ ?_ (by assumption) (by assumption) | ((with_reducible show SpV _ _ _ _); assumption) | ((with_reducible show RV _ _ _ _ _); assumption) | ((with_reducible show RC _ _ _ _); assumption) | ((with_reducible show CDiv _ _); exact ⟨by omega, by omega⟩) | ((with_reducible show CMul _ _); first | exact .inl ⟨by omega, by omega⟩ | exact .inr ⟨by omega, by omega⟩) | ((with_reducible show CPow _ _); exact ⟨by omega, by omega, by decide⟩) | ((with_reducible show (0 : Int) < _); omega) | ((with_reducible show (0 : Int) ≤ _); omega) | ((with_reducible show scal _ _ = true); rfl)))) (by (repeat' (first | with_reducible exact ev_c | ((with_reducible show Ev (tVar _) _ _ _); exact ev_var rfl) | with_reducible exact ea_nil | with_reducible exact eo_none | with_reducible refine' ea_cons ?_ ?_ | with_reducible refine' eo_some ?_ | with_reducible refine' ev_and2 ?_ ?_ | with_reducible refine' ev_or2 ?_ ?_ | with_reducible refine' ev_notV ?_ | with_reducible exact ru_I | with_reducible refine' ev_un ?_ ?_ | with_reducible exact rv_I0 | with_reducible exact rv_isN | with_reducible exact rv_notN | with_reducible refine' rv_I ?_ | with_reducible refine' rv_eq ?_ | with_reducible refine' rv_ne ?_ | with_reducible refine' ev_op ?_ ?_ ?_ | with_reducible refine' ev_chain2 ?_ ?_ ?_ ?_ ?_ | with_reducible refine' et_B ?_ | with_reducible refine' et_test ?_ | with_reducible refine' et_and2 ?_ ?_ | with_reducible refine' et_or2 ?_ ?_ | with_reducible refine' et_not ?_ | with_reducible refine' ev_call ?_ ?_ | with_reducible refine' ev_callS ?_ ?_ | with_reducible refine' ev_cb ?_ ?_ | with_reducible exact isi_bool (by assumption) | with_reducible exact isi_int (by assumption) | with_reducible exact isi_list (by assumption) | with_reducible exact rc_len (by assumption) | with_reducible exact rc_sum (by assumption) | with_reducible exact rc_abs | with_reducible exact isi_listL (by assumption) | with_reducible exact isi_intI | with_reducible exact isi_boolI | with_reducible exact rc_lenT (by assumption) | with_reducible exact isi_tup (by assumption) | with_reducible exact rv_eqL (by assumption) (by assumption) | with_reducible exact rv_neL (by assumption) (by assumption) | with_reducible exact rv_neT (by assumption) (by assumption) | with_reducible exact rv_ixL (by assumption) (by assumption) | with_reducible exact rv_ixT (by assumption) (by assumption) | with_reducible refine' ev_din ?_ ?_ (by assumption) | with_reducible refine' ev_dnotin ?_ ?_ (by assumption) | with_reducible refine' ev_dget ?_ ?_ (by assumption) (by assumption) | ((with_reducible show SpV _ _ _ _); assumption) | ((with_reducible show RV _ _ _ _ _); assumption) | ((with_reducible show RC _ _ _ _); assumption) | ((with_reducible show CDiv _ _); exact ⟨by omega, by omega⟩) | ((with_reducible show CMul _ _); first | exact .inl ⟨by omega, by omega⟩ | exact .inr ⟨by omega, by omega⟩) | ((with_reducible show CPow _ _); exact ⟨by omega, by omega, by decide⟩) | ((with_reducible show (0 : Int) < _); omega) | ((with_reducible show (0 : Int) ≤ _); omega) | ((with_reducible show scal _ _ = true); rfl)))) (by rw [List.length_map]; omega) fun H6 e6 => ?_
      refine s_setL (j := o) (xs := (xs.map V.int).set i (.int (xs.getD o 0))) upd_same (v := .int (xs.getD i 0)) (by (repeat' (first | with_reducible exact ev_c | ((with_reducible show Ev (tVar _) _ _ _); exact ev_var rfl) | with_reducible exact ea_nil | with_reducible exact eo_none | with_reducible refine' ea_cons ?_ ?_ | with_reducible refine' eo_some ?_ | with_reducible refine' ev_and2 ?_ ?_ | with_reducible refine' ev_or2 ?_ ?_ | with_reducible refine' ev_notV ?_ | with_reducible exact ru_I | with_reducible refine' ev_un ?_ ?_ | with_reducible exact rv_I0 | with_reducible exact rv_isN | with_reducible exact rv_notN | with_reducible refine' rv_I ?_ | with_reducible refine' rv_eq ?_ | with_reducible refine' rv_ne ?_ | with_reducible refine' ev_op ?_ ?_ ?_ | with_reducible refine' ev_chain2 ?_ ?_ ?_ ?_ ?_ | with_reducible refine' et_B ?_ | with_reducible refine' et_test ?_ | with_reducible refine' et_and2 ?_ ?_ | with_reducible refine' et_or2 ?_ ?_ | with_reducible refine' et_not ?_ | with_reducible refine' ev_call ?_ ?_ | with_reducible refine' ev_callS ?_ ?_ | with_reducible refine' ev_cb ?_ ?_ | with_reducible exact isi_bool (by assumption) | with_reducible exact isi_int (by assumption) | with_reducible exact isi_list (by assumption) | with_reducible exact rc_len (by assumption) | with_reducible exact rc_sum (by assumption) | with_reducible exact rc_abs | with_reducible exact isi_listL (by assumption) | with_reducible exact isi_intI | with_reducible exact isi_boolI | with_reducible exact rc_lenT (by assumption) | with_reducible exact isi_tup (by assumption) | with_reducible exact rv_eqL (by assumption) (by assumption) | with_reducible exact rv_neL (by assumption) (by assumption) | with_reducible exact rv_neT (by assumption) (by assumption) | with_reducible exact rv_ixL (by assumption) (by assumption) | with_reducible exact rv_ixT (by assumption) (by assumption) | with_reducible refine' ev_din ?_ ?_ (by assumption) | with_reducible refine' ev_dnotin ?_ ?_ (by assumption) | with_reducible refine' ev_dget ?_ ?_ (by assumption) (by assumption) | ((with_reducible show SpV _ _ _ _); assumption) | ((with_reducible show RV _ _ _ _ _); assumption) | ((with_reducible show RC _ _ _ _); assumption) | ((with_reducible show CDiv _ _); exact ⟨by omega, by omega⟩) | ((with_reducible show CMul _ _); first | exact .inl ⟨by omega, by omega⟩ | exact .inr ⟨by omega, by omega⟩) | ((with_reducible show CPow _ _); exact ⟨by omega, by omega, by decide⟩) | ((with_reducible show (0 : Int) < _); omega) | ((with_reducible show (0 : Int) ≤ _); omega) | ((with_reducible show scal _ _ = true); rfl)))) (by (repeat' (first | with_reducible exact ev_c | ((with_reducible show Ev (tVar _) _ _ _); exact ev_var rfl) | with_reducible exact ea_nil | with_reducible exact eo_none | with_reducible refine' ea_cons ?_ ?_ | with_reducible refine' eo_some ?_ | with_reducible refine' ev_and2 ?_ ?_ | with_reducible refine' ev_or2 ?_ ?_ | with_reducible refine' ev_notV ?_ | with_reducible exact ru_I | with_reducible refine' ev_un ?_ ?_ | with_reducible exact rv_I0 | with_reducible exact rv_isN | with_reducible exact rv_notN | with_reducible refine' rv_I ?_ | with_reducible refine' rv_eq ?_ | with_reducible refine' rv_ne ?_ | with_reducible refine' ev_op ?_ ?_ ?_ | with_reducible refine' ev_chain2 ?_ ?_ ?_ ?_ ?_ | with_reducible refine' et_B ?_ | with_reducible refine' et_test ?_ | with_reducible refine' et_and2 ?_ ?_ | with_reducible refine' et_or2 ?_ ?_ | with_reducible refine' et_not ?_ | with_reducible refine' ev_call ?_ ?_ | with_reducible refine' ev_callS ?_ ?_ | with_reducible refine' ev_cb ?_ ?_ | with_reducible exact isi_bool (by assumption) | with_reducible exact isi_int (by assumption) | with_reducible exact isi_list (by assumption) | with_reducible exact rc_len (by assumption) | with_reducible exact rc_sum (by assumption) | with_reducible exact rc_abs | with_reducible exact isi_listL (by assumption) | with_reducible exact isi_intI | with_reducible exact isi_boolI | with_reducible exact rc_lenT (by assumption) | with_reducible exact isi_tup (by assumption) | with_reducible exact rv_eqL (by assumption) (by assumption) | with_reducible exact rv_neL (by assumption) (by assumption) | with_reducible exact rv_neT (by assumption) (by assumption) | with_reducible exact rv_ixL (by assumption) (by assumption) | with_reducible exact rv_ixT (by assumption) (by assumption) | with_reducible refine' ev_din ?_ ?_ (by assumption) | with_reducible refine' ev_dnotin ?_ ?_ (by assumption) | with_reducible refine' ev_dget ?_ ?_ (by assumption) (by assumption) | ((with_reducible show SpV _ _ _ _); assumption) | ((with_reducible show RV _ _ _ _ _); assumption) | ((with_reducible show RC _ _ _ _); assumption) | ((with_reducible show CDiv _ _); exact ⟨by omega, by omega⟩) | ((with_reducible show CMul _ _); first | exact .inl ⟨by omega, by omega⟩ | exact .inr ⟨by omega, by omega⟩) | ((with_reducible show CPow _ _); exact ⟨by omega, by omega, by decide⟩) | ((with_reducible show (0 : Int) < _); omega) | ((with_reducible show (0 : Int) ≤ _); omega) | ((with_reducible show scal _ _ = true); rfl)))) (by (repeat' (first | with_reducible exact ev_c | ((with_reducible show Ev (tVar _) _ _ _); exact ev_var rfl) | with_reducible exact ea_nil | with_reducible exact eo_none | with_reducible refine' ea_cons ?_ ?_ | with_reducible refine' eo_some ?_ | with_reducible refine' ev_and2 ?_ ?_ | with_reducible refine' ev_or2 ?_ ?_ | with_reducible refine' ev_notV ?_ | with_reducible exact ru_I | with_reducible refine' ev_un ?_ ?_ | with_reducible exact rv_I0 | with_reducible exact rv_isN | with_reducible exact rv_notN | with_reducible refine' rv_I ?_ | with_reducible refine' rv_eq ?_ | with_reducible refine' rv_ne ?_ | with_reducible refine' ev_op ?_ ?_ ?_ | with_reducible refine' ev_chain2 ?_ ?_ ?_ ?_ ?_ | with_reducible refine' et_B ?_ | with_reducible refine' et_test ?_ | with_reducible refine' et_and2 ?_ ?_ | with_reducible refine' et_or2 ?_ ?_ | with_reducible refine' et_not ?_ | with_reducible refine' ev_call ?_ ?_ | with_reducible refine' ev_callS ?_ ?_ | with_reducible refine' ev_cb ?_ ?_ | with_reducible exact isi_bool (by assumption) | with_reducible exact isi_int (by assumption) | with_reducible exact isi_list (by assumption) | with_reducible exact rc_len (by assumption) | with_reducible exact rc_sum (by assumption) | with_reducible exact rc_abs | with_reducible exact isi_listL (by assumption) | with_reducible exact isi_intI | with_reducible exact isi_boolI | with_reducible exact rc_lenT (by assumption) | with_reducible exact isi_tup (by assumption) | with_reducible exact rv_eqL (by assumption) (by assumption) | with_reducible exact rv_neL (by assumption) (by assumption) | with_reducible exact rv_neT (by assumption) (by assumption) | with_reducible exact rv_ixL (by assumption) (by assumption) | with_reducible exact rv_ixT (by assumption) (by assumption) | with_reducible refine' ev_din ?_ ?_ (by assumption) | with_reducible refine' ev_dnotin ?_ ?_ (by assumption) | with_reducible refine' ev_dget ?_ ?_ (by assumption) (by assumption) | ((with_reducible show SpV _ _ _ _); assumption) | ((with_reducible show RV _ _ _ _ _); assumption) | ((with_reducible show RC _ _ _ _); assumption) | ((with_reducible show CDiv _ _); exact ⟨by omega, by omega⟩) | ((with_reducible show CMul _ _); first | exact .inl ⟨by omega, by omega⟩ | exact .inr ⟨by omega, by omega⟩) | ((with_reducible show CPow _ _); exact ⟨by omega, by omega, by decide⟩) | ((with_reducible show (0 : Int) < _); omega) | ((with_reducible show (0 : Int) ≤ _); omega) | ((with_reducible show scal _ _ = true); rfl)))) (by rw [List.length_set, List.length_map]; omega) fun H7 e7 => ?_
      refine ⟨_, _, _, (xs.set i (xs.getD o 0)).set o (xs.getD i 0), rfl, ?_, ?_, ?_⟩
      · exact Ex.mut ((Ex.mut (((e3.trans e4).trans e5).trans e6) hp).trans e7) hp
      · rw [upd_same, List.map_set, List.map_set]
      · have gi2 : xs.getD i 0 = xs[i]'(by omega) := by rw [List.getD_eq_getElem?_getD, List.getElem?_eq_getElem (by omega)]; rfl
        have go2 : xs.getD o 0 = xs[o]'(by omega) := by rw [List.getD_eq_getElem?_getD, List.getElem?_eq_getElem (by omega)]; rfl
        rw [gi2, go2]
        exact (List.set_set_perm (by omega) (by omega)).trans pm
    · rintro σ' H' ⟨y3, y4, y5, xs, rfl, e3, h3, pm⟩
      exact s_ret (v := .ref p) (by (repeat' (first | with_reducible exact ev_c | ((with_reducible show Ev (tVar _) _ _ _); exact ev_var rfl) | with_reducible exact ea_nil | with_reducible exact eo_none | with_reducible refine' ea_cons ?_ ?_ | with_reducible refine' eo_some ?_ | with_reducible refine' ev_and2 ?_ ?_ | with_reducible refine' ev_or2 ?_ ?_ | with_reducible refine' ev_notV ?_ | with_reducible exact ru_I | with_reducible refine' ev_un ?_ ?_ | with_reducible exact rv_I0 | with_reducible exact rv_isN | with_reducible exact rv_notN | with_reducible refine' rv_I ?_ | with_reducible refine' rv_eq ?_ | with_reducible refine' rv_ne ?_ | with_reducible refine' ev_op ?_ ?_ ?_ | with_reducible refine' ev_chain2 ?_ ?_ ?_ ?_ ?_ | with_reducible refine' et_B ?_ | with_reducible refine' et_test ?_ | with_reducible refine' et_and2 ?_ ?_ | with_reducible refine' et_or2 ?_ ?_ | with_reducible refine' et_not ?_ | with_reducible refine' ev_call ?_ ?_ | with_reducible refine' ev_callS ?_ ?_ | with_reducible refine' ev_cb ?_ ?_ | with_reducible exact isi_bool (by assumption) | with_reducible exact isi_int (by assumption) | with_reducible exact isi_list (by assumption) | with_reducible exact rc_len (by assumption) | with_reducible exact rc_sum (by assumption) | with_reducible exact rc_abs | with_reducible exact isi_listL (by assumption) | with_reducible exact isi_intI | with_reducible exact isi_boolI | with_reducible exact rc_lenT (by assumption) | with_reducible exact isi_tup (by assumption) | with_reducible exact rv_eqL (by assumption) (by assumption) | with_reducible exact rv_neL (by assumption) (by assumption) | with_reducible exact rv_neT (by assumption) (by assumption) | with_reducible exact rv_ixL (by assumption) (by assumption) | with_reducible exact rv_ixT (by assumption) (by assumption) | with_reducible refine' ev_din ?_ ?_ (by assumption) | with_reducible refine' ev_dnotin ?_ ?_ (by assumption) | with_reducible refine' ev_dget ?_ ?_ (by assumption) (by assumption) | ((with_reducible show SpV _ _ _ _); assumption) | ((with_reducible show RV _ _ _ _ _); assumption) | ((with_reducible show RC _ _ _ _); assumption) | ((with_reducible show CDiv _ _); exact ⟨by omega, by omega⟩) | ((with_reducible show CMul _ _); first | exact .inl ⟨by omega, by omega⟩ | exact .inr ⟨by omega, by omega⟩) | ((with_reducible show CPow _ _); exact ⟨by omega, by omega, by decide⟩) | ((with_reducible show (0 : Int) < _); omega) | ((with_reducible show (0 : Int) ≤ _); omega) | ((with_reducible show scal _ _ = true); rfl)))) fun H4 e4 => q xs pm p H4 hp (e3.trans e4) (e4 _ _ h3)

end TB

/-! ### the laws' own patterns -/
namespace TB
open PySem PySem.Spec PyProof.Rows L2 Evl
/-- the bound of a throw, by its kind -/
def farOk (n : Nat) (kind : Int) (t : Int) : Prop := (kind = 0 → 0 ≤ t ∧ t < 3 * (n : Int)) ∧ (kind = 1 → -4 * (n : Int) < t ∧ t < 4 * (n : Int)) ∧ -1000000 ≤ t ∧ t ≤ 1000000
/-- throws that land on the spots xs, one each -/
structure Lands (n : Nat) (kind : Int) (xs ts : List Int) : Prop where
  len : ts.length = n
  to : ∀ k, k < n → ((k : Int) + ts.getD k 0) % (n : Int) = xs.getD k 0
  far : ∀ t ∈ ts, farOk n kind t
def sp_throws : Sp := fun vs H Q E => ∃ (n : Nat) (c kind : Int), vs = [.int (n : Int), .int c, .int kind] ∧ n ≤ 60 ∧ 1 ≤ n ∧ ∀ xs ts : List Int, xs.Perm (natsI n) → Lands n kind xs ts → RetL (ts.map V.int) H Q
theorem natsI_mem {n : Nat} {x : Int} : x ∈ natsI n ↔ 0 ≤ x ∧ x < (n : Int) := by
  unfold natsI
  rw [List.mem_map]
  constructor
  · rintro ⟨i, hi, rfl⟩
    have := List.mem_range.mp hi
    omega
  · rintro ⟨h1, h2⟩
    exact ⟨x.toNat, List.mem_range.mpr (by omega), by omega⟩
theorem perm_at {n : Nat} {xs : List Int} (pm : xs.Perm (natsI n)) {k : Nat} (hk : k < n) : 0 ≤ xs.getD k 0 ∧ xs.getD k 0 < (n : Int) := by
  have hl : xs.length = n := by rw [pm.length_eq, natsI_len]
  have z : xs.getD k 0 = xs[k]'(by omega) := by rw [List.getD_eq_getElem?_getD, List.getElem?_eq_getElem (by omega)]; rfl
  rw [z]
  exact natsI_mem.mp (pm.mem_iff.mp (List.getElem_mem _))
theorem land_0 {n x k f : Int} (hn : 1 ≤ n) (h0 : 0 ≤ x) (h1 : x < n) : (k + ((x - k) % n + f % 3 * n)) % n = x := by
  have e : k + ((x - k) % n + f % 3 * n) = k + (x - k) % n + n * (f % 3) := by
    rw [Int.mul_comm n]
    omega
  rw [e, Int.add_mul_emod_self_left, Int.add_emod, Int.emod_emod_of_dvd _ (Int.dvd_refl n), ← Int.add_emod]
  have : k + (x - k) = x := by omega
  rw [this]
  exact Int.emod_eq_of_lt h0 h1
theorem land_1 {n x k f : Int} (hn : 1 ≤ n) (h0 : 0 ≤ x) (h1 : x < n) : (k + (x - k + f * n)) % n = x := by
  have e : k + (x - k + f * n) = x + n * f := by
    rw [Int.mul_comm n]
    omega
  rw [e, Int.add_mul_emod_self_left]
  exact Int.emod_eq_of_lt h0 h1
theorem far_0 {n : Nat} {x k f : Int} (hn : 1 ≤ n) (hn2 : n ≤ 60) : farOk n 0 ((x - k) % (n : Int) + f % 3 * (n : Int)) := by
  have a1 := Int.emod_nonneg (x - k) (show (n : Int) ≠ 0 by omega)
  have a2 := Int.emod_lt_of_pos (x - k) (show (0 : Int) < (n : Int) by omega)
  have f3 : f % 3 = 0 ∨ f % 3 = 1 ∨ f % 3 = 2 := by omega
  refine ⟨fun _ => ?_, fun h => absurd h (by decide), ?_, ?_⟩
  · rcases f3 with h | h | h <;> rw [h] <;> omega
  · rcases f3 with h | h | h <;> rw [h] <;> omega
  · rcases f3 with h | h | h <;> rw [h] <;> omega
theorem far_1 {n : Nat} {x k f : Int} (hn : 1 ≤ n) (hn2 : n ≤ 60) (h0 : 0 ≤ x) (h1 : x < n) (k0 : 0 ≤ k) (k1 : k < n) : farOk n 1 (x - k + (f % 7 - 3) * (n : Int)) := by
  have f7 : f % 7 = 0 ∨ f % 7 = 1 ∨ f % 7 = 2 ∨ f % 7 = 3 ∨ f % 7 = 4 ∨ f % 7 = 5 ∨ f % 7 = 6 := by omega
  refine ⟨fun h => absurd h (by decide), fun _ => ?_, ?_, ?_⟩
  · rcases f7 with h | h | h | h | h | h | h <;> rw [h] <;> omega
  · rcases f7 with h | h | h | h | h | h | h <;> rw [h] <;> omega
  · rcases f7 with h | h | h | h | h | h | h <;> rw [h] <;> omega
theorem far_2 {n : Nat} {x k f kind : Int} (hn : 1 ≤ n) (hn2 : n ≤ 60) (h0 : 0 ≤ x) (h1 : x < n) (k0 : 0 ≤ k) (k1 : k < n) (d0 : kind ≠ 0) (d1 : kind ≠ 1) :
    farOk n kind (x - k + (f % (2 * ((1000000 - (n : Int)) / (n : Int)) + 1) - (1000000 - (n : Int)) / (n : Int)) * (n : Int)) := by
  have hm0 : 0 ≤ (1000000 - (n : Int)) / (n : Int) := Int.ediv_nonneg (by omega) (by omega)
  have hm : (1000000 - (n : Int)) / (n : Int) * (n : Int) ≤ 1000000 - (n : Int) := Int.ediv_mul_le _ (by omega)
  generalize (1000000 - (n : Int)) / (n : Int) = m at hm hm0
  have a1 := Int.emod_nonneg f (show 2 * m + 1 ≠ 0 by omega)
  have a2 := Int.emod_lt_of_pos f (show 0 < 2 * m + 1 by omega)
  generalize f % (2 * m + 1) = g at a1 a2
  have b1 : -m ≤ g - m := by omega
  have b2 : g - m ≤ m := by omega
  have c1 : -m * (n : Int) ≤ (g - m) * (n : Int) := Int.mul_le_mul_of_nonneg_right b1 (by omega)
  have c2 : (g - m) * (n : Int) ≤ m * (n : Int) := Int.mul_le_mul_of_nonneg_right b2 (by omega)
  rw [Int.neg_mul] at c1
  generalize (g - m) * (n : Int) = u at c1 c2
  generalize m * (n : Int) = z at c1 c2 hm
  exact ⟨fun h => absurd h d0, fun h => absurd h d1, by omega, by omega⟩
/-- one throw more -/
theorem lands_snoc {n i : Nat} {xs ts : List Int} {t : Int} (hl : ts.length = i) (hto : ∀ k, k < i → ((k : Int) + ts.getD k 0) % (n : Int) = xs.getD k 0) (ht : ((i : Int) + t) % (n : Int) = xs.getD i 0) :
    (ts ++ [t]).length = i + 1 ∧ ∀ k, k < i + 1 → ((k : Int) + (ts ++ [t]).getD k 0) % (n : Int) = xs.getD k 0 := by
  refine ⟨by simp [hl], fun k hk => ?_⟩
  by_cases e : k < i
  · rw [List.getD_eq_getElem?_getD, List.getElem?_append_left (by omega), ← List.getD_eq_getElem?_getD]
    exact hto k e
  · have e2 : k = i := by omega
    subst e2
    rw [List.getD_eq_getElem?_getD, List.getElem?_append_right (by omega), hl, Nat.sub_self]
    exact ht
end TB

/-! ### what stands on spots of its own is a pattern -/
namespace TB
open PySem PySem.Spec PyProof.Rows L2 Evl
/-- a drawn pattern -/
structure Pat (n : Nat) (kind : Int) (ts : List Int) : Prop where
  len : ts.length = n
  row : RowI ts
  no : clashOf ts = none
  far : ∀ t ∈ ts, farOk n kind t
theorem clash_none_iff {ts : List Int} : clashOf ts = none ↔ ∀ i j, i < j → j < ts.length → land ts i ≠ land ts j := by
  unfold clashOf
  rw [List.findSome?_eq_none_iff]
  constructor
  · intro h i j hij hj e
    have h1 := h j (List.mem_range.mpr hj)
    rw [Option.map_eq_none_iff] at h1
    unfold seenAt at h1
    rw [List.find?_eq_none] at h1
    exact h1 i (List.mem_range.mpr hij) (by rw [e]; exact decide_eq_true rfl)
  · intro h j hj
    rw [Option.map_eq_none_iff]
    unfold seenAt
    rw [List.find?_eq_none]
    intro i hi e
    exact h i j (List.mem_range.mp hi) (List.mem_range.mp hj) (of_decide_eq_true e)
theorem natsI_nodup (n : Nat) : (natsI n).Nodup := by
  unfold natsI
  rw [List.nodup_iff_pairwise_ne, List.pairwise_map]
  exact List.pairwise_lt_range.imp fun h e => by omega
theorem getD_inj {xs : List Int} (h : xs.Nodup) {i j : Nat} (hi : i < xs.length) (hj : j < xs.length) (e : xs.getD i 0 = xs.getD j 0) : i = j := by
  rw [List.getD_eq_getElem?_getD, List.getElem?_eq_getElem hi, List.getD_eq_getElem?_getD, List.getElem?_eq_getElem hj] at e
  exact (List.getElem_inj h).mp e
theorem pat_of {n : Nat} {kind : Int} {xs ts : List Int} (hn1 : 1 ≤ n) (hn : n ≤ 60) (pm : xs.Perm (natsI n)) (h : Lands n kind xs ts) : Pat n kind ts := by
  have hl : xs.length = n := by rw [pm.length_eq, natsI_len]
  have nd : xs.Nodup := (pm.nodup_iff).mpr (natsI_nodup n)
  refine ⟨h.len, ⟨by rw [h.len]; exact hn1, by rw [h.len]; exact hn, fun t ht => (h.far t ht).2.2⟩, ?_, h.far⟩
  rw [clash_none_iff]
  intro i j hij hj e
  rw [h.len] at hj
  unfold land at e
  rw [h.len, h.to i (by omega), h.to j hj] at e
  have := getD_inj nd (by omega) (by omega) e
  omega
section
variable {σ : L2.St} {H : Hp} {tz : TS} {D : Ends}
/-- the laws' pattern, drawn -/
theorem q_throws {E : XK} {ta : TA} {i n : Nat} {c kind : Int} (hn1 : 1 ≤ n) (hn : n ≤ 60) (h : EvA ta σ H [.int (n : Int), .int c, .int kind])
    (k : ∀ ts p H1, Pat n kind ts → H p = none → Ex H H1 → H1 p = some (.lst (ts.map V.int)) → tz D (σ.set i (some (.ref p))) H1) : tSeq (tAsg (tCall sp_throws [] E ta) (gName i)) tz D σ H :=
  q_relL (P := Pat n kind) h (fun H1 e1 Q E k => ⟨n, c, kind, rfl, hn, hn1, fun xs ts pm hl => k ts (pat_of hn1 hn pm hl)⟩) k
end
theorem size_nat (c : Int) : ∃ n : Nat, sizeBy c = (n : Int) ∧ 1 ≤ n ∧ n ≤ 60 := by
  have h1 := sizeBy_1 c
  have h2 := sizeBy_60 c
  exact ⟨(sizeBy c).toNat, by omega, by omega, by omega⟩
theorem mod_nat (c : Int) {n : Nat} (hn : 1 ≤ n) : ∃ m : Nat, c % (n : Int) = (m : Int) ∧ m < n := by
  have h1 := Int.emod_nonneg c (show (n : Int) ≠ 0 by omega)
  have h2 := Int.emod_lt_of_pos c (show (0 : Int) < (n : Int) by omega)
  exact ⟨(c % (n : Int)).toNat, by omega, by omega⟩
theorem getD_mem {ns : List Int} {j : Nat} (h : j < ns.length) : ns.getD j 0 ∈ ns := by
  rw [List.getD_eq_getElem?_getD, List.getElem?_eq_getElem h]
  exact List.getElem_mem h
theorem rowI_set {ns : List Int} {j : Nat} {x : Int} (h : RowI ns) (hx : -1000000 ≤ x ∧ x ≤ 1000000) : RowI (ns.set j x) := by
  obtain ⟨h1, h2, h3⟩ := h
  refine ⟨by rw [List.length_set]; exact h1, by rw [List.length_set]; exact h2, fun n hn => ?_⟩
  rcases List.mem_or_eq_of_mem_set hn with hm | hm
  · exact h3 n hm
  · rw [hm]
    exact hx
end TB

/-! ### plain mathematics: what lands apart goes round -/
namespace TB
open PySem PySem.Spec PyProof.Rows L2 Evl
theorem perm_of_subset {α : Type} [DecidableEq α] : ∀ {l m : List α}, l.Nodup → (∀ x ∈ l, x ∈ m) → m.length ≤ l.length → l.Perm m
  | [], m, _, _, hl => by
    have : m = [] := List.length_eq_zero_iff.mp (by simpa using hl)
    rw [this]
  | a :: l, m, hn, hs, hl => by
    obtain ⟨h1, h2⟩ := List.nodup_cons.mp hn
    have ha : a ∈ m := hs a List.mem_cons_self
    have pm := List.perm_cons_erase ha
    refine ((perm_of_subset h2 (fun x hx => ?_) ?_).cons a).trans pm.symm
    · have hne : x ≠ a := fun e => h1 (e ▸ hx)
      exact (List.mem_erase_of_ne hne).mpr (hs x (List.mem_cons_of_mem _ hx))
    · have := pm.length_eq
      rw [List.length_cons] at this hl
      omega
theorem land_nn {ns : List Int} (j : Nat) (h : 1 ≤ ns.length) : 0 ≤ land ns j := Int.emod_nonneg _ (by omega)
theorem land_lt {ns : List Int} (j : Nat) (h : 1 ≤ ns.length) : land ns j < (ns.length : Int) := Int.emod_lt_of_pos _ (by omega)
/-- all landings -/
def lands (ns : List Int) : List Int := (List.range ns.length).map (land ns)
theorem lands_len (ns : List Int) : (lands ns).length = ns.length := by simp [lands]
theorem lands_get {ns : List Int} {j : Nat} (h : j < ns.length) : (lands ns).getD j 0 = land ns j := by
  unfold lands
  rw [List.getD_eq_getElem?_getD, List.getElem?_map, List.getElem?_range h]
  rfl
theorem lands_nodup {ns : List Int} (h : clashOf ns = none) : (lands ns).Nodup := by
  rw [clash_none_iff] at h
  unfold lands
  rw [List.nodup_iff_pairwise_ne, List.pairwise_map, List.pairwise_iff_getElem]
  intro i j hi hj hij
  rw [List.getElem_range, List.getElem_range]
  rw [List.length_range] at hi hj
  exact h i j hij hj
theorem lands_perm {ns : List Int} (h1 : 1 ≤ ns.length) (h : clashOf ns = none) : (lands ns).Perm (natsI ns.length) :=
  perm_of_subset (lands_nodup h) (fun x hx => by
    obtain ⟨j, hj, rfl⟩ := List.mem_map.mp hx
    exact natsI_mem.mpr ⟨land_nn j h1, land_lt j h1⟩) (by rw [lands_len, natsI_len]; exact Nat.le_refl _)
theorem perm_sum {l m : List Int} (h : l.Perm m) : l.sum = m.sum := by
  induction h with
  | nil => rfl
  | cons a _ ih => rw [List.sum_cons, List.sum_cons, ih]
  | swap a b l => rw [List.sum_cons, List.sum_cons, List.sum_cons, List.sum_cons]; omega
  | trans _ _ h1 h2 => rw [h1, h2]
theorem getD_map_range (ns : List Int) : (List.range ns.length).map (fun j : Nat => ns.getD j 0) = ns := by
  apply List.ext_getElem
  · simp
  · intro i h1 h2
    rw [List.getElem_map, List.getElem_range, List.getD_eq_getElem?_getD, List.getElem?_eq_getElem h2]
    rfl
theorem sum_map_add {α : Type} (f g : α → Int) (l : List α) : (l.map fun x => f x + g x).sum = (l.map f).sum + (l.map g).sum := by
  induction l with
  | nil => rfl
  | cons a r ih =>
    rw [List.map_cons, List.map_cons, List.map_cons, List.sum_cons, List.sum_cons, List.sum_cons, ih]
    omega
theorem sum_map_mul {α : Type} (c : Int) (f : α → Int) (l : List α) : (l.map fun x => c * f x).sum = c * (l.map f).sum := by
  induction l with
  | nil => simp
  | cons a r ih =>
    rw [List.map_cons, List.map_cons, List.sum_cons, List.sum_cons, ih, Int.mul_add]
/-- the sum of a pattern's throws is its length times the times that its landings go round -/
theorem pat_sum {ns : List Int} (h1 : 1 ≤ ns.length) (h : clashOf ns = none) : ns.sum = (ns.length : Int) * ((List.range ns.length).map fun j : Nat => ((j : Int) + ns.getD j 0) / (ns.length : Int)).sum := by
  have e1 : ((List.range ns.length).map fun j : Nat => ((j : Int) + ns.getD j 0)).sum = ((List.range ns.length).map fun j : Nat => (ns.length : Int) * (((j : Int) + ns.getD j 0) / (ns.length : Int)) + land ns j).sum := by
    congr 1
    apply List.map_congr_left
    intro j _
    unfold land
    exact (Int.mul_ediv_add_emod _ _).symm
  rw [sum_map_add (fun j : Nat => (j : Int)) (fun j : Nat => ns.getD j 0), getD_map_range, sum_map_add (fun j : Nat => (ns.length : Int) * (((j : Int) + ns.getD j 0) / (ns.length : Int))) (land ns), sum_map_mul] at e1
  have e2 : ((List.range ns.length).map (land ns)).sum = ((List.range ns.length).map fun j : Nat => (j : Int)).sum := perm_sum (lands_perm h1 h)
  omega
theorem pat_dvd {ns : List Int} (h1 : 1 ≤ ns.length) (h : clashOf ns = none) : ns.sum / (ns.length : Int) * (ns.length : Int) = ns.sum := by
  have e := pat_sum h1 h
  rw [e, Int.mul_ediv_cancel_left _ (show (ns.length : Int) ≠ 0 by omega), Int.mul_comm]
end TB

/-! ### the laws' comparison of lists -/
namespace TB
open PySem PySem.Spec PyProof.Rows L2 Evl
def sp_same (K : PySem.W.Frag) : Sp := fun vs H Q E => ∃ (p r : Addr) (ns ms : List Int), vs = [.ref p, .ref r] ∧ H p = some (.lst (ns.map V.int)) ∧ SqL K H r (ms.map V.int) ∧ ms.length ≤ 1000 ∧ RetV (.bl (decide (ns = ms))) H Q
theorem sv_same {K : PySem.W.Frag} {H : Hp} {p r : Addr} {ns ms : List Int} (h1 : H p = some (.lst (ns.map V.int))) (h2 : SqL K H r (ms.map V.int)) (hl : ms.length ≤ 1000) : SpV (sp_same K) [.ref p, .ref r] H (.bl (decide (ns = ms))) := spv_of fun H1 e Q E k => ⟨p, r, ns, ms, rfl, e _ _ h1, ex_l e h2, hl, k⟩
def sp_number : Sp := fun vs H Q E => ∃ c, vs = [.int c] ∧ ∀ x, inM (.int x) = true → RetV (.int x) H Q
/-- two rows of whole numbers that agree everywhere -/
theorem ext_getD {l m : List Int} (h : l.length = m.length) (hg : ∀ i, i < l.length → l.getD i 0 = m.getD i 0) : l = m := by
  apply List.ext_getElem h
  intro i h1 h2
  have z := hg i h1
  rw [List.getD_eq_getElem?_getD, List.getElem?_eq_getElem h1, List.getD_eq_getElem?_getD, List.getElem?_eq_getElem h2] at z
  exact z
theorem getD_map {α : Type} (f : α → Int) (l : List α) (d : α) {i : Nat} (h : i < l.length) : (l.map f).getD i 0 = f (l.getD i d) := by
  rw [List.getD_eq_getElem?_getD, List.getElem?_map, List.getElem?_eq_getElem h, List.getD_eq_getElem?_getD, List.getElem?_eq_getElem h]
  rfl
theorem getD_rng (f : Nat → Int) {n i : Nat} (h : i < n) : ((List.range n).map f).getD i 0 = f i := by
  rw [List.getD_eq_getElem?_getD, List.getElem?_map, List.getElem?_range h]
  rfl
end TB

/-! ### plain mathematics: patterns after one another, back, mirrored, gaps -/
namespace TB
open PySem PySem.Spec PyProof.Rows L2 Evl
/-- a number between 0 and n by what it leaves -/
theorem emod_unique {n x y : Int} (h0 : 0 ≤ x) (h1 : x < n) (h2 : 0 ≤ y) (h3 : y < n) (h : x % n = y % n) : x = y := by
  rw [Int.emod_eq_of_lt h0 h1, Int.emod_eq_of_lt h2 h3] at h
  exact h
theorem land_inj {ns : List Int} (hc : clashOf ns = none) {i j : Nat} (hi : i < ns.length) (hj : j < ns.length) (e : land ns i = land ns j) : i = j := by
  rw [clash_none_iff] at hc
  rcases Nat.lt_trichotomy i j with h | h | h
  · exact absurd e (hc i j h hj)
  · exact h
  · exact absurd e.symm (hc j i h hi)
theorem clash_none_of {ns : List Int} (h : ∀ i j, i < ns.length → j < ns.length → land ns i = land ns j → i = j) : clashOf ns = none := by
  rw [clash_none_iff]
  intro i j hij hj e
  have := h i j (by omega) hj e
  omega
/-- where a beat lands, as a beat of the row -/
def ld (ns : List Int) (b : Nat) : Nat := (land ns b).toNat
theorem ld_cast {ns : List Int} (b : Nat) (h1 : 1 ≤ ns.length) : ((ld ns b : Nat) : Int) = land ns b := by
  have := land_nn (ns := ns) b h1
  unfold ld
  omega
theorem ld_lt {ns : List Int} (b : Nat) (h1 : 1 ≤ ns.length) : ld ns b < ns.length := by
  have := land_lt (ns := ns) b h1
  have := ld_cast (ns := ns) b h1
  omega
theorem ld_inj {ns : List Int} (h1 : 1 ≤ ns.length) (hc : clashOf ns = none) {i j : Nat} (hi : i < ns.length) (hj : j < ns.length) (e : ld ns i = ld ns j) : i = j := by
  refine land_inj hc hi hj ?_
  rw [← ld_cast i h1, ← ld_cast j h1, e]
/-- an injection of 0 .. n - 1 into itself is onto -/
theorem inj_perm {n : Nat} {f : Nat → Nat} (hb : ∀ i, i < n → f i < n) (hi : ∀ i j, i < n → j < n → f i = f j → i = j) : ((List.range n).map f).Perm (List.range n) := by
  refine perm_of_subset ?_ (fun x hx => ?_) (by simp)
  · rw [List.nodup_iff_pairwise_ne, List.pairwise_map, List.pairwise_iff_getElem]
    intro i j hi' hj' hij e
    rw [List.getElem_range, List.getElem_range] at e
    rw [List.length_range] at hi' hj'
    have := hi i j hi' hj' e
    omega
  · obtain ⟨i, h, rfl⟩ := List.mem_map.mp hx
    exact List.mem_range.mpr (hb i (List.mem_range.mp h))
theorem inj_onto {n : Nat} {f : Nat → Nat} (hb : ∀ i, i < n → f i < n) (hi : ∀ i j, i < n → j < n → f i = f j → i = j) {l : Nat} (hl : l < n) : ∃ b, b < n ∧ f b = l := by
  have h := (inj_perm hb hi).mem_iff.mpr (List.mem_range.mpr hl)
  obtain ⟨b, hb2, e⟩ := List.mem_map.mp h
  exact ⟨b, List.mem_range.mp hb2, e⟩
theorem sum_reindex {n : Nat} {f : Nat → Nat} (hb : ∀ i, i < n → f i < n) (hi : ∀ i j, i < n → j < n → f i = f j → i = j) (g : Nat → Int) : ((List.range n).map fun b => g (f b)).sum = ((List.range n).map g).sum := by
  have h := perm_sum ((inj_perm hb hi).map g)
  rw [List.map_map] at h
  exact h
end TB

/-! ### plain mathematics: turned and lifted patterns -/
namespace TB
open PySem PySem.Spec PyProof.Rows L2 Evl
theorem allM_iff {ns : List Int} : allM ns = true ↔ ∀ n ∈ ns, -1000000 ≤ n ∧ n ≤ 1000000 := by
  unfold allM
  rw [List.all_eq_true]
  constructor
  · intro h n hn
    have := h n hn
    simpa using this
  · intro h n hn
    have := h n hn
    simpa using this
theorem rowI_of {ns : List Int} (h1 : 1 ≤ ns.length) (h2 : ns.length ≤ 60) (h : allM ns = true) : RowI ns := ⟨h1, h2, allM_iff.mp h⟩
theorem lift_clash {ns : List Int} (k : Int) (h : clashOf ns = none) : clashOf (ns.map (· + k)) = none := by
  rw [clash_none_iff] at h ⊢
  intro i j hij hj e
  rw [List.length_map] at hj
  refine h i j hij hj ?_
  unfold land at e ⊢
  rw [List.length_map, getD_map (fun x => x + k) ns 0 (by omega), getD_map (fun x => x + k) ns 0 hj] at e
  rw [show (i : Int) + (ns.getD i 0 + k) = (i : Int) + ns.getD i 0 + k by omega, show (j : Int) + (ns.getD j 0 + k) = (j : Int) + ns.getD j 0 + k by omega] at e
  exact (Int.emod_add_cancel_right k).mp e
theorem lift_sum (ns : List Int) (k : Int) : (ns.map (· + k)).sum = ns.sum + (ns.length : Int) * k := by
  induction ns with
  | nil => simp
  | cons a r ih =>
    rw [List.map_cons, List.sum_cons, List.sum_cons, ih, List.length_cons, Int.natCast_add, Int.add_mul]
    omega
theorem lift_balls {ns : List Int} (k : Int) (h1 : 1 ≤ ns.length) : (ns.map (· + k)).sum / ((ns.map (· + k)).length : Int) = ns.sum / (ns.length : Int) + k := by
  rw [lift_sum, List.length_map, Int.add_mul_ediv_left _ _ (show (ns.length : Int) ≠ 0 by omega)]
theorem turn_get {ns : List Int} (k : Int) (h1 : 1 ≤ ns.length) : turnI ns k = (List.range ns.length).map fun b : Nat => ns.getD ((k + (b : Int)) % (ns.length : Int)).toNat 0 := by
  have s0 : 0 ≤ k % (ns.length : Int) := Int.emod_nonneg _ (by omega)
  have s1 : k % (ns.length : Int) < (ns.length : Int) := Int.emod_lt_of_pos _ (by omega)
  have hs : ∀ b : Int, (k + b) % (ns.length : Int) = (k % (ns.length : Int) + b) % (ns.length : Int) := fun b => by rw [Int.emod_add_emod]
  have tl : (turnI ns k).length = ns.length := by
    unfold turnI
    rw [List.length_append, List.length_drop, List.length_take]
    omega
  apply ext_getD (by rw [tl]; simp)
  intro i hi
  rw [tl] at hi
  rw [getD_rng _ hi, hs]
  unfold turnI
  generalize k % (ns.length : Int) = s at s0 s1
  have es : ((s.toNat : Nat) : Int) = s := by omega
  by_cases hc : i < ns.length - s.toNat
  · rw [List.getD_eq_getElem?_getD, List.getElem?_append_left (by rw [List.length_drop]; omega), List.getElem?_drop, ← List.getD_eq_getElem?_getD, Int.emod_eq_of_lt (by omega) (by omega)]
    congr 1
    omega
  · rw [List.getD_eq_getElem?_getD, List.getElem?_append_right (by rw [List.length_drop]; omega), List.length_drop, List.getElem?_take_of_lt (by omega), ← List.getD_eq_getElem?_getD]
    have e : (s + (i : Int)) % (ns.length : Int) = s + (i : Int) - (ns.length : Int) := by
      rw [← Int.sub_emod_right]
      exact Int.emod_eq_of_lt (by omega) (by omega)
    rw [e]
    congr 1
    omega
end TB

/-! ### what the laws have in common -/
namespace TB
open PySem PySem.Spec PyProof.Rows L2 Evl
section
variable {K : PySem.W.Frag} {σ : L2.St} {H H' : Hp} {t1 t2 : TE} {tz : TS} {D : Ends} {sp : Sp} {dvs xs ys zs : List V} {E : XK} {ES : L2.St → XK} {v z : V}
theorem el_cLV (h1 : EvL t1 σ H xs) (h2 : Ev t2 σ H v) (hs : ∀ p H1, H1 p = some (.lst xs) → Ex H H1 → SpL sp ([.ref p, v] ++ dvs) H1 zs) : EvL (tCall sp dvs E (tCons t1 (tCons t2 tNil))) σ H zs := fun H1 e Q q =>
  h1 H1 e _ fun p H2 _ e2 g1 => h2 H2 (e.trans e2) _ fun H3 e3 => hs p H3 (e3 _ _ g1) ((e.trans e2).trans e3) H3 (Ex.refl H3) Q (fun r H4 hr e4 => q r H4 (fresh_back (e2.trans e3) hr) ((e2.trans e3).trans e4)) E
theorem el_cL (h1 : EvL t1 σ H xs) (hs : ∀ p H1, H1 p = some (.lst xs) → Ex H H1 → SpL sp ([.ref p] ++ dvs) H1 zs) : EvL (tCall sp dvs E (tCons t1 tNil)) σ H zs := fun H1 e Q q =>
  h1 H1 e _ fun p H2 _ e2 g1 => hs p H2 g1 (e.trans e2) H2 (Ex.refl H2) Q (fun r H4 hr e4 => q r H4 (fresh_back e2 hr) (e2.trans e4)) E
theorem el_cLVS (h1 : EvL t1 σ H xs) (h2 : Ev t2 σ H v) (hs : ∀ p H1, H1 p = some (.lst xs) → Ex H H1 → SpL sp [.ref p, v] H1 zs) : EvL (tCallS sp ES (tCons t1 (tCons t2 tNil))) σ H zs := fun H1 e Q q =>
  h1 H1 e _ fun p H2 _ e2 g1 => h2 H2 (e.trans e2) _ fun H3 e3 => hs p H3 (e3 _ _ g1) ((e.trans e2).trans e3) H3 (Ex.refl H3) Q (fun r H4 hr e4 => q r H4 (fresh_back (e2.trans e3) hr) ((e2.trans e3).trans e4)) (ES σ)
theorem rz_cLVS (h1 : EvL t1 σ H xs) (h2 : Ev t2 σ H v) (hs : ∀ p H1, H1 p = some (.lst xs) → Ex H H1 → ∀ Q : VK, sp [.ref p, v] H1 Q (ES σ)) : Rz (tCallS sp ES (tCons t1 (tCons t2 tNil))) σ H := fun H1 e Q =>
  h1 H1 e _ fun p H2 _ e2 g1 => h2 H2 (e.trans e2) _ fun H3 e3 => hs p H3 (e3 _ _ g1) ((e.trans e2).trans e3) Q
theorem rz_cLV (h1 : EvL t1 σ H xs) (h2 : Ev t2 σ H v) (hs : ∀ p H1, H1 p = some (.lst xs) → Ex H H1 → ∀ Q : VK, sp ([.ref p, v] ++ dvs) H1 Q E) : Rz (tCall sp dvs E (tCons t1 (tCons t2 tNil))) σ H := fun H1 e Q =>
  h1 H1 e _ fun p H2 _ e2 g1 => h2 H2 (e.trans e2) _ fun H3 e3 => hs p H3 (e3 _ _ g1) ((e.trans e2).trans e3) Q
end
theorem cut_one (ns : List Int) (s : Nat) (h : s < ns.length) : cutV (ns.map V.int) (some (s : Int)) (some ((s : Int) + 1)) = [ns.getD s 0].map V.int := by
  unfold cutV
  rw [show (s : Int) + 1 = ((s + 1 : Nat) : Int) by omega, HT.sIx_nat, HT.sIx_nat, List.length_map, Nat.min_eq_left (by omega), Nat.min_eq_left (by omega), show s + 1 - s = 1 by omega, ← List.map_drop, ← List.map_take]
  congr 1
  rw [List.drop_eq_getElem_cons h, List.take_succ_cons, List.take_zero, List.getD_eq_getElem?_getD, List.getElem?_eq_getElem h]
  rfl
theorem cut_first (ns : List Int) (s : Nat) (h : s < ns.length) : cutV ((ns.drop s).map V.int) none (some (1 : Int)) = [ns.getD s 0].map V.int := by
  have z := cut_to ((ns.drop s).map V.int) 1
  rw [show (((1 : Nat) : Int)) = (1 : Int) from rfl] at z
  rw [z, ← List.map_take]
  congr 1
  rw [List.drop_eq_getElem_cons h, List.take_succ_cons, List.take_zero, List.getD_eq_getElem?_getD, List.getElem?_eq_getElem h]
  rfl
theorem sv_balls_of {K : PySem.W.Frag} {H : Hp} {a : Addr} {rs : List Int} (h : H a = some (.lst (rs.map V.int))) (hr : RowI rs) (hc : clashOf rs = none) : SpV (sp_balls_of K) [.ref a] H (.int (rs.sum / (rs.length : Int))) := spv_of fun H1 e Q E k => ⟨_, _, rfl, Row.of (e _ _ h), by
  unfold doorRe patRe
  rw [rowOk_of hr, if_pos rfl, rowsOf_some, hc]
  exact k⟩
theorem door_pat {f : List Int → Re} {ns : List Int} (hr : RowI ns) (hc : clashOf ns = none) : doorRe (some (ns.map V.int)) f = f ns := by
  unfold doorRe patRe
  rw [rowOk_of hr, if_pos rfl, rowsOf_some, hc]
theorem num_is {k : Int} {f : Int → Re} (h : inM (.int k) = true) : numRe (.int k) f = f k := by
  show (if inM (.int k) then f k else .err "OutOfBounds") = _
  rw [h, if_pos rfl]
theorem kept_is {ns : List Int} (h : allM ns = true) : keptRe ns = .lst (ns.map V.int) := by
  unfold keptRe
  rw [h, if_pos rfl]
theorem kept_no {ns : List Int} (h : allM ns = false) : keptRe ns = .err "OutOfBounds" := by
  unfold keptRe
  rw [h]
  rfl
def sp_law (K : PySem.W.Frag) : Sp := fun vs H Q E => ∃ (a : Addr) (ns : List Int), vs = [.ref a] ∧ SqL K H a (ns.map V.int) ∧ ∀ H', Q (.bl true) H'
theorem law_true {K : PySem.W.Frag} (H : Hp) (a : Addr) (ns : List Int) (_ : ns.length ≤ 63) (hS : SqL K H a (ns.map V.int)) : sp_law K [.ref a] H (fun v _ => v = .bl true) (fun _ _ _ => False) := ⟨a, ns, rfl, hS, fun _ => rfl⟩
end TB

/-! ### plain mathematics: landings exchanged -/
namespace TB
open PySem PySem.Spec PyProof.Rows L2 Evl
def swapI (ns : List Int) (i : Nat) (j : Int) (j2 : Nat) : List Int := (ns.set i (j + ns.getD j2 0 - (i : Int))).set j2 ((i : Int) + ns.getD i 0 - j)
theorem getD_set (l : List Int) (i k : Nat) (x : Int) (hi : i < l.length) : (l.set i x).getD k 0 = if i = k then x else l.getD k 0 := by
  rw [List.getD_eq_getElem?_getD, List.getElem?_set]
  by_cases e : i = k
  · rw [if_pos e, if_pos e, if_pos hi]
    rfl
  · rw [if_neg e, if_neg e, List.getD_eq_getElem?_getD]
theorem swap_len (ns : List Int) (i : Nat) (j : Int) (j2 : Nat) : (swapI ns i j j2).length = ns.length := by simp [swapI]
theorem swap_get {ns : List Int} {i : Nat} {j : Int} {j2 : Nat} (hi : i < ns.length) (hj : j2 < ns.length) (k : Nat) : (swapI ns i j j2).getD k 0 = if j2 = k then (i : Int) + ns.getD i 0 - j else if i = k then j + ns.getD j2 0 - (i : Int) else ns.getD k 0 := by
  unfold swapI
  rw [getD_set _ _ _ _ (by rw [List.length_set]; exact hj), getD_set _ _ _ _ hi]
def trI (i j2 k : Nat) : Nat := if j2 = k then i else if i = k then j2 else k
theorem swap_land {ns : List Int} {i : Nat} {j : Int} {j2 : Nat} (hi : i < ns.length) (hj : j2 < ns.length) (e : j % (ns.length : Int) = (j2 : Int)) (k : Nat) : land (swapI ns i j j2) k = land ns (trI i j2 k) := by
  have h1 : j = (j2 : Int) + (ns.length : Int) * (j / (ns.length : Int)) := by
    have := Int.emod_add_mul_ediv j (ns.length : Int)
    omega
  unfold land trI
  rw [swap_len, swap_get hi hj]
  by_cases h : j2 = k
  · rw [if_pos h, if_pos h, ← h]
    rw [show (j2 : Int) + ((i : Int) + ns.getD i 0 - j) = ((i : Int) + ns.getD i 0) + (ns.length : Int) * (-(j / (ns.length : Int))) by rw [Int.mul_neg]; omega, Int.add_mul_emod_self_left]
  · rw [if_neg h, if_neg h]
    by_cases h2 : i = k
    · rw [if_pos h2, if_pos h2, ← h2]
      rw [show (i : Int) + (j + ns.getD j2 0 - (i : Int)) = ((j2 : Int) + ns.getD j2 0) + (ns.length : Int) * (j / (ns.length : Int)) by omega, Int.add_mul_emod_self_left]
    · rw [if_neg h2, if_neg h2]
theorem swap_clash {ns : List Int} {i : Nat} {j : Int} {j2 : Nat} (hi : i < ns.length) (hj : j2 < ns.length) (e : j % (ns.length : Int) = (j2 : Int)) (hc : clashOf ns = none) : clashOf (swapI ns i j j2) = none := by
  refine clash_none_of fun a b ha hb ee => ?_
  rw [swap_len] at ha hb
  rw [swap_land hi hj e, swap_land hi hj e] at ee
  have z : trI i j2 a < ns.length := by unfold trI; split; exact hi; split; exact hj; exact ha
  have z2 : trI i j2 b < ns.length := by unfold trI; split; exact hi; split; exact hj; exact hb
  have w := land_inj hc z z2 ee
  unfold trI at w
  split at w <;> split at w <;> (try split at w) <;> (try split at w) <;> omega
theorem sum_set : ∀ (l : List Int) (i : Nat) (x : Int), i < l.length → (l.set i x).sum = l.sum - l.getD i 0 + x
  | [], _, _, h => absurd h (by simp)
  | a :: r, 0, x, _ => by
    rw [List.set_cons_zero, List.sum_cons, List.sum_cons]
    show x + r.sum = a + r.sum - a + x
    omega
  | a :: r, i + 1, x, h => by
    rw [List.set_cons_succ, List.sum_cons, List.sum_cons, sum_set r i x (by simpa using h)]
    show a + (r.sum - r.getD i 0 + x) = a + r.sum - r.getD i 0 + x
    omega
theorem swap_sum {ns : List Int} {i : Nat} {j : Int} {j2 : Nat} (hi : i < ns.length) (hj : j2 < ns.length) (hn : i ≠ j2) : (swapI ns i j j2).sum = ns.sum := by
  unfold swapI
  rw [sum_set _ _ _ (by rw [List.length_set]; exact hj), sum_set _ _ _ hi, getD_set _ _ _ _ hi, if_neg hn]
  omega
theorem swap_swap {ns : List Int} {i : Nat} {j : Int} {j2 : Nat} (hi : i < ns.length) (hj : j2 < ns.length) (hn : i ≠ j2) : swapI (swapI ns i j j2) i j j2 = ns := by
  apply ext_getD (by rw [swap_len, swap_len])
  intro k hk
  have gi : (swapI ns i j j2).getD i 0 = j + ns.getD j2 0 - (i : Int) := by
    rw [swap_get hi hj, if_neg (fun h => hn h.symm), if_pos rfl]
  have gj : (swapI ns i j j2).getD j2 0 = (i : Int) + ns.getD i 0 - j := by rw [swap_get hi hj, if_pos rfl]
  rw [swap_get (by rw [swap_len]; exact hi) (by rw [swap_len]; exact hj), gi, gj, swap_get hi hj]
  by_cases h : j2 = k
  · rw [if_pos h, ← h]; omega
  · rw [if_neg h, if_neg h]
    by_cases h2 : i = k
    · rw [if_pos h2, ← h2]; omega
    · rw [if_neg h2, if_neg h2]
def exI (ns : List Int) (k : Nat) : List Int := (ns.set k (ns.getD ((k + 1) % ns.length) 0 + 1)).set ((k + 1) % ns.length) (ns.getD k 0 - 1)
theorem exI_swap (ns : List Int) (k : Nat) : exI ns k = swapI ns k ((k : Int) + 1) ((k + 1) % ns.length) := by
  unfold exI swapI
  rw [show (k : Int) + 1 + ns.getD ((k + 1) % ns.length) 0 - (k : Int) = ns.getD ((k + 1) % ns.length) 0 + 1 by omega, show (k : Int) + ns.getD k 0 - ((k : Int) + 1) = ns.getD k 0 - 1 by omega]
end TB

/-! ### zip under a loop whose target is one name: the pair that was handed out may still be held -/
namespace TB
open PySem PySem.Spec PyProof.Rows L2 Evl
open Sem (wp)
abbrev IsZipN (h : Heap) (z TI TO : Addr) (f0 : Value) (b : Bool) : Prop :=
  h.get? z = some { cls := .type "zip", dict := none, data := .fields #[f0, .bool b, .bool false, .ref TI, .ref TO], slots := #[] }
def Held0 (f0 : Value) : Prop := f0 = .none ∨ ∃ n t, f0 = .int n t
section
variable {prog : Program} {w : World} {A : Around} {E : Value → Shared → Prop} {s : Shared}
theorem wpAny_alive {M : Model} {a : Addr} {Q : Option Obj → Shared → Prop} (h : Q (s.heap.get? a) s) : wpAny M A (loadIfAlive a) Q E s := fun _ _ _ => h
theorem isFreeN {z TI TO : Addr} {f0 : Value} {b : Bool} {Q : Bool → Shared → Prop} (hz : IsZipN s.heap z TI TO f0 b) (hf : Held0 f0) (h1 : Q true s)
    (h2 : ∀ h' b', IsZipN h' z TI TO f0 b' → Heap.SameBut z s.heap h' → Q false { s with heap := h' }) :
    wpAny (model prog w) A (Builtin.SmallTypes.ownedTupleIsFree (.ref z)) Q E s := by
  unfold Builtin.SmallTypes.ownedTupleIsFree
  refine wpAny_bind (wpAny_field hz rfl (x := f0) rfl ?_)
  rcases hf with rfl | ⟨n, t, rfl⟩
  · exact wpAny_pure h1
  · refine wpAny_bind (wpAny_alive ?_)
    cases s.heap.get? n.toNat with
    | none => exact wpAny_pure h1
    | some o =>
      refine wpAny_bind (wpAny_field hz rfl (x := .bool b) rfl ?_)
      cases b with
      | true =>
        have z2 := h2 s.heap true hz (Heap.SameBut.refl ..)
        exact wpAny_bind (wpAny_pure (wpAny_pure z2))
      | false =>
        exact wpAny_bind (wpAny_setField_rec hz (by simp) fun h' hz' hs' => wpAny_pure (h2 h' true hz' hs'))
theorem zipN_item {z TI TO i1 i2 l1 l2 : Addr} {k1 k2 : Nat} {xs ys : Array Value} {x y a b f0 : Value} {bb : Bool} {Q : Value → Shared → Prop} (D : ZipApart z TI TO i1 i2 l1 l2)
    (hz : IsZipN s.heap z TI TO f0 bb) (hf : Held0 f0) (hTI : IsPair s.heap TI (.ref i1) (.ref i2)) (hTO : IsPair s.heap TO a b)
    (h1 : s.heap.IsListIter i1 l1 k1) (h2 : s.heap.IsListIter i2 l2 k2) (hl1 : s.heap.IsList l1 xs) (hl2 : s.heap.IsList l2 ys) (hx : xs[k1]? = some x) (hy : ys[k2]? = some y)
    (hQ : ∀ h' f0' b' a' b2, IsZipN h' z TI TO f0' b' → Held0 f0' → IsPair h' TO a' b2 → h'.IsListIter i1 l1 (k1 + 1) → h'.IsListIter i2 l2 (k2 + 1) → IsPair h' s.heap.objs.size x y → h'.objs.size = s.heap.objs.size + 1 →
      (∀ c o, c ≠ z → c ≠ TO → c ≠ i1 → c ≠ i2 → s.heap.get? c = some o → h'.get? c = some o) → Q (.ref s.heap.objs.size) { s with heap := h' }) :
    wpAny (model prog w) A (Builtin.«zip.__next__» ⟨[.ref z], []⟩) (fun fin s' => ∃ v, fin = .done (.ret v) ∧ Q v s') E s := by
  show wpAny _ _ (field (.ref z) 2 >>= _) _ _ _
  refine wpAny_bind (wpAny_field hz rfl (x := .bool false) rfl ?_)
  show wpAny _ _ (field (.ref z) 3 >>= _) _ _ _
  refine wpAny_bind (wpAny_field hz rfl (x := .ref TI) rfl ?_)
  refine wpAny_bind (wpAny_seqItems hTI rfl ?_)
  show wpAny _ _ (Builtin.SmallTypes.ownedTupleIsFree (.ref z) >>= _) _ _ _
  refine wpAny_bind (isFreeN hz hf ?_ fun h₀ b₀ hz₀ hs₀ => ?_)
  · simp only [if_true]
    refine wpAny_bind (wpAny_rule ?_)
    refine wpAny_bind (wpAny_field hz rfl (x := .ref TO) rfl ?_)
    refine wpAny_bind (wpAny_setField_rec hz (by simp) fun h₁ hz₁ hs₁ => ?_)
    replace hz₁ : IsZipN h₁ z TI TO .ellipsis bb := hz₁
    refine wpAny_bind ?_
    simp only [List.zipIdx_cons, List.zipIdx_nil, List.forIn_cons, List.forIn_nil]
    refine wpAny_bind (wpAny_bind (wpAny_onRaise ?_))
    show wpAny _ _ (Builtin.SmallTypes.nextOf (.ref i1) >>= _) _ _ _
    refine wpAny_bind (wpAny_nextOf_list_item (h1.extBut hs₁.extBut D.i1z) (hl1.extBut hs₁.extBut D.l1z) hx fun h₂ h1₂ hs₂ => wpAny_pure ?_)
    have hTO₂ : IsPair h₂ TO a b := hs₂.extBut _ _ D.TOi1 (hs₁.extBut _ _ D.TOz hTO)
    refine wpAny_bind (wpAny_seqItems hTO₂ rfl ?_)
    refine wpAny_bind (wpAny_updateSeq_pair hTO₂ fun h₃ hTO₃ hs₃ => ?_)
    replace hTO₃ : IsPair h₃ TO x b := hTO₃
    refine wpAny_bind (wpAny_letGo (wpAny_pure ?_))
    refine wpAny_bind (wpAny_bind (wpAny_onRaise ?_))
    show wpAny _ _ (Builtin.SmallTypes.nextOf (.ref i2) >>= _) _ _ _
    refine wpAny_bind (wpAny_nextOf_list_item (((h2.extBut hs₁.extBut D.i2z).extBut hs₂.extBut D.i12.symm).extBut hs₃.extBut D.TOi2.symm)
      (((hl2.extBut hs₁.extBut D.l2z).extBut hs₂.extBut D.l2i1).extBut hs₃.extBut D.l2TO) hy fun h₄ h2₄ hs₄ => wpAny_pure ?_)
    have hTO₄ : IsPair h₄ TO x b := hs₄.extBut _ _ D.TOi2 hTO₃
    refine wpAny_bind (wpAny_seqItems hTO₄ rfl ?_)
    refine wpAny_bind (wpAny_updateSeq_pair hTO₄ fun h₅ hTO₅ hs₅ => ?_)
    replace hTO₅ : IsPair h₅ TO x y := hTO₅
    refine wpAny_bind (wpAny_letGo (wpAny_pure (wpAny_pure ?_)))
    refine wpAny_bind (wpAny_seqItems hTO₅ rfl ?_)
    refine wpAny_bind (wpAny_newTuple ?_)
    have hsz : h₅.objs.size = s.heap.objs.size := by rw [hs₅.1, hs₄.1, hs₃.1, hs₂.1, hs₁.1]
    have hz₅ : IsZipN h₅ z TI TO .ellipsis bb := hs₅.extBut _ _ D.TOz.symm (hs₄.extBut _ _ D.i2z.symm (hs₃.extBut _ _ D.TOz.symm (hs₂.extBut _ _ D.i1z.symm hz₁)))
    have hk₅ : ∀ c o, c ≠ z → c ≠ TO → c ≠ i1 → c ≠ i2 → s.heap.get? c = some o → h₅.get? c = some o := fun c o c1 c2 c3 c4 e =>
      hs₅.extBut _ _ c2 (hs₄.extBut _ _ c4 (hs₃.extBut _ _ c2 (hs₂.extBut _ _ c3 (hs₁.extBut _ _ c1 e))))
    have h1₅ : h₅.IsListIter i1 l1 (k1 + 1) := ((h1₂.extBut hs₃.extBut D.TOi1.symm).extBut hs₄.extBut D.i12).extBut hs₅.extBut D.TOi1.symm
    have h2₅ : h₅.IsListIter i2 l2 (k2 + 1) := h2₄.extBut hs₅.extBut D.TOi2.symm
    have hzlt : z < h₅.objs.size := Heap.lt_size hz₅
    show wpAny _ _ (Builtin.SmallTypes.ownedTupleHandOut (.ref z) (.ref h₅.objs.size) >>= _) _ _ _
    refine wpAny_bind ?_
    unfold Builtin.SmallTypes.ownedTupleHandOut
    have hz₆ : IsZipN (h₅.push { cls := .type "tuple", data := .seq #[x, y] }) z TI TO .ellipsis bb := Heap.get?_push_of_some _ hz₅
    refine wpAny_bind (wpAny_setField_rec hz₆ (by simp) fun h₇ hz₇ hs₇ => ?_)
    replace hz₇ : IsZipN h₇ z TI TO (rawInt h₅.objs.size) bb := hz₇
    refine wpAny_setField_rec hz₇ (by simp) fun h₈ hz₈ hs₈ => ?_
    replace hz₈ : IsZipN h₈ z TI TO (rawInt h₅.objs.size) false := hz₈
    have up : ∀ c o, c ≠ z → h₅.get? c = some o → h₈.get? c = some o := fun c o c1 e => hs₈.extBut _ _ c1 (hs₇.extBut _ _ c1 (Heap.get?_push_of_some _ e))
    have hT₈ : IsPair h₈ h₅.objs.size x y := hs₈.extBut _ _ (Nat.ne_of_gt hzlt) (hs₇.extBut _ _ (Nat.ne_of_gt hzlt) (Heap.get?_push_size _ rfl))
    have hz8 : h₈.objs.size = h₅.objs.size + 1 := by rw [hs₈.1, hs₇.1, Heap.size_push]
    rw [hsz] at hz₈ hT₈ hz8
    refine wpAny_pure ⟨_, rfl, ?_⟩
    show Q (.ref h₅.objs.size) _
    rw [hsz]
    exact hQ h₈ _ _ _ _ hz₈ (.inr ⟨_, _, rfl⟩) (up _ _ D.TOz hTO₅) (h1₅.at fun o e => up _ o D.i1z e) (h2₅.at fun o e => up _ o D.i2z e) hT₈ hz8 fun c o c1 c2 c3 c4 e => up c o c1 (hk₅ c o c1 c2 c3 c4 e)
  · simp only [Bool.false_eq_true, if_false]
    refine wpAny_bind ?_
    rw [← Array.forIn_toList]
    simp only [List.forIn_cons, List.forIn_nil]
    refine wpAny_bind (wpAny_bind (wpAny_holding ?_))
    show wpAny _ _ (Builtin.SmallTypes.nextOf (.ref i1) >>= _) _ _ _
    refine wpAny_bind (wpAny_nextOf_list_item (h1.extBut hs₀.extBut D.i1z) (hl1.extBut hs₀.extBut D.l1z) hx fun h₂ h1₂ hs₂ => wpAny_pure ?_)
    refine wpAny_pure ?_
    refine wpAny_bind (wpAny_bind (wpAny_holding ?_))
    show wpAny _ _ (Builtin.SmallTypes.nextOf (.ref i2) >>= _) _ _ _
    refine wpAny_bind (wpAny_nextOf_list_item ((h2.extBut hs₀.extBut D.i2z).extBut hs₂.extBut D.i12.symm)
      ((hl2.extBut hs₀.extBut D.l2z).extBut hs₂.extBut D.l2i1) hy fun h₄ h2₄ hs₄ => wpAny_pure ?_)
    refine wpAny_pure (wpAny_pure ?_)
    have hsz : h₄.objs.size = s.heap.objs.size := by rw [hs₄.1, hs₂.1, hs₀.1]
    have hz₄ : IsZipN h₄ z TI TO f0 b₀ := hs₄.extBut _ _ D.i2z.symm (hs₂.extBut _ _ D.i1z.symm hz₀)
    have hk₄ : ∀ c o, c ≠ z → c ≠ TO → c ≠ i1 → c ≠ i2 → s.heap.get? c = some o → h₄.get? c = some o := fun c o c1 c2 c3 c4 e =>
      hs₄.extBut _ _ c4 (hs₂.extBut _ _ c3 (hs₀.extBut _ _ c1 e))
    have hTO₄ : IsPair h₄ TO a b := hs₄.extBut _ _ D.TOi2 (hs₂.extBut _ _ D.TOi1 (hs₀.extBut _ _ D.TOz hTO))
    have h1₄ : h₄.IsListIter i1 l1 (k1 + 1) := h1₂.extBut hs₄.extBut D.i12
    refine wpAny_bind (wpAny_newTuple ?_ (by show 2 ≤ sizeLine; decide))
    refine wpAny_pure ⟨_, rfl, ?_⟩
    show Q (.ref h₄.objs.size) _
    rw [hsz]
    have up : ∀ c o, h₄.get? c = some o → (h₄.push { cls := .type "tuple", data := .seq #[x, y] }).get? c = some o := fun c o e => Heap.get?_push_of_some _ e
    have hT : IsPair (h₄.push { cls := .type "tuple", data := .seq #[x, y] }) s.heap.objs.size x y := by
      rw [← hsz]
      exact Heap.get?_push_size _ rfl
    exact hQ _ f0 b₀ a b (up _ _ hz₄) hf (up _ _ hTO₄) (h1₄.at fun o e => up _ o e) (h2₄.at fun o e => up _ o e) hT (by rw [Heap.size_push, hsz]) fun c o c1 c2 c3 c4 e => up c o (hk₄ c o c1 c2 c3 c4 e)
theorem zipN_end {z TI TO i1 i2 l1 l2 : Addr} {k1 k2 : Nat} {xs ys : Array Value} {a b f0 : Value} {bb : Bool} {Q : Fin → Shared → Prop} (hh : A.handled = none) (D : ZipApart z TI TO i1 i2 l1 l2)
    (hz : IsZipN s.heap z TI TO f0 bb) (hf : Held0 f0) (hTI : IsPair s.heap TI (.ref i1) (.ref i2)) (hTO : IsPair s.heap TO a b)
    (h1 : s.heap.IsListIter i1 l1 k1) (h2 : s.heap.IsListIter i2 l2 k2) (hl1 : s.heap.IsList l1 xs) (hl2 : s.heap.IsList l2 ys) (hend : xs[k1]? = none ∨ ys[k2]? = none)
    (hE : ∀ h' e, (∀ c o, c ≠ z → c ≠ TO → c ≠ i1 → c ≠ i2 → s.heap.get? c = some o → h'.get? c = some o) → (∃ o, h'.get? e = some o ∧ o.cls = .type "StopIteration") → E (.ref e) { s with heap := h' }) :
    wpAny (model prog w) A (Builtin.«zip.__next__» ⟨[.ref z], []⟩) Q E s := by
  show wpAny _ _ (field (.ref z) 2 >>= _) _ _ _
  refine wpAny_bind (wpAny_field hz rfl (x := .bool false) rfl ?_)
  show wpAny _ _ (field (.ref z) 3 >>= _) _ _ _
  refine wpAny_bind (wpAny_field hz rfl (x := .ref TI) rfl ?_)
  refine wpAny_bind (wpAny_seqItems hTI rfl ?_)
  show wpAny _ _ (Builtin.SmallTypes.ownedTupleIsFree (.ref z) >>= _) _ _ _
  refine wpAny_bind (isFreeN hz hf ?_ fun h₀ b₀ hz₀ hs₀ => ?_)
  · simp only [if_true]
    refine wpAny_bind (wpAny_rule ?_)
    refine wpAny_bind (wpAny_field hz rfl (x := .ref TO) rfl ?_)
    refine wpAny_bind (wpAny_setField_rec hz (by simp) fun h₁ hz₁ hs₁ => ?_)
    replace hz₁ : IsZipN h₁ z TI TO .ellipsis bb := hz₁
    refine wpAny_bind ?_
    simp only [List.zipIdx_cons, List.zipIdx_nil, List.forIn_cons, List.forIn_nil]
    refine wpAny_bind (wpAny_bind (wpAny_onRaise ?_))
    show wpAny _ _ (Builtin.SmallTypes.nextOf (.ref i1) >>= _) _ _ _
    cases hx : xs[k1]? with
    | none =>
      refine wpAny_bind (wpAny_nextOf_list_end hh (h1.extBut hs₁.extBut D.i1z) (hl1.extBut hs₁.extBut D.l1z) hx fun h₂ e hs₂ he => ?_)
      obtain ⟨oe, hoe, hce⟩ := he
      have hz₂ : IsZipN h₂ z TI TO .ellipsis bb := hs₂ _ _ D.i1z.symm hz₁
      have hez : e ≠ z := fun x => by subst x; rw [hz₂] at hoe; cases hoe; simp at hce
      refine wpAny_setField_rec hz₂ (by simp) fun h₃ _ hs₃ => hE h₃ e (fun c o c1 _ c3 _ x => hs₃.extBut _ _ c1 (hs₂ _ _ c3 (hs₁.extBut _ _ c1 x))) ⟨oe, hs₃.extBut _ _ hez hoe, hce⟩
    | some x =>
      have hy : ys[k2]? = none := by rcases hend with h | h; rw [hx] at h; cases h; exact h
      refine wpAny_bind (wpAny_nextOf_list_item (h1.extBut hs₁.extBut D.i1z) (hl1.extBut hs₁.extBut D.l1z) hx fun h₂ h1₂ hs₂ => wpAny_pure ?_)
      have hTO₂ : IsPair h₂ TO a b := hs₂.extBut _ _ D.TOi1 (hs₁.extBut _ _ D.TOz hTO)
      refine wpAny_bind (wpAny_seqItems hTO₂ rfl ?_)
      refine wpAny_bind (wpAny_updateSeq_pair hTO₂ fun h₃ hTO₃ hs₃ => ?_)
      refine wpAny_bind (wpAny_letGo (wpAny_pure ?_))
      refine wpAny_bind (wpAny_bind (wpAny_onRaise ?_))
      show wpAny _ _ (Builtin.SmallTypes.nextOf (.ref i2) >>= _) _ _ _
      refine wpAny_bind (wpAny_nextOf_list_end hh (((h2.extBut hs₁.extBut D.i2z).extBut hs₂.extBut D.i12.symm).extBut hs₃.extBut D.TOi2.symm)
        (((hl2.extBut hs₁.extBut D.l2z).extBut hs₂.extBut D.l2i1).extBut hs₃.extBut D.l2TO) hy fun h₄ e hs₄ he => ?_)
      obtain ⟨oe, hoe, hce⟩ := he
      have hz₄ : IsZipN h₄ z TI TO .ellipsis bb := hs₄ _ _ D.i2z.symm (hs₃.extBut _ _ D.TOz.symm (hs₂.extBut _ _ D.i1z.symm hz₁))
      have hez : e ≠ z := fun x => by subst x; rw [hz₄] at hoe; cases hoe; simp at hce
      refine wpAny_setField_rec hz₄ (by simp) fun h₅ _ hs₅ => hE h₅ e (fun c o c1 c2 c3 c4 x => hs₅.extBut _ _ c1 (hs₄ _ _ c4 (hs₃.extBut _ _ c2 (hs₂.extBut _ _ c3 (hs₁.extBut _ _ c1 x))))) ⟨oe, hs₅.extBut _ _ hez hoe, hce⟩
  · simp only [Bool.false_eq_true, if_false]
    refine wpAny_bind ?_
    rw [← Array.forIn_toList]
    simp only [List.forIn_cons, List.forIn_nil]
    refine wpAny_bind (wpAny_bind (wpAny_holding ?_))
    show wpAny _ _ (Builtin.SmallTypes.nextOf (.ref i1) >>= _) _ _ _
    cases hx : xs[k1]? with
    | none =>
      exact wpAny_bind (wpAny_nextOf_list_end hh (h1.extBut hs₀.extBut D.i1z) (hl1.extBut hs₀.extBut D.l1z) hx fun h₂ e hs₂ he => hE h₂ e (fun c o c1 _ c3 _ x => hs₂ _ _ c3 (hs₀.extBut _ _ c1 x)) he)
    | some x =>
      have hy : ys[k2]? = none := by rcases hend with h | h; rw [hx] at h; cases h; exact h
      refine wpAny_bind (wpAny_nextOf_list_item (h1.extBut hs₀.extBut D.i1z) (hl1.extBut hs₀.extBut D.l1z) hx fun h₂ h1₂ hs₂ => wpAny_pure ?_)
      refine wpAny_pure ?_
      refine wpAny_bind (wpAny_bind (wpAny_holding ?_))
      show wpAny _ _ (Builtin.SmallTypes.nextOf (.ref i2) >>= _) _ _ _
      exact wpAny_bind (wpAny_nextOf_list_end hh ((h2.extBut hs₀.extBut D.i2z).extBut hs₂.extBut D.i12.symm)
        ((hl2.extBut hs₀.extBut D.l2z).extBut hs₂.extBut D.l2i1) hy fun h₄ e hs₄ he => hE h₄ e (fun c o c1 _ c3 c4 x => hs₄ _ _ c4 (hs₂.extBut _ _ c3 (hs₀.extBut _ _ c1 x))) he)
theorem nextN_item {z TI TO i1 i2 l1 l2 : Addr} {k1 k2 : Nat} {xs ys : Array Value} {x y a b f0 : Value} {bb : Bool} {Q : Option Value → Shared → Prop} (D : ZipApart z TI TO i1 i2 l1 l2)
    (hz : IsZipN s.heap z TI TO f0 bb) (hf : Held0 f0) (hTI : IsPair s.heap TI (.ref i1) (.ref i2)) (hTO : IsPair s.heap TO a b)
    (h1 : s.heap.IsListIter i1 l1 k1) (h2 : s.heap.IsListIter i2 l2 k2) (hl1 : s.heap.IsList l1 xs) (hl2 : s.heap.IsList l2 ys) (hx : xs[k1]? = some x) (hy : ys[k2]? = some y)
    (hQ : ∀ h' f0' b' a' b2, IsZipN h' z TI TO f0' b' → Held0 f0' → IsPair h' TO a' b2 → h'.IsListIter i1 l1 (k1 + 1) → h'.IsListIter i2 l2 (k2 + 1) → IsPair h' s.heap.objs.size x y → h'.objs.size = s.heap.objs.size + 1 →
      (∀ c o, c ≠ z → c ≠ TO → c ≠ i1 → c ≠ i2 → s.heap.get? c = some o → h'.get? c = some o) → Q (some (.ref s.heap.objs.size)) { s with heap := h' }) :
    wpAny (model prog w) A (pyNext (.ref z)) Q E s := by
  have hT : s.TypeIs (.ref z) "zip" := ⟨_, hz, rfl⟩
  unfold pyNext
  exact wpAny_bind (wpAny_attempt (wpAny_callSpecial?_slot (name := Str.ofString "__next__") hT F.slot_zip_next
    (wpAny_call_entry F.slot_zip_next hT F.entry_zip_next
      (zipN_item D hz hf hTI hTO h1 h2 hl1 hl2 hx hy fun h' f0' b' a' b2 a1 a2 a3 a4 a5 a6 a7 a8 => wpAny_pure (hQ h' f0' b' a' b2 a1 a2 a3 a4 a5 a6 a7 a8)) (F.args_zip_next_1 _))))
theorem nextN_end {z TI TO i1 i2 l1 l2 : Addr} {k1 k2 : Nat} {xs ys : Array Value} {a b f0 : Value} {bb : Bool} {Q : Option Value → Shared → Prop} (hh : A.handled = none) (D : ZipApart z TI TO i1 i2 l1 l2)
    (hz : IsZipN s.heap z TI TO f0 bb) (hf : Held0 f0) (hTI : IsPair s.heap TI (.ref i1) (.ref i2)) (hTO : IsPair s.heap TO a b)
    (h1 : s.heap.IsListIter i1 l1 k1) (h2 : s.heap.IsListIter i2 l2 k2) (hl1 : s.heap.IsList l1 xs) (hl2 : s.heap.IsList l2 ys) (hend : xs[k1]? = none ∨ ys[k2]? = none)
    (hQ : ∀ h', (∀ c o, c ≠ z → c ≠ TO → c ≠ i1 → c ≠ i2 → s.heap.get? c = some o → h'.get? c = some o) → Q none { s with heap := h' }) : wpAny (model prog w) A (pyNext (.ref z)) Q E s := by
  have hT : s.TypeIs (.ref z) "zip" := ⟨_, hz, rfl⟩
  unfold pyNext
  refine wpAny_bind (wpAny_attempt (wpAny_callSpecial?_slot (name := Str.ofString "__next__") hT F.slot_zip_next
    (wpAny_call_entry F.slot_zip_next hT F.entry_zip_next (zipN_end hh D hz hf hTI hTO h1 h2 hl1 hl2 hend fun h' e hk he => ?_) (F.args_zip_next_1 _))))
  obtain ⟨o, ho, hc⟩ := he
  refine wpAny_bind (wpAny_isInstance (T := "StopIteration") (b := true) ⟨o, ho, hc⟩ isSubtype_stop ?_)
  exact wpAny_pure (hQ _ hk)
theorem iterN {z TI TO : Addr} {f0 : Value} {bb : Bool} {Q : Value → Shared → Prop} (hz : IsZipN s.heap z TI TO f0 bb) (h : Q (.ref z) s) : wpAny (model prog w) A (pyIter (.ref z)) Q E s := by
  have hT : s.TypeIs (.ref z) "zip" := ⟨_, hz, rfl⟩
  refine wpAny_pyIter_slot hT F.slot_zip_iter (wpAny_call_entry F.slot_zip_iter hT F.entry_zip_iter ?_ (F.args_zip_iter_1 _))
  show wpAny _ _ (ret (.ref z)) _ _ s
  exact wpAny_pure ⟨_, rfl, "zip", _, hT, F.slot_zip_next.lookup, h⟩
end
theorem turn_zipN {P : Program} {w : World} {K : PySem.W.Frag} {x : Str} {p : Pos} {a b z TI TO i1 i2 : Addr} (D : ZipApart z TI TO i1 i2 a b) :
    Turn P w K (.Name x p) (Itz K a b) [z, TI, TO, i1, i2] z (fun i h => (∃ f0 bb, IsZipN h z TI TO f0 bb ∧ Held0 f0) ∧ IsPair h TI (.ref i1) (.ref i2) ∧ (∃ x y, IsPair h TO x y) ∧ h.IsListIter i1 a i ∧ h.IsListIter i2 b i) where
  mem := by simp
  obj := fun i h st c hc => by
    obtain ⟨⟨f0, bb, hz, _⟩, hTI, ⟨x, y, hTO⟩, ⟨o1, e1, _, d1⟩, ⟨o2, e2, _, d2⟩⟩ := st
    have e' : c = z ∨ c = TI ∨ c = TO ∨ c = i1 ∨ c = i2 := by simpa using hc
    rcases e' with q | q | q | q | q
    · rw [q]; exact ⟨_, hz, fun v q => nomatch q⟩
    · rw [q]; exact ⟨_, hTI, fun v q => nomatch q⟩
    · rw [q]; exact ⟨_, hTO, fun v q => nomatch q⟩
    · rw [q]; exact ⟨o1, e1, fun v q => by rw [d1] at q; cases q⟩
    · rw [q]; exact ⟨o2, e2, fun v q => by rw [d2] at q; cases q⟩
  keep := fun i h h' st k => by
    obtain ⟨⟨f0, bb, hz, hf⟩, hTI, ⟨x, y, hTO⟩, h1, h2⟩ := st
    exact ⟨⟨f0, bb, k z (by simp) _ hz, hf⟩, k TI (by simp) _ hTI, ⟨x, y, k TO (by simp) _ hTO⟩, h1.at fun o q => k i1 (by simp) o q, h2.at fun o q => k i2 (by simp) o q⟩
  item := by
    intro X hP hw hK hc i pins s σ H E I hf st hg
    subst hP hw hK
    obtain ⟨⟨f0, bb, hz, hf0⟩, hTI, ⟨x0, y0, hTO⟩, h1, h2⟩ := st
    obtain ⟨xs, ys, x, y, hqx, hqy, hx, hy⟩ := hg
    obtain ⟨its, rv, p, _⟩ := I.list hqx
    obtain ⟨its2, rv2, p2, _⟩ := I.list hqy
    obtain ⟨u, hu, ru⟩ := rv.get hx
    obtain ⟨u2, hu2, ru2⟩ := rv2.get hy
    have hzl : z < s.heap.objs.size := Heap.lt_size hz
    refine nextN_item D hz hf0 hTI hTO h1 h2 p.isList p2.isList (x := u) (y := u2) (by simpa using hu) (by simpa using hu2) fun h' f0' b' a' b2 z' hf' TO' h1' h2' hT hsz hk => ?_
    refine ⟨_, rfl, ?_⟩
    unfold letOwnedTupleGo
    refine wpAny_pure ?_
    have new : ObjOk X.prog X.w (upd H s.heap.objs.size (.tup [x, y])) h' s.heap.objs.size (.tup [x, y]) :=
      ⟨by show 2 ≤ sizeLine; decide, [u, u2], .cons ru (.cons ru2 .nil), ⟨_, hT, rfl, _, rfl⟩⟩
    have I1 : Inv X pins σ (upd H s.heap.objs.size (.tup [x, y])) { s with heap := h' } :=
      I.turnedNew (t' := s.toks) (ch := [z, TI, TO, i1, i2]) (fun c o hb q => hk c o (fun q' => hb (by simp [q'])) (fun q' => hb (by simp [q'])) (fun q' => hb (by simp [q'])) (fun q' => hb (by simp [q'])) q) hf (Nat.le_refl _) new
    refine ⟨.ref s.heap.objs.size, _, I1, rfl, ⟨_, x, y, rfl, I.hok.fresh (Nat.le_refl _), rfl, fun l hl => by rw [I.list_inj hl hqx]; exact hx, fun l hl => by rw [I.list_inj hl hqy]; exact hy⟩, ⟨⟨f0', b', z', hf'⟩, ?_, ⟨a', b2, TO'⟩, h1', h2'⟩, fun c hcm => ?_⟩
    · exact hk _ _ D.TIz D.TITO D.TIi1 D.TIi2 hTI
    · have hlt : c < s.heap.objs.size := by
        have e' : c = z ∨ c = TI ∨ c = TO ∨ c = i1 ∨ c = i2 := by simpa using hcm
        rcases e' with q | q | q | q | q
        · rw [q]; exact hzl
        · rw [q]; exact Heap.lt_size hTI
        · rw [q]; exact Heap.lt_size hTO
        · rw [q]; obtain ⟨_, e1, _⟩ := h1; exact Heap.lt_size e1
        · rw [q]; obtain ⟨_, e2, _⟩ := h2; exact Heap.lt_size e2
      rw [upd_ne (Nat.ne_of_lt hlt)]
      exact (hf c hcm).1
  done := by
    intro X hP hw hK hc i pins s σ H E I hf st hg
    subst hP hw hK
    obtain ⟨⟨f0, bb, hz, hf0⟩, hTI, ⟨x0, y0, hTO⟩, h1, h2⟩ := st
    obtain ⟨xs, ys, hqx, hqy, hend⟩ := hg
    obtain ⟨its, rv, p, _⟩ := I.list hqx
    obtain ⟨its2, rv2, p2, _⟩ := I.list hqy
    have l1 := rv.length
    have l2 := rv2.length
    have he : its.toArray[i]? = none ∨ its2.toArray[i]? = none := by
      rcases hend with q | q
      · exact .inl (by simp; omega)
      · exact .inr (by simp; omega)
    exact nextN_end (I.ok.hd hc) D hz hf0 hTI hTO h1 h2 p.isList p2.isList he fun h' hk => ⟨rfl, I.turnedL (t' := s.toks) (ch := [z, TI, TO, i1, i2]) (fun c o hb q =>
      hk c o (fun q' => hb (by simp [q'])) (fun q' => hb (by simp [q'])) (fun q' => hb (by simp [q'])) (fun q' => hb (by simp [q'])) q) hf⟩
  self := fun A i s Q E st h => by
    obtain ⟨⟨f0, bb, hz, _⟩, _⟩ := st
    exact iterN hz h
theorem pi_zipN {X : Cx} {e e2 : Expr} {ta : TA} {p pos tpos : Pos} {x : Str} (hg : Gl X "zip") (hm : X.mg "zip" = none) (ha : PA X [e, e2] ta)
    (hs : starEach [e, e2] X.env = (false, eval e X.env) :: starEach [e2] X.env := by rfl) (hpl : (backTo pos (starEach [e2] X.env)).any (·.1) = false := by rfl) :
    PI X (.Name x tpos) (.Call (.Name "zip" p) [e, e2] [] pos) (iZip X.K ta) := by
  refine ⟨fun pins s σ H R I h => ?_⟩
  refine Call_ (ld_blt I hg hm PyProof.Rows.boot_zip (PyProof.Rows.callWith_type1 (thn (ha.run pos pins s σ H _ I h) fun us s1 ⟨vs, H1, I1, r1, q1⟩ => ?_) hs hpl))
  obtain ⟨a, b, xs, ys, ex, hqx, hqy, q⟩ := q1
  subst ex
  cases r1 with
  | cons r rr =>
    cases rr with
    | cons r' rr =>
      cases rr
      cases r
      cases r'
      obtain ⟨its, rv, p1, _⟩ := I1.list hqx
      obtain ⟨its2, rv2, p2, _⟩ := I1.list hqy
      refine call_zip_2 p1.isList p2.isList fun h' hz hTI hTO h1 h2 hsz hk => iterN (bb := false) hz ?_
      have la : a < s1.heap.objs.size := p1.lt
      have lb : b < s1.heap.objs.size := p2.lt
      have I2 : Inv X pins σ H1 { s1 with heap := h' } := I1.kept (t' := s1.toks) hk
      refine ⟨s1.heap.objs.size + 4, [s1.heap.objs.size + 4, s1.heap.objs.size + 2, s1.heap.objs.size + 3, s1.heap.objs.size, s1.heap.objs.size + 1], _, _, H1, rfl, I2, turn_zipN (PySem.W.ktu_apart s1.heap.objs.size a b la lb), ⟨⟨.none, false, hz, .inl rfl⟩, hTI, ⟨_, _, hTO⟩, h1, h2⟩, fun c hcm => ?_, q⟩
      have e' : c = s1.heap.objs.size + 4 ∨ c = s1.heap.objs.size + 2 ∨ c = s1.heap.objs.size + 3 ∨ c = s1.heap.objs.size ∨ c = s1.heap.objs.size + 1 := by simpa using hcm
      have hle : s1.heap.objs.size ≤ c := by
        rcases e' with z | z | z | z | z
        · rw [z]; exact Nat.le_add_right _ _
        · rw [z]; exact Nat.le_add_right _ _
        · rw [z]; exact Nat.le_add_right _ _
        · rw [z]; exact Nat.le_refl _
        · rw [z]; exact Nat.le_add_right _ _
      exact I1.fpOk hle (I1.hok.fresh hle)
theorem k_piZ (K : PySem.W.Frag) {X : Cx} {e e2 : Expr} {ta : TA} {p pos tpos : Pos} {x : Str} (hg : Gl X "zip") (hm : X.mg "zip" = none) (ha : PA X [e, e2] ta) (h : X.K = K := by rfl)
    (hs : starEach [e, e2] X.env = (false, eval e X.env) :: starEach [e2] X.env := by rfl) (hpl : (backTo pos (starEach [e2] X.env)).any (·.1) = false := by rfl) :
    PI X (.Name x tpos) (.Call (.Name "zip" p) [e, e2] [] pos) (iZip K ta) := by
  subst h
  exact pi_zipN hg hm ha hs hpl
end TB

/-! ### plain mathematics: bits -/
namespace TB
open PySem PySem.Spec PyProof.Rows L2 Evl
theorem nat_or_pow (n m : Nat) (h : n / 2 ^ m % 2 = 0) : n ||| 2 ^ m = n + 2 ^ m := by
  have e0 : n % 2 ^ (m + 1) = n % 2 ^ m := by
    rw [Nat.mod_pow_succ, h]
    rfl
  have hp : 0 < 2 ^ m := Nat.two_pow_pos m
  have hl : n % 2 ^ m < 2 ^ m := Nat.mod_lt _ hp
  have hq : 2 ^ (m + 1) = 2 ^ m + 2 ^ m := by rw [Nat.pow_succ]; omega
  have e2 : n = 2 ^ (m + 1) * (n / 2 ^ (m + 1)) + n % 2 ^ m := by
    have := Nat.div_add_mod n (2 ^ (m + 1))
    rw [e0] at this
    exact this.symm
  generalize n % 2 ^ m = l at *
  generalize n / 2 ^ (m + 1) = a at *
  have f1 : 2 ^ (m + 1) * a + l = 2 ^ (m + 1) * a ||| l := Nat.two_pow_add_eq_or_of_lt (by omega) a
  have f2 : 2 ^ m * 1 + l = 2 ^ m * 1 ||| l := Nat.two_pow_add_eq_or_of_lt hl 1
  have f3 : 2 ^ (m + 1) * a + (2 ^ m + l) = 2 ^ (m + 1) * a ||| (2 ^ m + l) := Nat.two_pow_add_eq_or_of_lt (by omega) a
  rw [Nat.mul_one] at f2
  rw [e2, f1, Nat.or_assoc, Nat.or_comm l, ← f2, ← f3, ← f1]
  omega
theorem or_pow {x : Int} {m : Nat} (hx : 0 ≤ x) (h : x / 2 ^ m % 2 = 0) : Builtin.bitOr x (2 ^ m) = x + 2 ^ m := by
  obtain ⟨n, rfl⟩ : ∃ n : Nat, x = (n : Int) := ⟨x.toNat, by omega⟩
  have e : ((2 : Int) ^ m) = ((2 ^ m : Nat) : Int) := by rw [Int.natCast_pow]; rfl
  rw [e] at h ⊢
  rw [Bits.bitOr_pp (Int.natCast_nonneg _) (Int.natCast_nonneg _), Int.toNat_natCast, Int.toNat_natCast, nat_or_pow n m (by
    rw [← Int.natCast_ediv] at h
    omega)]
  omega
theorem pow_pos' (k : Nat) : (0 : Int) < 2 ^ k := by
  have e : ((2 : Int) ^ k) = ((2 ^ k : Nat) : Int) := by rw [Int.natCast_pow]; rfl
  have := Nat.two_pow_pos k
  omega
/-- the sum of the bits below n, each at its place -/
def bsum (n : Nat) (s : Int) : Int := ((List.range n).map fun k => if s / 2 ^ k % 2 = 1 then (2 : Int) ^ k else 0).sum
theorem bsum_is (s : Int) : ∀ n, bsum n s = s % 2 ^ n
  | 0 => by
    show (0 : Int) = s % 1
    rw [Int.emod_one]
  | n + 1 => by
    have ih := bsum_is s n
    unfold bsum at ih ⊢
    rw [List.range_succ, List.map_append, List.sum_append, ih]
    show s % 2 ^ n + ((if s / 2 ^ n % 2 = 1 then (2 : Int) ^ n else 0) + 0) = s % 2 ^ (n + 1)
    have hp := pow_pos' n
    have e : s % 2 ^ (n + 1) = s % 2 ^ n + 2 ^ n * (s / 2 ^ n % 2) := by
      have h1 := Int.emod_add_mul_ediv s (2 ^ n)
      have h2 := Int.emod_add_mul_ediv (s / 2 ^ n) 2
      have h3 : s = (s % 2 ^ n + 2 ^ n * (s / 2 ^ n % 2)) + 2 ^ (n + 1) * (s / 2 ^ n / 2) := by
        rw [Int.pow_succ, Int.mul_assoc, Int.add_assoc, ← Int.mul_add, h2, h1]
      have b1 := Int.emod_nonneg s (show (2 : Int) ^ n ≠ 0 by omega)
      have b2 := Int.emod_lt_of_pos s hp
      have b3 : s / 2 ^ n % 2 = 0 ∨ s / 2 ^ n % 2 = 1 := by omega
      have hq : (2 : Int) ^ (n + 1) = 2 ^ n + 2 ^ n := by rw [Int.pow_succ]; omega
      have b4 : 0 ≤ s % 2 ^ n + 2 ^ n * (s / 2 ^ n % 2) ∧ s % 2 ^ n + 2 ^ n * (s / 2 ^ n % 2) < 2 ^ (n + 1) := by
        rcases b3 with c | c <;> rw [c] <;> omega
      generalize hR : s % 2 ^ n + 2 ^ n * (s / 2 ^ n % 2) = R at *
      rw [h3, Int.add_mul_emod_self_left, Int.emod_eq_of_lt b4.1 b4.2]
    rw [e]
    have b3 : s / 2 ^ n % 2 = 0 ∨ s / 2 ^ n % 2 = 1 := by omega
    rcases b3 with c | c
    · rw [c, if_neg (by decide)]; omega
    · rw [c, if_pos rfl]; omega
theorem half_bit (s : Int) (k : Nat) : s / 2 / 2 ^ k % 2 = s / 2 ^ (k + 1) % 2 := by
  rw [Int.ediv_ediv, if_neg (by omega), Int.sub_zero, Int.pow_succ, Int.mul_comm 2]
/-- the places of the bits -/
def spotsI (s : Int) : List Int := ((List.range 60).filter fun k => decide (s / 2 ^ k % 2 = 1)).map fun k : Nat => (k : Int)
theorem mem_spots {s x : Int} : x ∈ spotsI s ↔ ∃ k : Nat, k < 60 ∧ x = (k : Int) ∧ s / 2 ^ k % 2 = 1 := by
  unfold spotsI
  rw [List.mem_map]
  constructor
  · rintro ⟨k, hk, rfl⟩
    obtain ⟨h1, h2⟩ := List.mem_filter.mp hk
    exact ⟨k, List.mem_range.mp h1, rfl, by simpa using h2⟩
  · rintro ⟨k, hk, rfl, hb⟩
    exact ⟨k, List.mem_filter.mpr ⟨List.mem_range.mpr hk, by simpa using hb⟩, rfl⟩
def nearerI (s : Int) : List Int := ((spotsI s).filter fun n => decide (n > 0)).map fun n => n - 1
theorem sum_filter_if {α : Type} (p : α → Bool) (f : α → Int) (l : List α) : ((l.filter p).map f).sum = (l.map fun x => if p x then f x else 0).sum := by
  induction l with
  | nil => rfl
  | cons a r ih =>
    rw [List.filter_cons, List.map_cons, List.sum_cons, ← ih]
    by_cases h : p a = true
    · rw [if_pos h, if_pos h, List.map_cons, List.sum_cons]
    · rw [if_neg h, if_neg h]
      omega
theorem nearer_sum {s : Int} (h0 : 0 ≤ s) (h1 : s < 1152921504606846976) : ((nearerI s).map fun x => (2 : Int) ^ x.toNat).sum = s / 2 := by
  unfold nearerI spotsI
  rw [List.map_map, sum_filter_if, List.map_map, sum_filter_if, show (60 : Nat) = 59 + 1 from rfl, List.range_succ_eq_map, List.map_cons, List.sum_cons, List.map_map]
  have e := bsum_is (s / 2) 59
  unfold bsum at e
  rw [Int.emod_eq_of_lt (by omega) (by rw [show (2 : Int) ^ 59 = 576460752303423488 by decide]; omega)] at e
  rw [← e]
  have z : ((List.range 59).map ((fun x : Nat => if decide (s / 2 ^ x % 2 = 1) = true then ((fun x : Int => if decide (x > 0) = true then ((fun x : Int => (2 : Int) ^ x.toNat) ∘ fun n => n - 1) x else 0) ∘ fun k : Nat => (k : Int)) x else 0) ∘ Nat.succ)) = (List.range 59).map fun k => if s / 2 / 2 ^ k % 2 = 1 then (2 : Int) ^ k else 0 := by
    apply List.map_congr_left
    intro k _
    show (if decide (s / 2 ^ (k + 1) % 2 = 1) = true then (if decide (((k + 1 : Nat) : Int) > 0) = true then (2 : Int) ^ (((k + 1 : Nat) : Int) - 1).toNat else 0) else 0) = _
    rw [half_bit, if_pos (show decide (((k + 1 : Nat) : Int) > 0) = true by rw [decide_eq_true_iff]; omega), show (((k + 1 : Nat) : Int) - 1).toNat = k by omega]
    by_cases h : s / 2 ^ (k + 1) % 2 = 1
    · rw [if_pos (by rw [decide_eq_true_iff]; exact h), if_pos h]
    · rw [if_neg (by rw [decide_eq_true_iff]; exact h), if_neg h]
  rw [z]
  show (if decide (s / 2 ^ 0 % 2 = 1) = true then (0 : Int) else 0) + _ = _
  split <;> omega
end TB

/-! ### thrown -/
namespace TB
open PySem PySem.Spec PyProof.Rows L2 Evl
def isSt (a : Int) : Prop := 0 ≤ a ∧ a < 1152921504606846976
instance (a : Int) : Decidable (isSt a) := inferInstanceAs (Decidable (_ ∧ _))
def thrownI (a : Int) (b : Nat) : Re := if b = 0 then (if a % 2 = 1 then .err "NoThrow" else .val (.int (a / 2))) else (if a % 2 = 0 ∨ a / 2 ^ b % 2 = 1 then .err "NoThrow" else .val (.int (a / 2 + 2 ^ (b - 1))))
def thrownRe (s t : V) : Re := match s, t with
  | .int a, .int b => if isSt a ∧ 0 ≤ b ∧ b ≤ 60 then thrownI a b.toNat else .err "OutOfBounds"
  | _, _ => .err "OutOfBounds"
def thrownOk (s t : V) : Prop := ∃ (a : Int) (b : Nat), s = .int a ∧ t = .int (b : Int) ∧ isSt a ∧ b ≤ 60
theorem thrown_bad {s t : V} (h : ¬ thrownOk s t) : thrownRe s t = .err "OutOfBounds" := by
  unfold thrownRe
  split
  · rename_i a b
    rw [if_neg]
    rintro ⟨h1, h2, h3⟩
    exact h ⟨a, b.toNat, rfl, congrArg V.int (by omega), h1, by omega⟩
  · rfl
theorem thrown_good {a : Int} {b : Nat} (h1 : isSt a) (h2 : b ≤ 60) : thrownRe (.int a) (.int (b : Int)) = thrownI a b := by
  show (if isSt a ∧ 0 ≤ (b : Int) ∧ (b : Int) ≤ 60 then thrownI a (b : Int).toNat else .err "OutOfBounds") = _
  rw [if_pos ⟨h1, by omega, by omega⟩]
  rfl
theorem inB_int' {v : V} {lo hi : Int} (h : inB v lo hi = true) : ∃ x, v = .int x ∧ lo ≤ x ∧ x ≤ hi := by
  cases v with
  | int x =>
    refine ⟨x, rfl, ?_⟩
    simpa [inB] using h
  | _ => cases h
theorem two60 : (1 : Int) * 2 ^ (60 : Int).toNat - 1 = 1152921504606846975 := by decide
theorem half1 (a : Int) : a / 2 ^ (1 : Int).toNat = a / 2 := by
  rw [show (2 : Int) ^ (1 : Int).toNat = 2 by decide]
def sp_thrown (K : PySem.W.Frag) : Sp := fun vs H Q E => ∃ s t, vs = [s, t] ∧ Kd H s ∧ Kd H t ∧ Give K (thrownRe s t) H Q E
theorem sc_thrown : FnScope ["state", "throw"] ["state", "throw"] (defScope s_thrown) := ⟨rfl, rfl, rfl, by decide +kernel, rfl, by decide +kernel, by decide +kernel⟩
theorem ok_thrown {P : Program} {w : World} {K : PySem.W.Frag} {mg : Str → Option Value} {base : Heap} (T : TXT K mg) : OK P w K mg base "thrown" ["state", "throw"] 3 (sp_thrown K) := by
  have O_within := ok_within (P := P) (w := w) (base := base) T
  obtain ⟨fd, F⟩ := T.def_ 6
  refine ⟨_, fd, T.glo 5, F.kp, F.bindsN (fun _ _ _ _ _ _ us hl => match us, hl with | [_, _], _ => rfl), F.ok sc_thrown (fun vs H Q E h => ?_) (fun cdv A outer s H vs Q E hr h => ?_), F.bindsA (fun _ _ _ _ _ _ us hl => match us, hl with | [_, _], _ => rfl)⟩
  · first | (obtain ⟨rfl, _⟩ := h; rfl) | (obtain ⟨_, rfl, _⟩ := h; rfl) | (obtain ⟨_, _, rfl, _⟩ := h; rfl) | (obtain ⟨_, _, _, rfl, _⟩ := h; rfl) | (obtain ⟨_, _, _, _, rfl, _⟩ := h; rfl) | (obtain ⟨_, _, _, _, _, rfl, _⟩ := h; rfl) | (obtain ⟨_, _, _, _, _, _, rfl, _⟩ := h; rfl) | (obtain ⟨_, _, _, _, _, _, _, rfl, _⟩ := h; rfl) | (obtain ⟨_, _, _, _, _, _, _, _, rfl, _⟩ := h; rfl)
  · replace F : FunD K "thrown" "thrown" (defArgs s_thrown) (defBody s_thrown) (defScope s_thrown) [] [] (He.ga K "thrown") fd := F
    refine ⟨_, (pss_cons (ps_if (PW.pt (pw_or (pt_not (pt_val (pe_own O_within (hr.mono (by decide)) (by rfl) (passes_call (takes_of rfl rfl rfl rfl) (fun _ _ _ _ h => h)) (pa_cons (pv 0) (pa_cons pe_int (pa_cons (pe_op op_sub (pe_op op_shl pe_int (pe_gi (T.int 38))) pe_int) pa_nil)))))) (pw_or1 (pt_not (pt_val (pe_own O_within (hr.mono (by decide)) (by rfl) (passes_call (takes_of rfl rfl rfl rfl) (fun _ _ _ _ h => h)) (pa_cons (pv 1) (pa_cons pe_int (pa_cons (pe_gi (T.int 38)) pa_nil)))))))))
        (pss_one (ps_raise rfl (takes_of rfl rfl rfl rfl) (pmk_ex (T.fact 41) (T.glo 20))))
        pss_nil)
      (pss_cons (ps_if (pt_cmpR op_eq (pv 1) pe_int (nomark _))
        (pss_cons (ps_if (pt_cmpR op_eq (pe_op op_and (pv 0) pe_int) pe_int (nomark _))
        (pss_one (ps_raise rfl (takes_of rfl rfl rfl rfl) (pmk_ex (T.fact 43) (T.glo 22))))
        pss_nil)
      (pss_one (ps_ret (pe_op op_shr (pv 0) pe_int))))
        pss_nil)
      (pss_cons (ps_if (PW.pt (pw_or (pt_cmpR op_eq (pe_op op_and (pv 0) pe_int) pe_int (nomark _)) (pw_or1 (pt_cmpR op_eq (pe_op op_and (pe_op op_shr (pv 0) (pv 1)) pe_int) pe_int (nomark _)))))
        (pss_one (ps_raise rfl (takes_of rfl rfl rfl rfl) (pmk_ex (T.fact 43) (T.glo 22))))
        pss_nil)
      (pss_one (ps_ret (pe_op op_or (pe_op op_shr (pv 0) pe_int) (pe_op op_shl pe_int (pe_op op_sub (pv 1) pe_int)))))))), ?_⟩
    obtain ⟨s, t, rfl, hs, ht, q⟩ := h
    dsimp only [cxOf, L2.start, List.map_cons, List.map_nil, List.length_cons, List.length_nil, Nat.reduceAdd, Nat.reduceSub, List.replicate_succ, List.replicate_zero, List.cons_append, List.nil_append, Nat.zero_add, List.reduceReplicate, List.map]
    have ws := sv_within (lo := 0) (hi := 1 * 2 ^ (60 : Int).toNat - 1) hs
    have wt := sv_within (lo := 0) (hi := 60) ht
    by_cases hg : thrownOk s t
    case neg =>
      rw [thrown_bad hg] at q
      refine q_when (b := true) ?_ (fun _ H2 e2 => q H2 e2) (fun h => by cases h)
      apply et_is
      · (repeat' (first | with_reducible exact ev_c | ((with_reducible show Ev (tVar _) _ _ _); exact ev_var rfl) | with_reducible exact ea_nil | with_reducible exact eo_none | with_reducible refine' ea_cons ?_ ?_ | with_reducible refine' eo_some ?_ | with_reducible refine' ev_and2 ?_ ?_ | with_reducible refine' ev_or2 ?_ ?_ | with_reducible refine' ev_notV ?_ | with_reducible exact ru_I | with_reducible refine' ev_un ?_ ?_ | with_reducible exact rv_I0 | with_reducible exact rv_isN | with_reducible exact rv_notN | with_reducible refine' rv_I ?_ | with_reducible refine' rv_eq ?_ | with_reducible refine' rv_ne ?_ | with_reducible refine' ev_op ?_ ?_ ?_ | with_reducible refine' ev_chain2 ?_ ?_ ?_ ?_ ?_ | with_reducible refine' et_B ?_ | with_reducible refine' et_test ?_ | with_reducible refine' et_and2 ?_ ?_ | with_reducible refine' et_or2 ?_ ?_ | with_reducible refine' et_not ?_ | with_reducible refine' ev_call ?_ ?_ | with_reducible refine' ev_callS ?_ ?_ | with_reducible refine' ev_cb ?_ ?_ | with_reducible exact isi_bool (by assumption) | with_reducible exact isi_int (by assumption) | with_reducible exact isi_list (by assumption) | with_reducible exact rc_len (by assumption) | with_reducible exact rc_sum (by assumption) | with_reducible exact rc_abs | with_reducible exact isi_listL (by assumption) | with_reducible exact isi_intI | with_reducible exact isi_boolI | with_reducible exact rc_lenT (by assumption) | with_reducible exact isi_tup (by assumption) | with_reducible exact rv_eqL (by assumption) (by assumption) | with_reducible exact rv_neL (by assumption) (by assumption) | with_reducible exact rv_neT (by assumption) (by assumption) | with_reducible exact rv_ixL (by assumption) (by assumption) | with_reducible exact rv_ixT (by assumption) (by assumption) | with_reducible refine' ev_din ?_ ?_ (by assumption) | with_reducible refine' ev_dnotin ?_ ?_ (by assumption) | with_reducible refine' ev_dget ?_ ?_ (by assumption) (by assumption) | ((with_reducible show SpV _ _ _ _); assumption) | ((with_reducible show RV _ _ _ _ _); assumption) | ((with_reducible show RC _ _ _ _); assumption) | ((with_reducible show CDiv _ _); exact ⟨by omega, by omega⟩) | ((with_reducible show CMul _ _); first | exact .inl ⟨by omega, by omega⟩ | exact .inr ⟨by omega, by omega⟩) | ((with_reducible show CPow _ _); exact ⟨by omega, by omega, by decide⟩) | ((with_reducible show (0 : Int) < _); omega) | ((with_reducible show (0 : Int) ≤ _); omega) | ((with_reducible show scal _ _ = true); rfl)))
      · by_cases w1 : inB s 0 (1 * 2 ^ (60 : Int).toNat - 1) = true
        · by_cases w2 : inB t 0 60 = true
          · obtain ⟨x, rfl, x0, x1⟩ := inB_int' w1
            obtain ⟨y, rfl, y0, y1⟩ := inB_int' w2
            rw [two60] at x1
            exact absurd ⟨x, y.toNat, rfl, congrArg V.int (by omega), ⟨x0, by omega⟩, by omega⟩ hg
          · have w2 : inB t 0 60 = false := by simpa using w2
            rw [w2]
            simp
        · have w1 : inB s 0 (1 * 2 ^ (60 : Int).toNat - 1) = false := by simpa using w1
          rw [w1]
          rfl
    obtain ⟨a, b, rfl, rfl, ⟨ha0, ha1⟩, hb⟩ := hg
    rw [thrown_good ⟨ha0, ha1⟩ hb] at q
    refine q_when (b := false) ?_ (fun h => by cases h) (fun _ H1 e1 => ?_)
    · apply et_is
      · (repeat' (first | with_reducible exact ev_c | ((with_reducible show Ev (tVar _) _ _ _); exact ev_var rfl) | with_reducible exact ea_nil | with_reducible exact eo_none | with_reducible refine' ea_cons ?_ ?_ | with_reducible refine' eo_some ?_ | with_reducible refine' ev_and2 ?_ ?_ | with_reducible refine' ev_or2 ?_ ?_ | with_reducible refine' ev_notV ?_ | with_reducible exact ru_I | with_reducible refine' ev_un ?_ ?_ | with_reducible exact rv_I0 | with_reducible exact rv_isN | with_reducible exact rv_notN | with_reducible refine' rv_I ?_ | with_reducible refine' rv_eq ?_ | with_reducible refine' rv_ne ?_ | with_reducible refine' ev_op ?_ ?_ ?_ | with_reducible refine' ev_chain2 ?_ ?_ ?_ ?_ ?_ | with_reducible refine' et_B ?_ | with_reducible refine' et_test ?_ | with_reducible refine' et_and2 ?_ ?_ | with_reducible refine' et_or2 ?_ ?_ | with_reducible refine' et_not ?_ | with_reducible refine' ev_call ?_ ?_ | with_reducible refine' ev_callS ?_ ?_ | with_reducible refine' ev_cb ?_ ?_ | with_reducible exact isi_bool (by assumption) | with_reducible exact isi_int (by assumption) | with_reducible exact isi_list (by assumption) | with_reducible exact rc_len (by assumption) | with_reducible exact rc_sum (by assumption) | with_reducible exact rc_abs | with_reducible exact isi_listL (by assumption) | with_reducible exact isi_intI | with_reducible exact isi_boolI | with_reducible exact rc_lenT (by assumption) | with_reducible exact isi_tup (by assumption) | with_reducible exact rv_eqL (by assumption) (by assumption) | with_reducible exact rv_neL (by assumption) (by assumption) | with_reducible exact rv_neT (by assumption) (by assumption) | with_reducible exact rv_ixL (by assumption) (by assumption) | with_reducible exact rv_ixT (by assumption) (by assumption) | with_reducible refine' ev_din ?_ ?_ (by assumption) | with_reducible refine' ev_dnotin ?_ ?_ (by assumption) | with_reducible refine' ev_dget ?_ ?_ (by assumption) (by assumption) | ((with_reducible show SpV _ _ _ _); assumption) | ((with_reducible show RV _ _ _ _ _); assumption) | ((with_reducible show RC _ _ _ _); assumption) | ((with_reducible show CDiv _ _); exact ⟨by omega, by omega⟩) | ((with_reducible show CMul _ _); first | exact .inl ⟨by omega, by omega⟩ | exact .inr ⟨by omega, by omega⟩) | ((with_reducible show CPow _ _); exact ⟨by omega, by omega, by decide⟩) | ((with_reducible show (0 : Int) < _); omega) | ((with_reducible show (0 : Int) ≤ _); omega) | ((with_reducible show scal _ _ = true); rfl)))
      · show (!(decide ((0 : Int) ≤ a) && decide (a ≤ 1 * 2 ^ (60 : Int).toNat - 1)) || !(decide ((0 : Int) ≤ (b : Int)) && decide ((b : Int) ≤ 60))) = false
        rw [two60, decide_eq_true ha0, decide_eq_true (show a ≤ 1152921504606846975 by omega), decide_eq_true (show (0 : Int) ≤ (b : Int) by omega), decide_eq_true (show (b : Int) ≤ 60 by omega)]
        rfl
    have q := Give.mono e1 q
    unfold thrownI at q
    refine q_when (b := decide (b = 0)) ?_ (fun h H2 e2 => ?_) (fun h H2 e2 => ?_)
    · apply et_is
      · (repeat' (first | with_reducible exact ev_c | ((with_reducible show Ev (tVar _) _ _ _); exact ev_var rfl) | with_reducible exact ea_nil | with_reducible exact eo_none | with_reducible refine' ea_cons ?_ ?_ | with_reducible refine' eo_some ?_ | with_reducible refine' ev_and2 ?_ ?_ | with_reducible refine' ev_or2 ?_ ?_ | with_reducible refine' ev_notV ?_ | with_reducible exact ru_I | with_reducible refine' ev_un ?_ ?_ | with_reducible exact rv_I0 | with_reducible exact rv_isN | with_reducible exact rv_notN | with_reducible refine' rv_I ?_ | with_reducible refine' rv_eq ?_ | with_reducible refine' rv_ne ?_ | with_reducible refine' ev_op ?_ ?_ ?_ | with_reducible refine' ev_chain2 ?_ ?_ ?_ ?_ ?_ | with_reducible refine' et_B ?_ | with_reducible refine' et_test ?_ | with_reducible refine' et_and2 ?_ ?_ | with_reducible refine' et_or2 ?_ ?_ | with_reducible refine' et_not ?_ | with_reducible refine' ev_call ?_ ?_ | with_reducible refine' ev_callS ?_ ?_ | with_reducible refine' ev_cb ?_ ?_ | with_reducible exact isi_bool (by assumption) | with_reducible exact isi_int (by assumption) | with_reducible exact isi_list (by assumption) | with_reducible exact rc_len (by assumption) | with_reducible exact rc_sum (by assumption) | with_reducible exact rc_abs | with_reducible exact isi_listL (by assumption) | with_reducible exact isi_intI | with_reducible exact isi_boolI | with_reducible exact rc_lenT (by assumption) | with_reducible exact isi_tup (by assumption) | with_reducible exact rv_eqL (by assumption) (by assumption) | with_reducible exact rv_neL (by assumption) (by assumption) | with_reducible exact rv_neT (by assumption) (by assumption) | with_reducible exact rv_ixL (by assumption) (by assumption) | with_reducible exact rv_ixT (by assumption) (by assumption) | with_reducible refine' ev_din ?_ ?_ (by assumption) | with_reducible refine' ev_dnotin ?_ ?_ (by assumption) | with_reducible refine' ev_dget ?_ ?_ (by assumption) (by assumption) | ((with_reducible show SpV _ _ _ _); assumption) | ((with_reducible show RV _ _ _ _ _); assumption) | ((with_reducible show RC _ _ _ _); assumption) | ((with_reducible show CDiv _ _); exact ⟨by omega, by omega⟩) | ((with_reducible show CMul _ _); first | exact .inl ⟨by omega, by omega⟩ | exact .inr ⟨by omega, by omega⟩) | ((with_reducible show CPow _ _); exact ⟨by omega, by omega, by decide⟩) | ((with_reducible show (0 : Int) < _); omega) | ((with_reducible show (0 : Int) ≤ _); omega) | ((with_reducible show scal _ _ = true); rfl)))
      · rw [dec_int, Bool.eq_iff_iff]
        simp
    · have h := of_decide_eq_true h
      rw [if_pos h] at q
      have q := Give.mono e2 q
      refine q_when (b := decide (a % 2 = 1)) ?_ (fun h H3 e3 => ?_) (fun h H3 e3 => ?_)
      · apply et_is
        · (repeat' (first | with_reducible exact ev_c | ((with_reducible show Ev (tVar _) _ _ _); exact ev_var rfl) | with_reducible exact ea_nil | with_reducible exact eo_none | with_reducible refine' ea_cons ?_ ?_ | with_reducible refine' eo_some ?_ | with_reducible refine' ev_and2 ?_ ?_ | with_reducible refine' ev_or2 ?_ ?_ | with_reducible refine' ev_notV ?_ | with_reducible exact ru_I | with_reducible refine' ev_un ?_ ?_ | with_reducible exact rv_I0 | with_reducible exact rv_isN | with_reducible exact rv_notN | with_reducible refine' rv_I ?_ | with_reducible refine' rv_eq ?_ | with_reducible refine' rv_ne ?_ | with_reducible refine' ev_op ?_ ?_ ?_ | with_reducible refine' ev_chain2 ?_ ?_ ?_ ?_ ?_ | with_reducible refine' et_B ?_ | with_reducible refine' et_test ?_ | with_reducible refine' et_and2 ?_ ?_ | with_reducible refine' et_or2 ?_ ?_ | with_reducible refine' et_not ?_ | with_reducible refine' ev_call ?_ ?_ | with_reducible refine' ev_callS ?_ ?_ | with_reducible refine' ev_cb ?_ ?_ | with_reducible exact isi_bool (by assumption) | with_reducible exact isi_int (by assumption) | with_reducible exact isi_list (by assumption) | with_reducible exact rc_len (by assumption) | with_reducible exact rc_sum (by assumption) | with_reducible exact rc_abs | with_reducible exact isi_listL (by assumption) | with_reducible exact isi_intI | with_reducible exact isi_boolI | with_reducible exact rc_lenT (by assumption) | with_reducible exact isi_tup (by assumption) | with_reducible exact rv_eqL (by assumption) (by assumption) | with_reducible exact rv_neL (by assumption) (by assumption) | with_reducible exact rv_neT (by assumption) (by assumption) | with_reducible exact rv_ixL (by assumption) (by assumption) | with_reducible exact rv_ixT (by assumption) (by assumption) | with_reducible refine' ev_din ?_ ?_ (by assumption) | with_reducible refine' ev_dnotin ?_ ?_ (by assumption) | with_reducible refine' ev_dget ?_ ?_ (by assumption) (by assumption) | ((with_reducible show SpV _ _ _ _); assumption) | ((with_reducible show RV _ _ _ _ _); assumption) | ((with_reducible show RC _ _ _ _); assumption) | ((with_reducible show CDiv _ _); exact ⟨by omega, by omega⟩) | ((with_reducible show CMul _ _); first | exact .inl ⟨by omega, by omega⟩ | exact .inr ⟨by omega, by omega⟩) | ((with_reducible show CPow _ _); exact ⟨by omega, by omega, by decide⟩) | ((with_reducible show (0 : Int) < _); omega) | ((with_reducible show (0 : Int) ≤ _); omega) | ((with_reducible show scal _ _ = true); rfl)))
        · rw [dec_int, bitAnd_m1, Bool.eq_iff_iff]
          simp
      · rw [if_pos (of_decide_eq_true h)] at q
        exact q H3 e3
      · rw [if_neg (of_decide_eq_false h)] at q
        exact s_ret (v := .int (a / 2)) (ev_is (by (repeat' (first | with_reducible exact ev_c | ((with_reducible show Ev (tVar _) _ _ _); exact ev_var rfl) | with_reducible exact ea_nil | with_reducible exact eo_none | with_reducible refine' ea_cons ?_ ?_ | with_reducible refine' eo_some ?_ | with_reducible refine' ev_and2 ?_ ?_ | with_reducible refine' ev_or2 ?_ ?_ | with_reducible refine' ev_notV ?_ | with_reducible exact ru_I | with_reducible refine' ev_un ?_ ?_ | with_reducible exact rv_I0 | with_reducible exact rv_isN | with_reducible exact rv_notN | with_reducible refine' rv_I ?_ | with_reducible refine' rv_eq ?_ | with_reducible refine' rv_ne ?_ | with_reducible refine' ev_op ?_ ?_ ?_ | with_reducible refine' ev_chain2 ?_ ?_ ?_ ?_ ?_ | with_reducible refine' et_B ?_ | with_reducible refine' et_test ?_ | with_reducible refine' et_and2 ?_ ?_ | with_reducible refine' et_or2 ?_ ?_ | with_reducible refine' et_not ?_ | with_reducible refine' ev_call ?_ ?_ | with_reducible refine' ev_callS ?_ ?_ | with_reducible refine' ev_cb ?_ ?_ | with_reducible exact isi_bool (by assumption) | with_reducible exact isi_int (by assumption) | with_reducible exact isi_list (by assumption) | with_reducible exact rc_len (by assumption) | with_reducible exact rc_sum (by assumption) | with_reducible exact rc_abs | with_reducible exact isi_listL (by assumption) | with_reducible exact isi_intI | with_reducible exact isi_boolI | with_reducible exact rc_lenT (by assumption) | with_reducible exact isi_tup (by assumption) | with_reducible exact rv_eqL (by assumption) (by assumption) | with_reducible exact rv_neL (by assumption) (by assumption) | with_reducible exact rv_neT (by assumption) (by assumption) | with_reducible exact rv_ixL (by assumption) (by assumption) | with_reducible exact rv_ixT (by assumption) (by assumption) | with_reducible refine' ev_din ?_ ?_ (by assumption) | with_reducible refine' ev_dnotin ?_ ?_ (by assumption) | with_reducible refine' ev_dget ?_ ?_ (by assumption) (by assumption) | ((with_reducible show SpV _ _ _ _); assumption) | ((with_reducible show RV _ _ _ _ _); assumption) | ((with_reducible show RC _ _ _ _); assumption) | ((with_reducible show CDiv _ _); exact ⟨by omega, by omega⟩) | ((with_reducible show CMul _ _); first | exact .inl ⟨by omega, by omega⟩ | exact .inr ⟨by omega, by omega⟩) | ((with_reducible show CPow _ _); exact ⟨by omega, by omega, by decide⟩) | ((with_reducible show (0 : Int) < _); omega) | ((with_reducible show (0 : Int) ≤ _); omega) | ((with_reducible show scal _ _ = true); rfl)))) (congrArg V.int (half1 a))) fun H4 e4 => q H4 (e3.trans e4)
    · have h := of_decide_eq_false h
      rw [if_neg h] at q
      have q := Give.mono e2 q
      refine q_when (b := decide (a % 2 = 0 ∨ a / 2 ^ b % 2 = 1)) ?_ (fun h H3 e3 => ?_) (fun h H3 e3 => ?_)
      · apply et_is
        · (repeat' (first | with_reducible exact ev_c | ((with_reducible show Ev (tVar _) _ _ _); exact ev_var rfl) | with_reducible exact ea_nil | with_reducible exact eo_none | with_reducible refine' ea_cons ?_ ?_ | with_reducible refine' eo_some ?_ | with_reducible refine' ev_and2 ?_ ?_ | with_reducible refine' ev_or2 ?_ ?_ | with_reducible refine' ev_notV ?_ | with_reducible exact ru_I | with_reducible refine' ev_un ?_ ?_ | with_reducible exact rv_I0 | with_reducible exact rv_isN | with_reducible exact rv_notN | with_reducible refine' rv_I ?_ | with_reducible refine' rv_eq ?_ | with_reducible refine' rv_ne ?_ | with_reducible refine' ev_op ?_ ?_ ?_ | with_reducible refine' ev_chain2 ?_ ?_ ?_ ?_ ?_ | with_reducible refine' et_B ?_ | with_reducible refine' et_test ?_ | with_reducible refine' et_and2 ?_ ?_ | with_reducible refine' et_or2 ?_ ?_ | with_reducible refine' et_not ?_ | with_reducible refine' ev_call ?_ ?_ | with_reducible refine' ev_callS ?_ ?_ | with_reducible refine' ev_cb ?_ ?_ | with_reducible exact isi_bool (by assumption) | with_reducible exact isi_int (by assumption) | with_reducible exact isi_list (by assumption) | with_reducible exact rc_len (by assumption) | with_reducible exact rc_sum (by assumption) | with_reducible exact rc_abs | with_reducible exact isi_listL (by assumption) | with_reducible exact isi_intI | with_reducible exact isi_boolI | with_reducible exact rc_lenT (by assumption) | with_reducible exact isi_tup (by assumption) | with_reducible exact rv_eqL (by assumption) (by assumption) | with_reducible exact rv_neL (by assumption) (by assumption) | with_reducible exact rv_neT (by assumption) (by assumption) | with_reducible exact rv_ixL (by assumption) (by assumption) | with_reducible exact rv_ixT (by assumption) (by assumption) | with_reducible refine' ev_din ?_ ?_ (by assumption) | with_reducible refine' ev_dnotin ?_ ?_ (by assumption) | with_reducible refine' ev_dget ?_ ?_ (by assumption) (by assumption) | ((with_reducible show SpV _ _ _ _); assumption) | ((with_reducible show RV _ _ _ _ _); assumption) | ((with_reducible show RC _ _ _ _); assumption) | ((with_reducible show CDiv _ _); exact ⟨by omega, by omega⟩) | ((with_reducible show CMul _ _); first | exact .inl ⟨by omega, by omega⟩ | exact .inr ⟨by omega, by omega⟩) | ((with_reducible show CPow _ _); exact ⟨by omega, by omega, by decide⟩) | ((with_reducible show (0 : Int) < _); omega) | ((with_reducible show (0 : Int) ≤ _); omega) | ((with_reducible show scal _ _ = true); rfl)))
        · rw [dec_int, dec_int, bitAnd_m1, bitAnd_m1, Int.toNat_natCast, Bool.eq_iff_iff]
          simp
      · rw [if_pos (of_decide_eq_true h)] at q
        exact q H3 e3
      · have h' := of_decide_eq_false h
        rw [if_neg h'] at q
        refine s_ret (v := .int (a / 2 + 2 ^ (b - 1))) (ev_is (v := .int (Builtin.bitOr (a / 2 ^ (1 : Int).toNat) (1 * 2 ^ ((b : Int) - 1).toNat))) (by (repeat' (first | with_reducible exact ev_c | ((with_reducible show Ev (tVar _) _ _ _); exact ev_var rfl) | with_reducible exact ea_nil | with_reducible exact eo_none | with_reducible refine' ea_cons ?_ ?_ | with_reducible refine' eo_some ?_ | with_reducible refine' ev_and2 ?_ ?_ | with_reducible refine' ev_or2 ?_ ?_ | with_reducible refine' ev_notV ?_ | with_reducible exact ru_I | with_reducible refine' ev_un ?_ ?_ | with_reducible exact rv_I0 | with_reducible exact rv_isN | with_reducible exact rv_notN | with_reducible refine' rv_I ?_ | with_reducible refine' rv_eq ?_ | with_reducible refine' rv_ne ?_ | with_reducible refine' ev_op ?_ ?_ ?_ | with_reducible refine' ev_chain2 ?_ ?_ ?_ ?_ ?_ | with_reducible refine' et_B ?_ | with_reducible refine' et_test ?_ | with_reducible refine' et_and2 ?_ ?_ | with_reducible refine' et_or2 ?_ ?_ | with_reducible refine' et_not ?_ | with_reducible refine' ev_call ?_ ?_ | with_reducible refine' ev_callS ?_ ?_ | with_reducible refine' ev_cb ?_ ?_ | with_reducible exact isi_bool (by assumption) | with_reducible exact isi_int (by assumption) | with_reducible exact isi_list (by assumption) | with_reducible exact rc_len (by assumption) | with_reducible exact rc_sum (by assumption) | with_reducible exact rc_abs | with_reducible exact isi_listL (by assumption) | with_reducible exact isi_intI | with_reducible exact isi_boolI | with_reducible exact rc_lenT (by assumption) | with_reducible exact isi_tup (by assumption) | with_reducible exact rv_eqL (by assumption) (by assumption) | with_reducible exact rv_neL (by assumption) (by assumption) | with_reducible exact rv_neT (by assumption) (by assumption) | with_reducible exact rv_ixL (by assumption) (by assumption) | with_reducible exact rv_ixT (by assumption) (by assumption) | with_reducible refine' ev_din ?_ ?_ (by assumption) | with_reducible refine' ev_dnotin ?_ ?_ (by assumption) | with_reducible refine' ev_dget ?_ ?_ (by assumption) (by assumption) | ((with_reducible show SpV _ _ _ _); assumption) | ((with_reducible show RV _ _ _ _ _); assumption) | ((with_reducible show RC _ _ _ _); assumption) | ((with_reducible show CDiv _ _); exact ⟨by omega, by omega⟩) | ((with_reducible show CMul _ _); first | exact .inl ⟨by omega, by omega⟩ | exact .inr ⟨by omega, by omega⟩) | ((with_reducible show CPow _ _); exact ⟨by omega, by omega, by decide⟩) | ((with_reducible show (0 : Int) < _); omega) | ((with_reducible show (0 : Int) ≤ _); omega) | ((with_reducible show scal _ _ = true); rfl)))) (congrArg V.int ?_)) fun H4 e4 => q H4 (e3.trans e4)
        rw [half1, Int.one_mul, show ((b : Int) - 1).toNat = b - 1 by omega]
        refine or_pow (by omega) ?_
        rw [half_bit, show b - 1 + 1 = b by omega]
        have := Int.emod_nonneg (a / 2 ^ b) (show (2 : Int) ≠ 0 by decide)
        omega

end TB

/-! ### plain mathematics: states as bits, what a throw makes of them -/
namespace TB
open PySem PySem.Spec PyProof.Rows L2 Evl
/-- the number with the bits of f below n -/
def bS : Nat → (Nat → Bool) → Int
  | 0, _ => 0
  | n + 1, f => (if f 0 then 1 else 0) + 2 * bS n fun k => f (k + 1)
/-- how many they are -/
def cS : Nat → (Nat → Bool) → Int
  | 0, _ => 0
  | n + 1, f => (if f 0 then 1 else 0) + cS n fun k => f (k + 1)
/-- the sum of their places -/
def wS : Nat → (Nat → Bool) → Int
  | 0, _ => 0
  | n + 1, f => cS n (fun k => f (k + 1)) + wS n fun k => f (k + 1)
theorem bS_nn : ∀ (n : Nat) (f : Nat → Bool), 0 ≤ bS n f
  | 0, _ => Int.le_refl _
  | n + 1, f => by
    have := bS_nn n fun k => f (k + 1)
    rw [bS]
    split <;> omega
theorem bS_lt : ∀ (n : Nat) (f : Nat → Bool), bS n f < 2 ^ n
  | 0, _ => by
    show (0 : Int) < 1
    decide
  | n + 1, f => by
    have := bS_lt n fun k => f (k + 1)
    rw [bS, Int.pow_succ]
    split <;> omega
theorem bS_half (n : Nat) (f : Nat → Bool) : bS (n + 1) f / 2 = bS n fun k => f (k + 1) := by
  rw [bS]
  split <;> omega
theorem bS_odd (n : Nat) (f : Nat → Bool) : bS (n + 1) f % 2 = if f 0 then 1 else 0 := by
  rw [bS]
  split <;> omega
theorem bS_bit : ∀ (n : Nat) (f : Nat → Bool) (k : Nat), bS n f / 2 ^ k % 2 = if k < n ∧ f k = true then 1 else 0
  | 0, f, k => by
    rw [bS, Int.zero_ediv, if_neg (by omega)]
    rfl
  | n + 1, f, 0 => by
    rw [Int.pow_zero, Int.ediv_one, bS_odd]
    by_cases h : f 0 = true
    · rw [if_pos h, if_pos ⟨by omega, h⟩]
    · rw [if_neg h, if_neg fun z => h z.2]
  | n + 1, f, k + 1 => by
    have ih := bS_bit n (fun k => f (k + 1)) k
    rw [← half_bit, bS_half, ih]
    by_cases h : k < n ∧ f (k + 1) = true
    · rw [if_pos h, if_pos ⟨by omega, h.2⟩]
    · rw [if_neg h, if_neg fun z => h ⟨by omega, z.2⟩]
theorem bS_congr : ∀ {n : Nat} {f g : Nat → Bool}, (∀ k, k < n → f k = g k) → bS n f = bS n g
  | 0, _, _, _ => rfl
  | n + 1, f, g, h => by
    rw [bS, bS, h 0 (by omega), bS_congr (n := n) (f := fun k => f (k + 1)) (g := fun k => g (k + 1)) fun k hk => h (k + 1) (by omega)]
theorem cS_congr : ∀ {n : Nat} {f g : Nat → Bool}, (∀ k, k < n → f k = g k) → cS n f = cS n g
  | 0, _, _, _ => rfl
  | n + 1, f, g, h => by
    rw [cS, cS, h 0 (by omega), cS_congr (n := n) (f := fun k => f (k + 1)) (g := fun k => g (k + 1)) fun k hk => h (k + 1) (by omega)]
theorem wS_congr : ∀ {n : Nat} {f g : Nat → Bool}, (∀ k, k < n → f k = g k) → wS n f = wS n g
  | 0, _, _, _ => rfl
  | n + 1, f, g, h => by
    rw [wS, wS, cS_congr (n := n) (f := fun k => f (k + 1)) (g := fun k => g (k + 1)) fun k hk => h (k + 1) (by omega), wS_congr (n := n) (f := fun k => f (k + 1)) (g := fun k => g (k + 1)) fun k hk => h (k + 1) (by omega)]
theorem bS_top : ∀ (n : Nat) (f : Nat → Bool), bS (n + 1) f = bS n f + if f n then 2 ^ n else 0
  | 0, f => by
    show (if f 0 then 1 else 0) + 2 * (0 : Int) = 0 + if f 0 then 1 else 0
    omega
  | n + 1, f => by
    rw [bS, bS_top n fun k => f (k + 1), bS, Int.pow_succ]
    split <;> split <;> omega
theorem cS_top : ∀ (n : Nat) (f : Nat → Bool), cS (n + 1) f = cS n f + if f n then 1 else 0
  | 0, f => by
    show (if f 0 then 1 else 0) + (0 : Int) = 0 + if f 0 then 1 else 0
    omega
  | n + 1, f => by
    rw [cS, cS_top n fun k => f (k + 1), cS]
    split <;> split <;> omega
theorem wS_top : ∀ (n : Nat) (f : Nat → Bool), wS (n + 1) f = wS n f + if f n then (n : Int) else 0
  | 0, f => by
    show (0 : Int) + 0 = 0 + if f 0 then ((0 : Nat) : Int) else 0
    split <;> rfl
  | n + 1, f => by
    rw [wS, wS_top n fun k => f (k + 1), cS_top n fun k => f (k + 1), wS]
    split <;> omega
theorem bS_put : ∀ {n m : Nat} {f : Nat → Bool}, m < n → f m = false → bS n (fun k => f k || decide (k = m)) = bS n f + 2 ^ m
  | 0, _, _, h, _ => absurd h (by omega)
  | n + 1, 0, f, _, hf => by
    have e : bS n (fun k => f (k + 1) || decide (k + 1 = 0)) = bS n fun k => f (k + 1) := bS_congr fun k _ => by simp
    rw [bS, bS, e, hf]
    simp
    omega
  | n + 1, m + 1, f, h, hf => by
    have ih := bS_put (n := n) (m := m) (f := fun k => f (k + 1)) (by omega) hf
    have e : bS n (fun k => f (k + 1) || decide (k + 1 = m + 1)) = bS n fun k => f (k + 1) || decide (k = m) := bS_congr fun k _ => by simp
    rw [bS, bS, e, ih, Int.pow_succ]
    simp
    omega
theorem cS_put : ∀ {n m : Nat} {f : Nat → Bool}, m < n → f m = false → cS n (fun k => f k || decide (k = m)) = cS n f + 1
  | 0, _, _, h, _ => absurd h (by omega)
  | n + 1, 0, f, _, hf => by
    have e : cS n (fun k => f (k + 1) || decide (k + 1 = 0)) = cS n fun k => f (k + 1) := cS_congr fun k _ => by simp
    rw [cS, cS, e, hf]
    simp
    omega
  | n + 1, m + 1, f, h, hf => by
    have ih := cS_put (n := n) (m := m) (f := fun k => f (k + 1)) (by omega) hf
    have e : cS n (fun k => f (k + 1) || decide (k + 1 = m + 1)) = cS n fun k => f (k + 1) || decide (k = m) := cS_congr fun k _ => by simp
    rw [cS, cS, e, ih]
    simp
    omega
theorem wS_put : ∀ {n m : Nat} {f : Nat → Bool}, m < n → f m = false → wS n (fun k => f k || decide (k = m)) = wS n f + (m : Int)
  | 0, _, _, h, _ => absurd h (by omega)
  | n + 1, 0, f, _, hf => by
    have e : cS n (fun k => f (k + 1) || decide (k + 1 = 0)) = cS n fun k => f (k + 1) := cS_congr fun k _ => by simp
    have e2 : wS n (fun k => f (k + 1) || decide (k + 1 = 0)) = wS n fun k => f (k + 1) := wS_congr fun k _ => by simp
    rw [wS, wS, e, e2]
    simp
  | n + 1, m + 1, f, h, hf => by
    have ih := wS_put (n := n) (m := m) (f := fun k => f (k + 1)) (by omega) hf
    have ic := cS_put (n := n) (m := m) (f := fun k => f (k + 1)) (by omega) hf
    have e : cS n (fun k => f (k + 1) || decide (k + 1 = m + 1)) = cS n fun k => f (k + 1) || decide (k = m) := cS_congr fun k _ => by simp
    have e2 : wS n (fun k => f (k + 1) || decide (k + 1 = m + 1)) = wS n fun k => f (k + 1) || decide (k = m) := wS_congr fun k _ => by simp
    rw [wS, wS, e, e2, ih, ic]
    omega
theorem cS_len (f : Nat → Bool) : ∀ n, (((List.range n).filter f).length : Int) = cS n f
  | 0 => rfl
  | n + 1 => by
    rw [List.range_succ, List.filter_append, List.length_append, Int.natCast_add, cS_len f n, cS_top]
    congr 1
    by_cases h : f n = true
    · rw [if_pos h, List.filter_cons_of_pos h]
      rfl
    · rw [if_neg h, List.filter_cons_of_neg h]
      rfl
/-- the throw at any beat, the row going round for ever -/
def Pt (ns : List Int) (t : Int) : Int := ns.getD (t % (ns.length : Int)).toNat 0
structure Plain (ns : List Int) : Prop where
  row : RowI ns
  no : clashOf ns = none
  low : ∀ x ∈ ns, 0 ≤ x ∧ x ≤ 60
theorem pt_ix {ns : List Int} (h1 : 1 ≤ ns.length) (t : Int) : ∃ i : Nat, i < ns.length ∧ t % (ns.length : Int) = (i : Int) ∧ Pt ns t = ns.getD i 0 := by
  have a := Int.emod_nonneg t (show (ns.length : Int) ≠ 0 by omega)
  have b := Int.emod_lt_of_pos t (show (0 : Int) < (ns.length : Int) by omega)
  exact ⟨(t % (ns.length : Int)).toNat, by omega, by omega, rfl⟩
theorem pt_b {ns : List Int} (h : Plain ns) (t : Int) : 0 ≤ Pt ns t ∧ Pt ns t ≤ 60 := by
  obtain ⟨i, hi, _, e⟩ := pt_ix h.row.1 t
  rw [e]
  exact h.low _ (getD_mem hi)
theorem pt_at {ns : List Int} {i : Nat} (hi : i < ns.length) : Pt ns (i : Int) = ns.getD i 0 := by
  unfold Pt
  rw [Int.emod_eq_of_lt (by omega) (by omega)]
  rfl
theorem pt_inj {ns : List Int} (h1 : 1 ≤ ns.length) (hc : clashOf ns = none) {t u : Int} (e : t + Pt ns t = u + Pt ns u) : t = u := by
  obtain ⟨i, hi, ei, pi⟩ := pt_ix h1 t
  obtain ⟨j, hj, ej, pj⟩ := pt_ix h1 u
  have : land ns i = land ns j := by
    unfold land
    rw [← ei, ← ej, Int.emod_add_emod, Int.emod_add_emod, ← pi, ← pj, e]
  have ij := land_inj hc hi hj this
  rw [pi, pj, ij] at e
  omega
theorem pt_onto {ns : List Int} (h1 : 1 ≤ ns.length) (hc : clashOf ns = none) (s : Int) : ∃ t, t + Pt ns t = s := by
  have a := Int.emod_nonneg s (show (ns.length : Int) ≠ 0 by omega)
  have b := Int.emod_lt_of_pos s (show (0 : Int) < (ns.length : Int) by omega)
  obtain ⟨i, hi, e⟩ := inj_onto (f := ld ns) (fun i _ => ld_lt i h1) (fun i j hi hj e => ld_inj h1 hc hi hj e) (show (s % (ns.length : Int)).toNat < ns.length by omega)
  have el : land ns i = s % (ns.length : Int) := by
    rw [← ld_cast i h1, e]
    omega
  refine ⟨s - ns.getD i 0, ?_⟩
  have : (s - ns.getD i 0) % (ns.length : Int) = (i : Int) := by
    unfold land at el
    have z : (s - ns.getD i 0) % (ns.length : Int) = ((i : Int) + ns.getD i 0 - ns.getD i 0) % (ns.length : Int) := Int.emod_sub_cancel_right (ns.getD i 0) |>.mpr el.symm
    rw [z, show (i : Int) + ns.getD i 0 - ns.getD i 0 = (i : Int) by omega, Int.emod_eq_of_lt (by omega) (by omega)]
  unfold Pt
  rw [this, Int.toNat_natCast]
  omega
theorem pt_round {ns : List Int} (t : Int) : Pt ns ((ns.length : Int) + t) = Pt ns t := by
  unfold Pt
  rw [Int.add_emod_left]
/-- whether a ball thrown at one of the first m of the sixty beats ahead of b lands k behind b -/
def hit (ns : List Int) (b : Int) (m k : Nat) : Bool := (List.range m).any fun d => decide (b - 60 + (d : Int) + Pt ns (b - 60 + (d : Int)) = b + (k : Int))
theorem hit_iff {ns : List Int} {b : Int} {m k : Nat} : hit ns b m k = true ↔ ∃ d : Nat, d < m ∧ b - 60 + (d : Int) + Pt ns (b - 60 + (d : Int)) = b + (k : Int) := by
  unfold hit
  rw [List.any_eq_true]
  constructor
  · rintro ⟨d, hd, e⟩
    exact ⟨d, List.mem_range.mp hd, of_decide_eq_true e⟩
  · rintro ⟨d, hd, e⟩
    exact ⟨d, List.mem_range.mpr hd, decide_eq_true e⟩
theorem hit_all {ns : List Int} (h : Plain ns) {b : Int} {k : Nat} : hit ns b 60 k = true ↔ ∃ t, t < b ∧ t + Pt ns t = b + (k : Int) := by
  rw [hit_iff]
  constructor
  · rintro ⟨d, hd, e⟩
    exact ⟨b - 60 + (d : Int), by omega, e⟩
  · rintro ⟨t, ht, e⟩
    have := pt_b h t
    refine ⟨(t - (b - 60)).toNat, by omega, ?_⟩
    rw [show b - 60 + ((t - (b - 60)).toNat : Int) = t by omega]
    exact e
theorem hit_false {ns : List Int} (h : Plain ns) {b : Int} {k : Nat} (hn : ¬ ∃ t, t < b ∧ t + Pt ns t = b + (k : Int)) : hit ns b 60 k = false := by
  cases e : hit ns b 60 k with
  | false => rfl
  | true => exact absurd ((hit_all h).mp e) hn
theorem hit_far {ns : List Int} (h : Plain ns) (b : Int) {k : Nat} (hk : 60 ≤ k) : hit ns b 60 k = false := hit_false h fun ⟨t, ht, e⟩ => by
  have := pt_b h t
  omega
theorem hit_zero {ns : List Int} (h : Plain ns) (b : Int) : hit ns b 60 0 = decide (0 < Pt ns b) := by
  have pb := pt_b h b
  by_cases c : 0 < Pt ns b
  · rw [decide_eq_true c, hit_all h]
    obtain ⟨t, ht⟩ := pt_onto h.row.1 h.no b
    have pb2 := pt_b h t
    refine ⟨t, ?_, by omega⟩
    rcases Int.lt_or_eq_of_le (show t ≤ b by omega) with z | z
    · exact z
    · subst z
      omega
  · rw [decide_eq_false c]
    refine hit_false h fun ⟨t, ht, e⟩ => ?_
    have := pt_inj h.row.1 h.no (t := t) (u := b) (by omega)
    omega
theorem hit_land {ns : List Int} (h : Plain ns) (b : Int) : hit ns b 60 (Pt ns b).toNat = false := hit_false h fun ⟨t, ht, e⟩ => by
  have pb := pt_b h b
  have := pt_inj h.row.1 h.no (t := t) (u := b) (by omega)
  omega
theorem hit_next {ns : List Int} (h : Plain ns) (b : Int) (k : Nat) : hit ns (b + 1) 60 k = (hit ns b 60 (k + 1) || decide ((k : Int) + 1 = Pt ns b)) := by
  rw [Bool.eq_iff_iff, Bool.or_eq_true, decide_eq_true_iff, hit_all h, hit_all h]
  constructor
  · rintro ⟨t, ht, e⟩
    rcases Int.lt_or_eq_of_le (show t ≤ b by omega) with z | z
    · exact .inl ⟨t, z, by omega⟩
    · subst z
      exact .inr (by omega)
  · rintro (⟨t, ht, e⟩ | e)
    · exact ⟨t, by omega, by omega⟩
    · exact ⟨b, by omega, by omega⟩
/-- the state ahead of a beat -/
def st (ns : List Int) (b : Int) : Int := bS 60 (hit ns b 60)
theorem st_is {ns : List Int} (b : Int) : 0 ≤ st ns b ∧ st ns b < 1152921504606846976 := ⟨bS_nn _ _, bS_lt 60 _⟩
theorem st_shift {ns : List Int} (h : Plain ns) (b : Int) : st ns b / 2 = bS 60 fun k => hit ns b 60 (k + 1) := by
  unfold st
  rw [bS_half 59, bS_top 59 fun k => hit ns b 60 (k + 1), hit_far h b (Nat.le_refl 60)]
  simp
theorem st_next {ns : List Int} (h : Plain ns) (b : Int) : st ns (b + 1) = st ns b / 2 + if 0 < Pt ns b then 2 ^ ((Pt ns b).toNat - 1) else 0 := by
  have pb := pt_b h b
  rw [st_shift h]
  by_cases c : 0 < Pt ns b
  · rw [if_pos c]
    have hl := hit_land h b
    rw [← bS_put (n := 60) (m := (Pt ns b).toNat - 1) (f := fun k => hit ns b 60 (k + 1)) (by omega) (by
      show hit ns b 60 ((Pt ns b).toNat - 1 + 1) = false
      rw [show (Pt ns b).toNat - 1 + 1 = (Pt ns b).toNat by omega]
      exact hl)]
    refine bS_congr fun k _ => ?_
    rw [hit_next h]
    congr 1
    rw [Bool.eq_iff_iff, decide_eq_true_iff, decide_eq_true_iff]
    omega
  · rw [if_neg c, Int.add_zero]
    refine bS_congr fun k _ => ?_
    rw [hit_next h, decide_eq_false (by omega), Bool.or_false]
theorem st_odd {ns : List Int} (h : Plain ns) (b : Int) : st ns b % 2 = if 0 < Pt ns b then 1 else 0 := by
  unfold st
  rw [bS_odd, hit_zero h]
  by_cases c : 0 < Pt ns b
  · rw [if_pos c, if_pos (decide_eq_true c)]
  · rw [if_neg c, decide_eq_false c]
    rfl
theorem st_land {ns : List Int} (h : Plain ns) (b : Int) : st ns b / 2 ^ (Pt ns b).toNat % 2 = 0 := by
  unfold st
  rw [bS_bit, hit_land h, if_neg fun z => by cases z.2]
/-- each throw leads from its state to the next -/
theorem st_thrown {ns : List Int} (h : Plain ns) (b : Int) : thrownI (st ns b) (Pt ns b).toNat = .val (.int (st ns (b + 1))) := by
  have pb := pt_b h b
  have so := st_odd h b
  have sl := st_land h b
  have sn := st_next h b
  unfold thrownI
  by_cases c : 0 < Pt ns b
  · rw [if_pos c] at so sn
    rw [if_neg (by omega), if_neg (by omega), ← sn]
  · rw [if_neg c] at so sn
    rw [if_pos (by omega), if_neg (by omega), sn, Int.add_zero]
theorem st_round {ns : List Int} : st ns (ns.length : Int) = st ns 0 := by
  unfold st
  refine bS_congr fun k _ => ?_
  unfold hit
  congr 1
  funext d
  rw [show (ns.length : Int) - 60 + (d : Int) = (ns.length : Int) + (0 - 60 + (d : Int)) by omega, pt_round]
  rw [Bool.eq_iff_iff, decide_eq_true_iff, decide_eq_true_iff]
  omega
/-- as many bits all the way -/
theorem st_count {ns : List Int} (h : Plain ns) (b : Int) : cS 60 (hit ns (b + 1) 60) = cS 60 (hit ns b 60) ∧ wS 60 (hit ns (b + 1) 60) = wS 60 (hit ns b 60) - cS 60 (hit ns b 60) + Pt ns b := by
  have pb := pt_b h b
  have c0 : cS 60 (fun k => hit ns b 60 (k + 1)) = cS 59 fun k => hit ns b 60 (k + 1) := by
    rw [cS_top 59 fun k => hit ns b 60 (k + 1), hit_far h b (Nat.le_refl 60)]
    simp
  have w0 : wS 60 (fun k => hit ns b 60 (k + 1)) = wS 59 fun k => hit ns b 60 (k + 1) := by
    rw [wS_top 59 fun k => hit ns b 60 (k + 1), hit_far h b (Nat.le_refl 60)]
    simp
  have c1 : cS 60 (hit ns b 60) = (if 0 < Pt ns b then 1 else 0) + cS 59 fun k => hit ns b 60 (k + 1) := by
    rw [cS, hit_zero h]
    by_cases c : 0 < Pt ns b
    · rw [if_pos c, if_pos (decide_eq_true c)]
    · rw [if_neg c, decide_eq_false c]
      rfl
  have w1 : wS 60 (hit ns b 60) = cS 59 (fun k => hit ns b 60 (k + 1)) + wS 59 fun k => hit ns b 60 (k + 1) := by rw [wS]
  by_cases c : 0 < Pt ns b
  · have hl := hit_land h b
    rw [show (Pt ns b).toNat = (Pt ns b).toNat - 1 + 1 by omega] at hl
    have e : ∀ k, k < 60 → hit ns (b + 1) 60 k = ((fun k => hit ns b 60 (k + 1)) k || decide (k = (Pt ns b).toNat - 1)) := fun k _ => by
      rw [hit_next h]
      congr 1
      rw [Bool.eq_iff_iff, decide_eq_true_iff, decide_eq_true_iff]
      omega
    rw [cS_congr e, wS_congr e, cS_put (f := fun k => hit ns b 60 (k + 1)) (by omega) hl, wS_put (f := fun k => hit ns b 60 (k + 1)) (by omega) hl, c0, w0, c1, w1, if_pos c]
    omega
  · have e : ∀ k, k < 60 → hit ns (b + 1) 60 k = (fun k => hit ns b 60 (k + 1)) k := fun k _ => by
      rw [hit_next h, decide_eq_false (by omega), Bool.or_false]
    rw [cS_congr e, wS_congr e, c0, w0, c1, w1, if_neg c]
    omega
theorem st_balls {ns : List Int} (h : Plain ns) : cS 60 (hit ns 0 60) = ns.sum / (ns.length : Int) := by
  have h1 := h.row.1
  have key : ∀ i : Nat, i ≤ ns.length → cS 60 (hit ns (i : Int) 60) = cS 60 (hit ns 0 60) ∧ wS 60 (hit ns (i : Int) 60) = wS 60 (hit ns 0 60) - (i : Int) * cS 60 (hit ns 0 60) + ((List.range i).map fun j : Nat => ns.getD j 0).sum := fun i => by
    induction i with
    | zero =>
      intro _
      refine ⟨rfl, ?_⟩
      simp
    | succ i ih =>
      intro hi
      obtain ⟨a, b⟩ := ih (by omega)
      obtain ⟨c, d⟩ := st_count h (i : Int)
      rw [show (((i + 1 : Nat)) : Int) = (i : Int) + 1 by omega, c, d, a, b, List.range_succ, List.map_append, List.sum_append, pt_at (by omega)]
      refine ⟨rfl, ?_⟩
      rw [Int.add_mul]
      show _ = _ + (_ + (ns.getD i 0 + 0))
      omega
  obtain ⟨_, b⟩ := key ns.length (Nat.le_refl _)
  have e : wS 60 (hit ns (ns.length : Int) 60) = wS 60 (hit ns 0 60) := by
    refine wS_congr fun k _ => ?_
    unfold hit
    congr 1
    funext d
    rw [show (ns.length : Int) - 60 + (d : Int) = (ns.length : Int) + (0 - 60 + (d : Int)) by omega, pt_round]
    rw [Bool.eq_iff_iff, decide_eq_true_iff, decide_eq_true_iff]
    omega
  rw [e, getD_map_range] at b
  have : ns.sum = (ns.length : Int) * cS 60 (hit ns 0 60) := by omega
  rw [this, Int.mul_ediv_cancel_left _ (by omega)]
end TB

/-! ### least of a row -/
namespace TB
open PySem PySem.Spec PyProof.Rows L2 Evl
theorem min_ex : ∀ {ns : List Int}, ns ≠ [] → ∃ m, m ∈ ns ∧ ∀ y ∈ ns, m ≤ y
  | [], h => absurd rfl h
  | [a], _ => ⟨a, List.mem_cons_self, fun y hy => by rw [List.mem_singleton.mp hy]; exact Int.le_refl _⟩
  | a :: b :: r, _ => by
    obtain ⟨m, hm, hl⟩ := min_ex (ns := b :: r) (by simp)
    by_cases h : a ≤ m
    · refine ⟨a, List.mem_cons_self, fun y hy => ?_⟩
      rcases List.mem_cons.mp hy with rfl | hy
      · exact Int.le_refl _
      · exact Int.le_trans h (hl y hy)
    · refine ⟨m, List.mem_cons_of_mem _ hm, fun y hy => ?_⟩
      rcases List.mem_cons.mp hy with rfl | hy
      · omega
      · exact hl y hy
theorem rc_minV {K : PySem.W.Frag} {H : Hp} {p : Addr} {ns : List Int} {m : Int} (h : SqL K H p (ns.map V.int)) (h0 : 0 < ns.length) (hm : m ∈ ns) (hl : ∀ y ∈ ns, m ≤ y) : RC (rMin K) [.ref p] H (.int m) := fun H1 e _ q => ⟨p, ns, rfl, ex_l e h, h0, fun m' hmem hle => by
  have e1 := hl m' hmem
  have e2 := hle m hm
  have : m' = m := by omega
  rw [this]
  exact q H1 (Ex.refl H1)⟩
end TB

/-! ### states_of -/
namespace TB
open PySem PySem.Spec PyProof.Rows L2 Evl
section
variable {K : PySem.W.Frag} {σ : L2.St} {H : Hp} {tu tz : TS} {D : Ends}
theorem s_forR2n {ta : TA} {j : Nat} {lo n : Int} (h : EvA ta σ H [.int lo, .int n]) (hn : -100000 ≤ lo ∧ lo ≤ 100000 ∧ -100000 ≤ n ∧ n ≤ 100000) (Pv : Nat → L2.St → Hp → Prop) (h0 : ∀ H1, Ex H H1 → Pv 0 σ H1)
    (hs : ∀ (i : Nat) σ' H', lo + (i : Int) < n → Pv i σ' H' → tu { D with nx := Pv (i + 1), ct := Pv (i + 1), bk := D.nx } (σ'.set j (some (.int (lo + (i : Int))))) H') (hd : ∀ σ' H', Pv (n - lo).toNat σ' H' → D.nx σ' H') : tFor (iRng2 ta) (gName j) tu D σ H :=
  h H (Ex.refl H) _ fun H1 e => ⟨lo, n, rfl, ⟨by omega, by omega, by omega, by omega⟩, for_range (lo := lo) (n := (n - lo).toNat) Pv (h0 H1 e) (fun i σ' H' hi p => hs i σ' H' (by omega) p) hd⟩
theorem q_forR2n {ta : TA} {j : Nat} {lo n : Int} (h : EvA ta σ H [.int lo, .int n]) (hn : -100000 ≤ lo ∧ lo ≤ 100000 ∧ -100000 ≤ n ∧ n ≤ 100000) (Pv : Nat → L2.St → Hp → Prop) (h0 : ∀ H1, Ex H H1 → Pv 0 σ H1)
    (hs : ∀ (i : Nat) σ' H', lo + (i : Int) < n → Pv i σ' H' → tu { D with nx := Pv (i + 1), ct := Pv (i + 1), bk := tz D } (σ'.set j (some (.int (lo + (i : Int))))) H') (hd : ∀ σ' H', Pv (n - lo).toNat σ' H' → tz D σ' H') : tSeq (tFor (iRng2 ta) (gName j) tu) tz D σ H :=
  s_forR2n (D := { D with nx := tz D }) h hn Pv h0 hs hd
end
theorem hit_succ {ns : List Int} {b : Int} {m k : Nat} : hit ns b (m + 1) k = (hit ns b m k || decide (b - 60 + (m : Int) + Pt ns (b - 60 + (m : Int)) = b + (k : Int))) := by
  unfold hit
  rw [List.range_succ, List.any_append]
  simp
def stV (ns : List Int) : List V := (List.range ns.length).map fun i : Nat => V.int (st ns (i : Int))
def stRe (ns : List Int) : Re := if ns.any (fun x => decide (x < 0)) then .err "NotPlain" else if ns.any (fun x => decide (60 < x)) then .err "OutOfBounds" else .lst (stV ns)
def sp_states_of (K : PySem.W.Frag) : Sp := fun vs H Q E => ∃ v o, vs = [v] ∧ Row H v o ∧ Give K (doorRe o stRe) H Q E
theorem any_lt {ns : List Int} {m c : Int} (hm : m ∈ ns) (hl : ∀ y ∈ ns, m ≤ y) : (ns.any fun x => decide (x < c)) = decide (m < c) := by
  rw [Bool.eq_iff_iff, List.any_eq_true, decide_eq_true_iff]
  constructor
  · rintro ⟨x, hx, e⟩
    have := hl x hx
    have := of_decide_eq_true e
    omega
  · intro h
    exact ⟨m, hm, decide_eq_true h⟩
theorem any_gt {ns : List Int} {c : Int} (h : ns ≠ []) : (ns.any fun x => decide (c < x)) = decide (c < mx ns) := by
  rw [Bool.eq_iff_iff, List.any_eq_true, decide_eq_true_iff]
  constructor
  · rintro ⟨x, hx, e⟩
    have := mx_ge hx
    have := of_decide_eq_true e
    omega
  · intro hc
    exact ⟨mx ns, mx_mem h, decide_eq_true hc⟩
theorem sv_thrown {K : PySem.W.Frag} {H : Hp} {ns : List Int} (hp : Plain ns) {b : Int} {p : Int} (e : p = Pt ns b) : SpV (sp_thrown K) [.int (st ns b), .int p] H (.int (st ns (b + 1))) := spv_of fun H1 e1 Q E q => ⟨_, _, rfl, .int _, .int _, by
  have pb := pt_b hp b
  have z := thrown_good (a := st ns b) (b := (Pt ns b).toNat) (st_is b) (by omega)
  rw [show (((Pt ns b).toNat : Nat) : Int) = p by omega] at z
  rw [z, st_thrown hp]
  exact q⟩
theorem sc_states_of : FnScope ["pattern", "state", "beat", "spot", "states", "one"] ["pattern"] (defScope s_states_of) := ⟨rfl, rfl, rfl, by decide +kernel, rfl, by decide +kernel, by decide +kernel⟩
theorem ok_states_of {P : Program} {w : World} {K : PySem.W.Frag} {mg : Str → Option Value} {base : Heap} (T : TXT K mg) : OK P w K mg base "states_of" ["pattern"] 7 (sp_states_of K) := by
  have O_check_pattern := ok_check_pattern (P := P) (w := w) (base := base) T
  have O_thrown := ok_thrown (P := P) (w := w) (base := base) T
  obtain ⟨fd, F⟩ := T.def_ 7
  refine ⟨_, fd, T.glo 6, F.kp, F.bindsN (fun _ _ _ _ _ _ us hl => match us, hl with | [_], _ => rfl), F.ok sc_states_of (fun vs H Q E h => ?_) (fun cdv A outer s H vs Q E hr h => ?_), F.bindsA (fun _ _ _ _ _ _ us hl => match us, hl with | [_], _ => rfl)⟩
  · first | (obtain ⟨rfl, _⟩ := h; rfl) | (obtain ⟨_, rfl, _⟩ := h; rfl) | (obtain ⟨_, _, rfl, _⟩ := h; rfl) | (obtain ⟨_, _, _, rfl, _⟩ := h; rfl) | (obtain ⟨_, _, _, _, rfl, _⟩ := h; rfl) | (obtain ⟨_, _, _, _, _, rfl, _⟩ := h; rfl) | (obtain ⟨_, _, _, _, _, _, rfl, _⟩ := h; rfl) | (obtain ⟨_, _, _, _, _, _, _, rfl, _⟩ := h; rfl) | (obtain ⟨_, _, _, _, _, _, _, _, rfl, _⟩ := h; rfl)
  · replace F : FunD K "states_of" "states_of" (defArgs s_states_of) (defBody s_states_of) (defScope s_states_of) [] [] (He.ga K "states_of") fd := F
    refine ⟨_, (pss_cons (ps_expr (pe_own O_check_pattern (hr.mono (by decide)) (by rfl) (passes_call (takes_of rfl rfl rfl rfl) (fun _ _ _ _ h => h)) (pa_cons (pv 0) pa_nil)))
      (pss_cons (ps_if (pt_cmpR op_lt (pe_callB (id := "min") (k_min K rfl) (by rfl) (T.free 31) (by decide +kernel) (pa_cons (pv 0) pa_nil)) pe_int (nomark _))
        (pss_one (ps_raise rfl (takes_of rfl rfl rfl rfl) (pmk_ex (T.fact 42) (T.glo 21))))
        pss_nil)
      (pss_cons (ps_if (pt_cmpR op_gt (pe_callB (id := "max") (k_max K rfl) (by rfl) (T.free 30) (by decide +kernel) (pa_cons (pv 0) pa_nil)) (pe_gi (T.int 38)) (nomark _))
        (pss_one (ps_raise rfl (takes_of rfl rfl rfl rfl) (pmk_ex (T.fact 41) (T.glo 20))))
        pss_nil)
      (pss_cons (ps_set (i := 1) sc_states_of.nd rfl (Or.inl rfl) pe_int)
      (pss_cons (ps_for (passes_of rfl) rfl (pi_range2 (by rfl) (T.free 32) (pa_cons (pe_un un_neg (pe_gi (T.int 38))) (pa_cons pe_int pa_nil))) (pg_name (i := 2) sc_states_of.nd rfl (Or.inl rfl))
        (pss_cons (ps_set (i := 3) sc_states_of.nd rfl (Or.inl rfl) (pe_op op_add (pv 2) (pe_ix (k_ixL K) (pv 0) (pe_op op_mod (pv 2) (pe_callB (id := "len") (k_len K) (by rfl) (T.free 28) (by decide +kernel) (pa_cons (pv 0) pa_nil))) (fun _ _ => rfl))))
      (pss_one (ps_if (pt_cmpR op_ge (pv 3) pe_int (nomark _))
        (pss_one (ps_aug (i := 1) sc_states_of.nd rfl (Or.inl rfl) (pe_op op_shl pe_int (pv 3)) iop_or))
        pss_nil))))
      (pss_cons (ps_set (i := 4) sc_states_of.nd rfl (Or.inl rfl) (pe_lst pa_nil))
      (pss_cons (ps_for (passes_of rfl) rfl (k_piL K (pv 0)) (pg_name (i := 5) sc_states_of.nd rfl (Or.inl rfl))
        (pss_cons (ps_expr (pe_bm PySem.F.plainAttrs_list PySem.F.slot_list_append PySem.F.type_list_append mt_append (pv 4) (pa_cons (pv 1) pa_nil)))
      (pss_one (ps_set (i := 1) sc_states_of.nd rfl (Or.inl rfl) (pe_own O_thrown (hr.mono (by decide)) (by rfl) (passes_call (takes_of rfl rfl rfl rfl) (fun _ _ _ _ h => h)) (pa_cons (pv 1) (pa_cons (pv 5) pa_nil)))))))
      (pss_one (ps_ret (pv 4)))))))))), ?_⟩
    obtain ⟨v, o, rfl, hk, q⟩ := h
    dsimp only [cxOf, L2.start, List.map_cons, List.map_nil, List.length_cons, List.length_nil, Nat.reduceAdd, Nat.reduceSub, List.replicate_succ, List.replicate_zero, List.cons_append, List.nil_append, Nat.zero_add, List.reduceReplicate, List.map]
    by_cases hg : rowOk o = true ∧ clashOf (rowsOf o) = none
    case neg => exact xq_drop (rz_call (by (repeat' (first | with_reducible exact ev_c | ((with_reducible show Ev (tVar _) _ _ _); exact ev_var rfl) | with_reducible exact ea_nil | with_reducible exact eo_none | with_reducible refine' ea_cons ?_ ?_ | with_reducible refine' eo_some ?_ | with_reducible refine' ev_and2 ?_ ?_ | with_reducible refine' ev_or2 ?_ ?_ | with_reducible refine' ev_notV ?_ | with_reducible exact ru_I | with_reducible refine' ev_un ?_ ?_ | with_reducible exact rv_I0 | with_reducible exact rv_isN | with_reducible exact rv_notN | with_reducible refine' rv_I ?_ | with_reducible refine' rv_eq ?_ | with_reducible refine' rv_ne ?_ | with_reducible refine' ev_op ?_ ?_ ?_ | with_reducible refine' ev_chain2 ?_ ?_ ?_ ?_ ?_ | with_reducible refine' et_B ?_ | with_reducible refine' et_test ?_ | with_reducible refine' et_and2 ?_ ?_ | with_reducible refine' et_or2 ?_ ?_ | with_reducible refine' et_not ?_ | with_reducible refine' ev_call ?_ ?_ | with_reducible refine' ev_callS ?_ ?_ | with_reducible refine' ev_cb ?_ ?_ | with_reducible exact isi_bool (by assumption) | with_reducible exact isi_int (by assumption) | with_reducible exact isi_list (by assumption) | with_reducible exact rc_len (by assumption) | with_reducible exact rc_sum (by assumption) | with_reducible exact rc_abs | with_reducible exact isi_listL (by assumption) | with_reducible exact isi_intI | with_reducible exact isi_boolI | with_reducible exact rc_lenT (by assumption) | with_reducible exact isi_tup (by assumption) | with_reducible exact rv_eqL (by assumption) (by assumption) | with_reducible exact rv_neL (by assumption) (by assumption) | with_reducible exact rv_neT (by assumption) (by assumption) | with_reducible exact rv_ixL (by assumption) (by assumption) | with_reducible exact rv_ixT (by assumption) (by assumption) | with_reducible refine' ev_din ?_ ?_ (by assumption) | with_reducible refine' ev_dnotin ?_ ?_ (by assumption) | with_reducible refine' ev_dget ?_ ?_ (by assumption) (by assumption) | ((with_reducible show SpV _ _ _ _); assumption) | ((with_reducible show RV _ _ _ _ _); assumption) | ((with_reducible show RC _ _ _ _); assumption) | ((with_reducible show CDiv _ _); exact ⟨by omega, by omega⟩) | ((with_reducible show CMul _ _); first | exact .inl ⟨by omega, by omega⟩ | exact .inr ⟨by omega, by omega⟩) | ((with_reducible show CPow _ _); exact ⟨by omega, by omega, by decide⟩) | ((with_reducible show (0 : Int) < _); omega) | ((with_reducible show (0 : Int) ≤ _); omega) | ((with_reducible show scal _ _ = true); rfl)))) (sx_check_pattern hk q hg))
    have hcp := sv_check_pattern (K := K) hk hg.1 hg.2
    obtain ⟨a, ns, rfl, rfl, ha, hr, hc, q⟩ := door_go hk q hg
    have h1 := hr.1
    have h60 := hr.2.1
    have hne : ns ≠ [] := fun e => by rw [e] at h1; simp at h1
    have hl := List.length_map (as := ns) V.int
    refine q_drop (v := .non) (by (repeat' (first | with_reducible exact ev_c | ((with_reducible show Ev (tVar _) _ _ _); exact ev_var rfl) | with_reducible exact ea_nil | with_reducible exact eo_none | with_reducible refine' ea_cons ?_ ?_ | with_reducible refine' eo_some ?_ | with_reducible refine' ev_and2 ?_ ?_ | with_reducible refine' ev_or2 ?_ ?_ | with_reducible refine' ev_notV ?_ | with_reducible exact ru_I | with_reducible refine' ev_un ?_ ?_ | with_reducible exact rv_I0 | with_reducible exact rv_isN | with_reducible exact rv_notN | with_reducible refine' rv_I ?_ | with_reducible refine' rv_eq ?_ | with_reducible refine' rv_ne ?_ | with_reducible refine' ev_op ?_ ?_ ?_ | with_reducible refine' ev_chain2 ?_ ?_ ?_ ?_ ?_ | with_reducible refine' et_B ?_ | with_reducible refine' et_test ?_ | with_reducible refine' et_and2 ?_ ?_ | with_reducible refine' et_or2 ?_ ?_ | with_reducible refine' et_not ?_ | with_reducible refine' ev_call ?_ ?_ | with_reducible refine' ev_callS ?_ ?_ | with_reducible refine' ev_cb ?_ ?_ | with_reducible exact isi_bool (by assumption) | with_reducible exact isi_int (by assumption) | with_reducible exact isi_list (by assumption) | with_reducible exact rc_len (by assumption) | with_reducible exact rc_sum (by assumption) | with_reducible exact rc_abs | with_reducible exact isi_listL (by assumption) | with_reducible exact isi_intI | with_reducible exact isi_boolI | with_reducible exact rc_lenT (by assumption) | with_reducible exact isi_tup (by assumption) | with_reducible exact rv_eqL (by assumption) (by assumption) | with_reducible exact rv_neL (by assumption) (by assumption) | with_reducible exact rv_neT (by assumption) (by assumption) | with_reducible exact rv_ixL (by assumption) (by assumption) | with_reducible exact rv_ixT (by assumption) (by assumption) | with_reducible refine' ev_din ?_ ?_ (by assumption) | with_reducible refine' ev_dnotin ?_ ?_ (by assumption) | with_reducible refine' ev_dget ?_ ?_ (by assumption) (by assumption) | ((with_reducible show SpV _ _ _ _); assumption) | ((with_reducible show RV _ _ _ _ _); assumption) | ((with_reducible show RC _ _ _ _); assumption) | ((with_reducible show CDiv _ _); exact ⟨by omega, by omega⟩) | ((with_reducible show CMul _ _); first | exact .inl ⟨by omega, by omega⟩ | exact .inr ⟨by omega, by omega⟩) | ((with_reducible show CPow _ _); exact ⟨by omega, by omega, by decide⟩) | ((with_reducible show (0 : Int) < _); omega) | ((with_reducible show (0 : Int) ≤ _); omega) | ((with_reducible show scal _ _ = true); rfl)))) fun H1 e1 => ?_
    have s1 : SqL K H1 a (ns.map V.int) := ex_l e1 (sq_of ha)
    obtain ⟨m, hm, hle⟩ := min_ex hne
    have mr := rc_minV (K := K) s1 h1 hm hle
    unfold stRe at q
    rw [any_lt hm hle, any_gt hne] at q
    refine q_when (b := decide (m < 0)) (by (repeat' (first | with_reducible exact ev_c | ((with_reducible show Ev (tVar _) _ _ _); exact ev_var rfl) | with_reducible exact ea_nil | with_reducible exact eo_none | with_reducible refine' ea_cons ?_ ?_ | with_reducible refine' eo_some ?_ | with_reducible refine' ev_and2 ?_ ?_ | with_reducible refine' ev_or2 ?_ ?_ | with_reducible refine' ev_notV ?_ | with_reducible exact ru_I | with_reducible refine' ev_un ?_ ?_ | with_reducible exact rv_I0 | with_reducible exact rv_isN | with_reducible exact rv_notN | with_reducible refine' rv_I ?_ | with_reducible refine' rv_eq ?_ | with_reducible refine' rv_ne ?_ | with_reducible refine' ev_op ?_ ?_ ?_ | with_reducible refine' ev_chain2 ?_ ?_ ?_ ?_ ?_ | with_reducible refine' et_B ?_ | with_reducible refine' et_test ?_ | with_reducible refine' et_and2 ?_ ?_ | with_reducible refine' et_or2 ?_ ?_ | with_reducible refine' et_not ?_ | with_reducible refine' ev_call ?_ ?_ | with_reducible refine' ev_callS ?_ ?_ | with_reducible refine' ev_cb ?_ ?_ | with_reducible exact isi_bool (by assumption) | with_reducible exact isi_int (by assumption) | with_reducible exact isi_list (by assumption) | with_reducible exact rc_len (by assumption) | with_reducible exact rc_sum (by assumption) | with_reducible exact rc_abs | with_reducible exact isi_listL (by assumption) | with_reducible exact isi_intI | with_reducible exact isi_boolI | with_reducible exact rc_lenT (by assumption) | with_reducible exact isi_tup (by assumption) | with_reducible exact rv_eqL (by assumption) (by assumption) | with_reducible exact rv_neL (by assumption) (by assumption) | with_reducible exact rv_neT (by assumption) (by assumption) | with_reducible exact rv_ixL (by assumption) (by assumption) | with_reducible exact rv_ixT (by assumption) (by assumption) | with_reducible refine' ev_din ?_ ?_ (by assumption) | with_reducible refine' ev_dnotin ?_ ?_ (by assumption) | with_reducible refine' ev_dget ?_ ?_ (by assumption) (by assumption) | ((with_reducible show SpV _ _ _ _); assumption) | ((with_reducible show RV _ _ _ _ _); assumption) | ((with_reducible show RC _ _ _ _); assumption) | ((with_reducible show CDiv _ _); exact ⟨by omega, by omega⟩) | ((with_reducible show CMul _ _); first | exact .inl ⟨by omega, by omega⟩ | exact .inr ⟨by omega, by omega⟩) | ((with_reducible show CPow _ _); exact ⟨by omega, by omega, by decide⟩) | ((with_reducible show (0 : Int) < _); omega) | ((with_reducible show (0 : Int) ≤ _); omega) | ((with_reducible show scal _ _ = true); rfl)))) (fun hb H2 e2 => ?_) (fun hb H2 e2 => ?_)
    · rw [hb, if_pos rfl] at q
      exact q H2 (e1.trans e2)
    have s2 := ex_l e2 s1
    have xr := rc_max (K := K) s2 h1
    rw [hb] at q
    refine q_when (b := decide (60 < mx ns)) (by (repeat' (first | with_reducible exact ev_c | ((with_reducible show Ev (tVar _) _ _ _); exact ev_var rfl) | with_reducible exact ea_nil | with_reducible exact eo_none | with_reducible refine' ea_cons ?_ ?_ | with_reducible refine' eo_some ?_ | with_reducible refine' ev_and2 ?_ ?_ | with_reducible refine' ev_or2 ?_ ?_ | with_reducible refine' ev_notV ?_ | with_reducible exact ru_I | with_reducible refine' ev_un ?_ ?_ | with_reducible exact rv_I0 | with_reducible exact rv_isN | with_reducible exact rv_notN | with_reducible refine' rv_I ?_ | with_reducible refine' rv_eq ?_ | with_reducible refine' rv_ne ?_ | with_reducible refine' ev_op ?_ ?_ ?_ | with_reducible refine' ev_chain2 ?_ ?_ ?_ ?_ ?_ | with_reducible refine' et_B ?_ | with_reducible refine' et_test ?_ | with_reducible refine' et_and2 ?_ ?_ | with_reducible refine' et_or2 ?_ ?_ | with_reducible refine' et_not ?_ | with_reducible refine' ev_call ?_ ?_ | with_reducible refine' ev_callS ?_ ?_ | with_reducible refine' ev_cb ?_ ?_ | with_reducible exact isi_bool (by assumption) | with_reducible exact isi_int (by assumption) | with_reducible exact isi_list (by assumption) | with_reducible exact rc_len (by assumption) | with_reducible exact rc_sum (by assumption) | with_reducible exact rc_abs | with_reducible exact isi_listL (by assumption) | with_reducible exact isi_intI | with_reducible exact isi_boolI | with_reducible exact rc_lenT (by assumption) | with_reducible exact isi_tup (by assumption) | with_reducible exact rv_eqL (by assumption) (by assumption) | with_reducible exact rv_neL (by assumption) (by assumption) | with_reducible exact rv_neT (by assumption) (by assumption) | with_reducible exact rv_ixL (by assumption) (by assumption) | with_reducible exact rv_ixT (by assumption) (by assumption) | with_reducible refine' ev_din ?_ ?_ (by assumption) | with_reducible refine' ev_dnotin ?_ ?_ (by assumption) | with_reducible refine' ev_dget ?_ ?_ (by assumption) (by assumption) | ((with_reducible show SpV _ _ _ _); assumption) | ((with_reducible show RV _ _ _ _ _); assumption) | ((with_reducible show RC _ _ _ _); assumption) | ((with_reducible show CDiv _ _); exact ⟨by omega, by omega⟩) | ((with_reducible show CMul _ _); first | exact .inl ⟨by omega, by omega⟩ | exact .inr ⟨by omega, by omega⟩) | ((with_reducible show CPow _ _); exact ⟨by omega, by omega, by decide⟩) | ((with_reducible show (0 : Int) < _); omega) | ((with_reducible show (0 : Int) ≤ _); omega) | ((with_reducible show scal _ _ = true); rfl)))) (fun hb2 H3 e3 => ?_) (fun hb2 H3 e3 => ?_)
    · rw [hb2] at q
      exact q H3 ((e1.trans e2).trans e3)
    rw [hb2] at q
    have hb := of_decide_eq_false hb
    have hb2 := of_decide_eq_false hb2
    have pl : Plain ns := ⟨hr, hc, fun x hx => by
      have := hle x hx
      have := mx_ge hx
      omega⟩
    have q : Give K (.lst (stV ns)) H Q E := q
    refine q_asg (v := .int 0) (by (repeat' (first | with_reducible exact ev_c | ((with_reducible show Ev (tVar _) _ _ _); exact ev_var rfl) | with_reducible exact ea_nil | with_reducible exact eo_none | with_reducible refine' ea_cons ?_ ?_ | with_reducible refine' eo_some ?_ | with_reducible refine' ev_and2 ?_ ?_ | with_reducible refine' ev_or2 ?_ ?_ | with_reducible refine' ev_notV ?_ | with_reducible exact ru_I | with_reducible refine' ev_un ?_ ?_ | with_reducible exact rv_I0 | with_reducible exact rv_isN | with_reducible exact rv_notN | with_reducible refine' rv_I ?_ | with_reducible refine' rv_eq ?_ | with_reducible refine' rv_ne ?_ | with_reducible refine' ev_op ?_ ?_ ?_ | with_reducible refine' ev_chain2 ?_ ?_ ?_ ?_ ?_ | with_reducible refine' et_B ?_ | with_reducible refine' et_test ?_ | with_reducible refine' et_and2 ?_ ?_ | with_reducible refine' et_or2 ?_ ?_ | with_reducible refine' et_not ?_ | with_reducible refine' ev_call ?_ ?_ | with_reducible refine' ev_callS ?_ ?_ | with_reducible refine' ev_cb ?_ ?_ | with_reducible exact isi_bool (by assumption) | with_reducible exact isi_int (by assumption) | with_reducible exact isi_list (by assumption) | with_reducible exact rc_len (by assumption) | with_reducible exact rc_sum (by assumption) | with_reducible exact rc_abs | with_reducible exact isi_listL (by assumption) | with_reducible exact isi_intI | with_reducible exact isi_boolI | with_reducible exact rc_lenT (by assumption) | with_reducible exact isi_tup (by assumption) | with_reducible exact rv_eqL (by assumption) (by assumption) | with_reducible exact rv_neL (by assumption) (by assumption) | with_reducible exact rv_neT (by assumption) (by assumption) | with_reducible exact rv_ixL (by assumption) (by assumption) | with_reducible exact rv_ixT (by assumption) (by assumption) | with_reducible refine' ev_din ?_ ?_ (by assumption) | with_reducible refine' ev_dnotin ?_ ?_ (by assumption) | with_reducible refine' ev_dget ?_ ?_ (by assumption) (by assumption) | ((with_reducible show SpV _ _ _ _); assumption) | ((with_reducible show RV _ _ _ _ _); assumption) | ((with_reducible show RC _ _ _ _); assumption) | ((with_reducible show CDiv _ _); exact ⟨by omega, by omega⟩) | ((with_reducible show CMul _ _); first | exact .inl ⟨by omega, by omega⟩ | exact .inr ⟨by omega, by omega⟩) | ((with_reducible show CPow _ _); exact ⟨by omega, by omega, by decide⟩) | ((with_reducible show (0 : Int) < _); omega) | ((with_reducible show (0 : Int) ≤ _); omega) | ((with_reducible show scal _ _ = true); rfl)))) fun H4 e4 => ?_
    have s4 := ex_l (e3.trans e4) s2
    refine q_forR2n (lo := -60) (n := 0) (by (repeat' (first | with_reducible exact ev_c | ((with_reducible show Ev (tVar _) _ _ _); exact ev_var rfl) | with_reducible exact ea_nil | with_reducible exact eo_none | with_reducible refine' ea_cons ?_ ?_ | with_reducible refine' eo_some ?_ | with_reducible refine' ev_and2 ?_ ?_ | with_reducible refine' ev_or2 ?_ ?_ | with_reducible refine' ev_notV ?_ | with_reducible exact ru_I | with_reducible refine' ev_un ?_ ?_ | with_reducible exact rv_I0 | with_reducible exact rv_isN | with_reducible exact rv_notN | with_reducible refine' rv_I ?_ | with_reducible refine' rv_eq ?_ | with_reducible refine' rv_ne ?_ | with_reducible refine' ev_op ?_ ?_ ?_ | with_reducible refine' ev_chain2 ?_ ?_ ?_ ?_ ?_ | with_reducible refine' et_B ?_ | with_reducible refine' et_test ?_ | with_reducible refine' et_and2 ?_ ?_ | with_reducible refine' et_or2 ?_ ?_ | with_reducible refine' et_not ?_ | with_reducible refine' ev_call ?_ ?_ | with_reducible refine' ev_callS ?_ ?_ | with_reducible refine' ev_cb ?_ ?_ | with_reducible exact isi_bool (by assumption) | with_reducible exact isi_int (by assumption) | with_reducible exact isi_list (by assumption) | with_reducible exact rc_len (by assumption) | with_reducible exact rc_sum (by assumption) | with_reducible exact rc_abs | with_reducible exact isi_listL (by assumption) | with_reducible exact isi_intI | with_reducible exact isi_boolI | with_reducible exact rc_lenT (by assumption) | with_reducible exact isi_tup (by assumption) | with_reducible exact rv_eqL (by assumption) (by assumption) | with_reducible exact rv_neL (by assumption) (by assumption) | with_reducible exact rv_neT (by assumption) (by assumption) | with_reducible exact rv_ixL (by assumption) (by assumption) | with_reducible exact rv_ixT (by assumption) (by assumption) | with_reducible refine' ev_din ?_ ?_ (by assumption) | with_reducible refine' ev_dnotin ?_ ?_ (by assumption) | with_reducible refine' ev_dget ?_ ?_ (by assumption) (by assumption) | ((with_reducible show SpV _ _ _ _); assumption) | ((with_reducible show RV _ _ _ _ _); assumption) | ((with_reducible show RC _ _ _ _); assumption) | ((with_reducible show CDiv _ _); exact ⟨by omega, by omega⟩) | ((with_reducible show CMul _ _); first | exact .inl ⟨by omega, by omega⟩ | exact .inr ⟨by omega, by omega⟩) | ((with_reducible show CPow _ _); exact ⟨by omega, by omega, by decide⟩) | ((with_reducible show (0 : Int) < _); omega) | ((with_reducible show (0 : Int) ≤ _); omega) | ((with_reducible show scal _ _ = true); rfl)))) (by omega) (fun i σ' H' => ∃ (y2 y3 : Option V), σ' = [some (V.ref a), some (V.int (bS 60 (hit ns 0 i))), y2, y3, none, none] ∧ Ex H4 H') (fun H5 e5 => ⟨_, _, by
      rw [show bS 60 (hit ns 0 0) = 0 from rfl]
      rfl, e5⟩) ?_ ?_
    · rintro i σ' H' hi ⟨y2, y3, rfl, e5⟩
      have s5 := ex_l e5 s4
      have gp : atI (ns.map V.int) ((-60 + (i : Int)) % ((ns.map V.int).length : Int)) = some (.int (Pt ns (-60 + (i : Int)))) := by
        obtain ⟨j, hj, ej, ep⟩ := pt_ix h1 (-60 + (i : Int))
        rw [hl, ej, ep]
        exact atI_int hj
      have pb := pt_b pl (-60 + (i : Int))
      refine q_asg (v := .int (-60 + (i : Int) + Pt ns (-60 + (i : Int)))) (by (repeat' (first | with_reducible exact ev_c | ((with_reducible show Ev (tVar _) _ _ _); exact ev_var rfl) | with_reducible exact ea_nil | with_reducible exact eo_none | with_reducible refine' ea_cons ?_ ?_ | with_reducible refine' eo_some ?_ | with_reducible refine' ev_and2 ?_ ?_ | with_reducible refine' ev_or2 ?_ ?_ | with_reducible refine' ev_notV ?_ | with_reducible exact ru_I | with_reducible refine' ev_un ?_ ?_ | with_reducible exact rv_I0 | with_reducible exact rv_isN | with_reducible exact rv_notN | with_reducible refine' rv_I ?_ | with_reducible refine' rv_eq ?_ | with_reducible refine' rv_ne ?_ | with_reducible refine' ev_op ?_ ?_ ?_ | with_reducible refine' ev_chain2 ?_ ?_ ?_ ?_ ?_ | with_reducible refine' et_B ?_ | with_reducible refine' et_test ?_ | with_reducible refine' et_and2 ?_ ?_ | with_reducible refine' et_or2 ?_ ?_ | with_reducible refine' et_not ?_ | with_reducible refine' ev_call ?_ ?_ | with_reducible refine' ev_callS ?_ ?_ | with_reducible refine' ev_cb ?_ ?_ | with_reducible exact isi_bool (by assumption) | with_reducible exact isi_int (by assumption) | with_reducible exact isi_list (by assumption) | with_reducible exact rc_len (by assumption) | with_reducible exact rc_sum (by assumption) | with_reducible exact rc_abs | with_reducible exact isi_listL (by assumption) | with_reducible exact isi_intI | with_reducible exact isi_boolI | with_reducible exact rc_lenT (by assumption) | with_reducible exact isi_tup (by assumption) | with_reducible exact rv_eqL (by assumption) (by assumption) | with_reducible exact rv_neL (by assumption) (by assumption) | with_reducible exact rv_neT (by assumption) (by assumption) | with_reducible exact rv_ixL (by assumption) (by assumption) | with_reducible exact rv_ixT (by assumption) (by assumption) | with_reducible refine' ev_din ?_ ?_ (by assumption) | with_reducible refine' ev_dnotin ?_ ?_ (by assumption) | with_reducible refine' ev_dget ?_ ?_ (by assumption) (by assumption) | ((with_reducible show SpV _ _ _ _); assumption) | ((with_reducible show RV _ _ _ _ _); assumption) | ((with_reducible show RC _ _ _ _); assumption) | ((with_reducible show CDiv _ _); exact ⟨by omega, by omega⟩) | ((with_reducible show CMul _ _); first | exact .inl ⟨by omega, by omega⟩ | exact .inr ⟨by omega, by omega⟩) | ((with_reducible show CPow _ _); exact ⟨by omega, by omega, by decide⟩) | ((with_reducible show (0 : Int) < _); omega) | ((with_reducible show (0 : Int) ≤ _); omega) | ((with_reducible show scal _ _ = true); rfl)))) fun H6 e6 => ?_
      have hs : hit ns 0 (i + 1) = fun k => (hit ns 0 i k || decide (-60 + (i : Int) + Pt ns (-60 + (i : Int)) = (k : Int))) := by
        funext k
        rw [hit_succ, show (0 : Int) - 60 + (i : Int) = -60 + (i : Int) by omega, Int.zero_add]
      refine s_when (b := decide (0 ≤ -60 + (i : Int) + Pt ns (-60 + (i : Int)))) (by (repeat' (first | with_reducible exact ev_c | ((with_reducible show Ev (tVar _) _ _ _); exact ev_var rfl) | with_reducible exact ea_nil | with_reducible exact eo_none | with_reducible refine' ea_cons ?_ ?_ | with_reducible refine' eo_some ?_ | with_reducible refine' ev_and2 ?_ ?_ | with_reducible refine' ev_or2 ?_ ?_ | with_reducible refine' ev_notV ?_ | with_reducible exact ru_I | with_reducible refine' ev_un ?_ ?_ | with_reducible exact rv_I0 | with_reducible exact rv_isN | with_reducible exact rv_notN | with_reducible refine' rv_I ?_ | with_reducible refine' rv_eq ?_ | with_reducible refine' rv_ne ?_ | with_reducible refine' ev_op ?_ ?_ ?_ | with_reducible refine' ev_chain2 ?_ ?_ ?_ ?_ ?_ | with_reducible refine' et_B ?_ | with_reducible refine' et_test ?_ | with_reducible refine' et_and2 ?_ ?_ | with_reducible refine' et_or2 ?_ ?_ | with_reducible refine' et_not ?_ | with_reducible refine' ev_call ?_ ?_ | with_reducible refine' ev_callS ?_ ?_ | with_reducible refine' ev_cb ?_ ?_ | with_reducible exact isi_bool (by assumption) | with_reducible exact isi_int (by assumption) | with_reducible exact isi_list (by assumption) | with_reducible exact rc_len (by assumption) | with_reducible exact rc_sum (by assumption) | with_reducible exact rc_abs | with_reducible exact isi_listL (by assumption) | with_reducible exact isi_intI | with_reducible exact isi_boolI | with_reducible exact rc_lenT (by assumption) | with_reducible exact isi_tup (by assumption) | with_reducible exact rv_eqL (by assumption) (by assumption) | with_reducible exact rv_neL (by assumption) (by assumption) | with_reducible exact rv_neT (by assumption) (by assumption) | with_reducible exact rv_ixL (by assumption) (by assumption) | with_reducible exact rv_ixT (by assumption) (by assumption) | with_reducible refine' ev_din ?_ ?_ (by assumption) | with_reducible refine' ev_dnotin ?_ ?_ (by assumption) | with_reducible refine' ev_dget ?_ ?_ (by assumption) (by assumption) | ((with_reducible show SpV _ _ _ _); assumption) | ((with_reducible show RV _ _ _ _ _); assumption) | ((with_reducible show RC _ _ _ _); assumption) | ((with_reducible show CDiv _ _); exact ⟨by omega, by omega⟩) | ((with_reducible show CMul _ _); first | exact .inl ⟨by omega, by omega⟩ | exact .inr ⟨by omega, by omega⟩) | ((with_reducible show CPow _ _); exact ⟨by omega, by omega, by decide⟩) | ((with_reducible show (0 : Int) < _); omega) | ((with_reducible show (0 : Int) ≤ _); omega) | ((with_reducible show scal _ _ = true); rfl)))) (fun hb3 H7 e7 => ?_) (fun hb3 H7 e7 => ?_)
      · have hb3 := of_decide_eq_true hb3
        obtain ⟨t, ht⟩ : ∃ t : Nat, -60 + (i : Int) + Pt ns (-60 + (i : Int)) = (t : Int) := ⟨(-60 + (i : Int) + Pt ns (-60 + (i : Int))).toNat, by omega⟩
        have hf : hit ns 0 i t = false := by
          cases e : hit ns 0 i t with
          | false => rfl
          | true =>
            obtain ⟨d, hd, ed⟩ := hit_iff.mp e
            have := pt_inj h1 hc (t := 0 - 60 + (d : Int)) (u := -60 + (i : Int)) (by omega)
            omega
        have hput := bS_put (n := 60) (m := t) (f := hit ns 0 i) (by omega) hf
        have e2 : bS 60 (hit ns 0 (i + 1)) = bS 60 (hit ns 0 i) + 2 ^ t := by
          rw [← hput]
          refine bS_congr fun k _ => ?_
          rw [hs]
          show (hit ns 0 i k || _) = _
          congr 1
          rw [Bool.eq_iff_iff, decide_eq_true_iff, decide_eq_true_iff]
          omega
        rw [ht]
        refine s_aug (a := bS 60 (hit ns 0 i)) (b := 1 * 2 ^ (t : Int).toNat) rfl (by (repeat' (first | with_reducible exact ev_c | ((with_reducible show Ev (tVar _) _ _ _); exact ev_var rfl) | with_reducible exact ea_nil | with_reducible exact eo_none | with_reducible refine' ea_cons ?_ ?_ | with_reducible refine' eo_some ?_ | with_reducible refine' ev_and2 ?_ ?_ | with_reducible refine' ev_or2 ?_ ?_ | with_reducible refine' ev_notV ?_ | with_reducible exact ru_I | with_reducible refine' ev_un ?_ ?_ | with_reducible exact rv_I0 | with_reducible exact rv_isN | with_reducible exact rv_notN | with_reducible refine' rv_I ?_ | with_reducible refine' rv_eq ?_ | with_reducible refine' rv_ne ?_ | with_reducible refine' ev_op ?_ ?_ ?_ | with_reducible refine' ev_chain2 ?_ ?_ ?_ ?_ ?_ | with_reducible refine' et_B ?_ | with_reducible refine' et_test ?_ | with_reducible refine' et_and2 ?_ ?_ | with_reducible refine' et_or2 ?_ ?_ | with_reducible refine' et_not ?_ | with_reducible refine' ev_call ?_ ?_ | with_reducible refine' ev_callS ?_ ?_ | with_reducible refine' ev_cb ?_ ?_ | with_reducible exact isi_bool (by assumption) | with_reducible exact isi_int (by assumption) | with_reducible exact isi_list (by assumption) | with_reducible exact rc_len (by assumption) | with_reducible exact rc_sum (by assumption) | with_reducible exact rc_abs | with_reducible exact isi_listL (by assumption) | with_reducible exact isi_intI | with_reducible exact isi_boolI | with_reducible exact rc_lenT (by assumption) | with_reducible exact isi_tup (by assumption) | with_reducible exact rv_eqL (by assumption) (by assumption) | with_reducible exact rv_neL (by assumption) (by assumption) | with_reducible exact rv_neT (by assumption) (by assumption) | with_reducible exact rv_ixL (by assumption) (by assumption) | with_reducible exact rv_ixT (by assumption) (by assumption) | with_reducible refine' ev_din ?_ ?_ (by assumption) | with_reducible refine' ev_dnotin ?_ ?_ (by assumption) | with_reducible refine' ev_dget ?_ ?_ (by assumption) (by assumption) | ((with_reducible show SpV _ _ _ _); assumption) | ((with_reducible show RV _ _ _ _ _); assumption) | ((with_reducible show RC _ _ _ _); assumption) | ((with_reducible show CDiv _ _); exact ⟨by omega, by omega⟩) | ((with_reducible show CMul _ _); first | exact .inl ⟨by omega, by omega⟩ | exact .inr ⟨by omega, by omega⟩) | ((with_reducible show CPow _ _); exact ⟨by omega, by omega, by decide⟩) | ((with_reducible show (0 : Int) < _); omega) | ((with_reducible show (0 : Int) ≤ _); omega) | ((with_reducible show scal _ _ = true); rfl)))) fun H8 e8 => ⟨some (V.int (-60 + (i : Int))), some (V.int (t : Int)), ?_, ((e5.trans e6).trans e7).trans e8⟩
        rw [e2, Int.one_mul, Int.toNat_natCast]
        rw [or_pow (bS_nn _ _) (by rw [bS_bit, hf, if_neg fun z => by cases z.2])]
        rfl
      · have hb3 := of_decide_eq_false hb3
        refine ⟨some (V.int (-60 + (i : Int))), some (V.int (-60 + (i : Int) + Pt ns (-60 + (i : Int)))), ?_, (e5.trans e6).trans e7⟩
        have e2 : bS 60 (hit ns 0 (i + 1)) = bS 60 (hit ns 0 i) := bS_congr fun k _ => by
          rw [hs]
          dsimp only
          rw [decide_eq_false (by omega), Bool.or_false]
        rw [e2]
        rfl
    rintro σ' H' ⟨y2, y3, rfl, e5⟩
    rw [show ((0 : Int) - -60).toNat = 60 from rfl, show bS 60 (hit ns 0 60) = st ns ((0 : Nat) : Int) from rfl]
    refine q_asgL (xs := []) (el_lst ea_nil (by decide)) fun l H6 hl6 e6 h6 => ?_
    have e15 := ((e2.trans e3).trans e4).trans e5
    have lH : H l = none := fresh_back (e1.trans e15) hl6
    have hHl : H' l = none := hl6
    refine q_forLn (a := a) (xs := ns.map V.int) (by (repeat' (first | with_reducible exact ev_c | ((with_reducible show Ev (tVar _) _ _ _); exact ev_var rfl) | with_reducible exact ea_nil | with_reducible exact eo_none | with_reducible refine' ea_cons ?_ ?_ | with_reducible refine' eo_some ?_ | with_reducible refine' ev_and2 ?_ ?_ | with_reducible refine' ev_or2 ?_ ?_ | with_reducible refine' ev_notV ?_ | with_reducible exact ru_I | with_reducible refine' ev_un ?_ ?_ | with_reducible exact rv_I0 | with_reducible exact rv_isN | with_reducible exact rv_notN | with_reducible refine' rv_I ?_ | with_reducible refine' rv_eq ?_ | with_reducible refine' rv_ne ?_ | with_reducible refine' ev_op ?_ ?_ ?_ | with_reducible refine' ev_chain2 ?_ ?_ ?_ ?_ ?_ | with_reducible refine' et_B ?_ | with_reducible refine' et_test ?_ | with_reducible refine' et_and2 ?_ ?_ | with_reducible refine' et_or2 ?_ ?_ | with_reducible refine' et_not ?_ | with_reducible refine' ev_call ?_ ?_ | with_reducible refine' ev_callS ?_ ?_ | with_reducible refine' ev_cb ?_ ?_ | with_reducible exact isi_bool (by assumption) | with_reducible exact isi_int (by assumption) | with_reducible exact isi_list (by assumption) | with_reducible exact rc_len (by assumption) | with_reducible exact rc_sum (by assumption) | with_reducible exact rc_abs | with_reducible exact isi_listL (by assumption) | with_reducible exact isi_intI | with_reducible exact isi_boolI | with_reducible exact rc_lenT (by assumption) | with_reducible exact isi_tup (by assumption) | with_reducible exact rv_eqL (by assumption) (by assumption) | with_reducible exact rv_neL (by assumption) (by assumption) | with_reducible exact rv_neT (by assumption) (by assumption) | with_reducible exact rv_ixL (by assumption) (by assumption) | with_reducible exact rv_ixT (by assumption) (by assumption) | with_reducible refine' ev_din ?_ ?_ (by assumption) | with_reducible refine' ev_dnotin ?_ ?_ (by assumption) | with_reducible refine' ev_dget ?_ ?_ (by assumption) (by assumption) | ((with_reducible show SpV _ _ _ _); assumption) | ((with_reducible show RV _ _ _ _ _); assumption) | ((with_reducible show RC _ _ _ _); assumption) | ((with_reducible show CDiv _ _); exact ⟨by omega, by omega⟩) | ((with_reducible show CMul _ _); first | exact .inl ⟨by omega, by omega⟩ | exact .inr ⟨by omega, by omega⟩) | ((with_reducible show CPow _ _); exact ⟨by omega, by omega, by decide⟩) | ((with_reducible show (0 : Int) < _); omega) | ((with_reducible show (0 : Int) ≤ _); omega) | ((with_reducible show scal _ _ = true); rfl)))) (ex_l (e15.trans e6) s1) (fun i σ'' H'' => ∃ y5 : Option V, σ'' = [some (V.ref a), some (V.int (st ns (i : Int))), y2, y3, some (V.ref l), y5] ∧ Ex H' H'' ∧ H'' l = some (.lst ((List.range i).map fun j : Nat => V.int (st ns (j : Int))))) (fun H7 e7 => ⟨_, rfl, e6.trans e7, e7 _ _ h6⟩) (fun i σ'' H'' _ ⟨_, _, e, _⟩ => ex_l (e15.trans e) s1) ?_ ?_
    · rintro i x σ'' H'' hx ⟨y5, rfl, e7, h7⟩
      rw [List.getElem?_map] at hx
      obtain ⟨p, hp, rfl⟩ := Option.map_eq_some_iff.mp hx
      have hi' : i < ns.length := (List.getElem?_eq_some_iff.mp hp).1
      have ep : p = Pt ns (i : Int) := by
        rw [pt_at hi', List.getD_eq_getElem?_getD, hp]
        rfl
      refine q_app (xs := (List.range i).map fun j : Nat => V.int (st ns (j : Int))) (v := .int (st ns (i : Int))) h7 (by (repeat' (first | with_reducible exact ev_c | ((with_reducible show Ev (tVar _) _ _ _); exact ev_var rfl) | with_reducible exact ea_nil | with_reducible exact eo_none | with_reducible refine' ea_cons ?_ ?_ | with_reducible refine' eo_some ?_ | with_reducible refine' ev_and2 ?_ ?_ | with_reducible refine' ev_or2 ?_ ?_ | with_reducible refine' ev_notV ?_ | with_reducible exact ru_I | with_reducible refine' ev_un ?_ ?_ | with_reducible exact rv_I0 | with_reducible exact rv_isN | with_reducible exact rv_notN | with_reducible refine' rv_I ?_ | with_reducible refine' rv_eq ?_ | with_reducible refine' rv_ne ?_ | with_reducible refine' ev_op ?_ ?_ ?_ | with_reducible refine' ev_chain2 ?_ ?_ ?_ ?_ ?_ | with_reducible refine' et_B ?_ | with_reducible refine' et_test ?_ | with_reducible refine' et_and2 ?_ ?_ | with_reducible refine' et_or2 ?_ ?_ | with_reducible refine' et_not ?_ | with_reducible refine' ev_call ?_ ?_ | with_reducible refine' ev_callS ?_ ?_ | with_reducible refine' ev_cb ?_ ?_ | with_reducible exact isi_bool (by assumption) | with_reducible exact isi_int (by assumption) | with_reducible exact isi_list (by assumption) | with_reducible exact rc_len (by assumption) | with_reducible exact rc_sum (by assumption) | with_reducible exact rc_abs | with_reducible exact isi_listL (by assumption) | with_reducible exact isi_intI | with_reducible exact isi_boolI | with_reducible exact rc_lenT (by assumption) | with_reducible exact isi_tup (by assumption) | with_reducible exact rv_eqL (by assumption) (by assumption) | with_reducible exact rv_neL (by assumption) (by assumption) | with_reducible exact rv_neT (by assumption) (by assumption) | with_reducible exact rv_ixL (by assumption) (by assumption) | with_reducible exact rv_ixT (by assumption) (by assumption) | with_reducible refine' ev_din ?_ ?_ (by assumption) | with_reducible refine' ev_dnotin ?_ ?_ (by assumption) | with_reducible refine' ev_dget ?_ ?_ (by assumption) (by assumption) | ((with_reducible show SpV _ _ _ _); assumption) | ((with_reducible show RV _ _ _ _ _); assumption) | ((with_reducible show RC _ _ _ _); assumption) | ((with_reducible show CDiv _ _); exact ⟨by omega, by omega⟩) | ((with_reducible show CMul _ _); first | exact .inl ⟨by omega, by omega⟩ | exact .inr ⟨by omega, by omega⟩) | ((with_reducible show CPow _ _); exact ⟨by omega, by omega, by decide⟩) | ((with_reducible show (0 : Int) < _); omega) | ((with_reducible show (0 : Int) ≤ _); omega) | ((with_reducible show scal _ _ = true); rfl)))) (by (repeat' (first | with_reducible exact ev_c | ((with_reducible show Ev (tVar _) _ _ _); exact ev_var rfl) | with_reducible exact ea_nil | with_reducible exact eo_none | with_reducible refine' ea_cons ?_ ?_ | with_reducible refine' eo_some ?_ | with_reducible refine' ev_and2 ?_ ?_ | with_reducible refine' ev_or2 ?_ ?_ | with_reducible refine' ev_notV ?_ | with_reducible exact ru_I | with_reducible refine' ev_un ?_ ?_ | with_reducible exact rv_I0 | with_reducible exact rv_isN | with_reducible exact rv_notN | with_reducible refine' rv_I ?_ | with_reducible refine' rv_eq ?_ | with_reducible refine' rv_ne ?_ | with_reducible refine' ev_op ?_ ?_ ?_ | with_reducible refine' ev_chain2 ?_ ?_ ?_ ?_ ?_ | with_reducible refine' et_B ?_ | with_reducible refine' et_test ?_ | with_reducible refine' et_and2 ?_ ?_ | with_reducible refine' et_or2 ?_ ?_ | with_reducible refine' et_not ?_ | with_reducible refine' ev_call ?_ ?_ | with_reducible refine' ev_callS ?_ ?_ | with_reducible refine' ev_cb ?_ ?_ | with_reducible exact isi_bool (by assumption) | with_reducible exact isi_int (by assumption) | with_reducible exact isi_list (by assumption) | with_reducible exact rc_len (by assumption) | with_reducible exact rc_sum (by assumption) | with_reducible exact rc_abs | with_reducible exact isi_listL (by assumption) | with_reducible exact isi_intI | with_reducible exact isi_boolI | with_reducible exact rc_lenT (by assumption) | with_reducible exact isi_tup (by assumption) | with_reducible exact rv_eqL (by assumption) (by assumption) | with_reducible exact rv_neL (by assumption) (by assumption) | with_reducible exact rv_neT (by assumption) (by assumption) | with_reducible exact rv_ixL (by assumption) (by assumption) | with_reducible exact rv_ixT (by assumption) (by assumption) | with_reducible refine' ev_din ?_ ?_ (by assumption) | with_reducible refine' ev_dnotin ?_ ?_ (by assumption) | with_reducible refine' ev_dget ?_ ?_ (by assumption) (by assumption) | ((with_reducible show SpV _ _ _ _); assumption) | ((with_reducible show RV _ _ _ _ _); assumption) | ((with_reducible show RC _ _ _ _); assumption) | ((with_reducible show CDiv _ _); exact ⟨by omega, by omega⟩) | ((with_reducible show CMul _ _); first | exact .inl ⟨by omega, by omega⟩ | exact .inr ⟨by omega, by omega⟩) | ((with_reducible show CPow _ _); exact ⟨by omega, by omega, by decide⟩) | ((with_reducible show (0 : Int) < _); omega) | ((with_reducible show (0 : Int) ≤ _); omega) | ((with_reducible show scal _ _ = true); rfl)))) (by rw [List.length_map, List.length_range]; omega) fun H8 e8 => ?_
      have e9 : Ex H' (upd H8 l (.lst (((List.range i).map fun j : Nat => V.int (st ns (j : Int))) ++ [.int (st ns (i : Int))]))) := Ex.mut (e7.trans e8) hHl
      have h9 : (upd H8 l (.lst (((List.range i).map fun j : Nat => V.int (st ns (j : Int))) ++ [.int (st ns (i : Int))]))) l = some (.lst ((List.range (i + 1)).map fun j : Nat => V.int (st ns (j : Int)))) := by
        rw [upd_same, List.range_succ, List.map_append]
        rfl
      generalize upd H8 l (.lst (((List.range i).map fun j : Nat => V.int (st ns (j : Int))) ++ [.int (st ns (i : Int))])) = H9 at *
      have tv := sv_thrown (K := K) (H := H9) pl ep
      refine s_asg (v := .int (st ns ((i : Int) + 1))) (by (repeat' (first | with_reducible exact ev_c | ((with_reducible show Ev (tVar _) _ _ _); exact ev_var rfl) | with_reducible exact ea_nil | with_reducible exact eo_none | with_reducible refine' ea_cons ?_ ?_ | with_reducible refine' eo_some ?_ | with_reducible refine' ev_and2 ?_ ?_ | with_reducible refine' ev_or2 ?_ ?_ | with_reducible refine' ev_notV ?_ | with_reducible exact ru_I | with_reducible refine' ev_un ?_ ?_ | with_reducible exact rv_I0 | with_reducible exact rv_isN | with_reducible exact rv_notN | with_reducible refine' rv_I ?_ | with_reducible refine' rv_eq ?_ | with_reducible refine' rv_ne ?_ | with_reducible refine' ev_op ?_ ?_ ?_ | with_reducible refine' ev_chain2 ?_ ?_ ?_ ?_ ?_ | with_reducible refine' et_B ?_ | with_reducible refine' et_test ?_ | with_reducible refine' et_and2 ?_ ?_ | with_reducible refine' et_or2 ?_ ?_ | with_reducible refine' et_not ?_ | with_reducible refine' ev_call ?_ ?_ | with_reducible refine' ev_callS ?_ ?_ | with_reducible refine' ev_cb ?_ ?_ | with_reducible exact isi_bool (by assumption) | with_reducible exact isi_int (by assumption) | with_reducible exact isi_list (by assumption) | with_reducible exact rc_len (by assumption) | with_reducible exact rc_sum (by assumption) | with_reducible exact rc_abs | with_reducible exact isi_listL (by assumption) | with_reducible exact isi_intI | with_reducible exact isi_boolI | with_reducible exact rc_lenT (by assumption) | with_reducible exact isi_tup (by assumption) | with_reducible exact rv_eqL (by assumption) (by assumption) | with_reducible exact rv_neL (by assumption) (by assumption) | with_reducible exact rv_neT (by assumption) (by assumption) | with_reducible exact rv_ixL (by assumption) (by assumption) | with_reducible exact rv_ixT (by assumption) (by assumption) | with_reducible refine' ev_din ?_ ?_ (by assumption) | with_reducible refine' ev_dnotin ?_ ?_ (by assumption) | with_reducible refine' ev_dget ?_ ?_ (by assumption) (by assumption) | ((with_reducible show SpV _ _ _ _); assumption) | ((with_reducible show RV _ _ _ _ _); assumption) | ((with_reducible show RC _ _ _ _); assumption) | ((with_reducible show CDiv _ _); exact ⟨by omega, by omega⟩) | ((with_reducible show CMul _ _); first | exact .inl ⟨by omega, by omega⟩ | exact .inr ⟨by omega, by omega⟩) | ((with_reducible show CPow _ _); exact ⟨by omega, by omega, by decide⟩) | ((with_reducible show (0 : Int) < _); omega) | ((with_reducible show (0 : Int) ≤ _); omega) | ((with_reducible show scal _ _ = true); rfl)))) fun H10 e10 => ⟨some (V.int p), ?_, e9.trans e10, e10 _ _ h9⟩
      rw [show (((i + 1 : Nat)) : Int) = (i : Int) + 1 by omega]
      rfl
    · rintro σ'' H'' ⟨y5, rfl, e7, h7⟩
      rw [List.length_map] at h7
      exact s_ret (v := .ref l) (by (repeat' (first | with_reducible exact ev_c | ((with_reducible show Ev (tVar _) _ _ _); exact ev_var rfl) | with_reducible exact ea_nil | with_reducible exact eo_none | with_reducible refine' ea_cons ?_ ?_ | with_reducible refine' eo_some ?_ | with_reducible refine' ev_and2 ?_ ?_ | with_reducible refine' ev_or2 ?_ ?_ | with_reducible refine' ev_notV ?_ | with_reducible exact ru_I | with_reducible refine' ev_un ?_ ?_ | with_reducible exact rv_I0 | with_reducible exact rv_isN | with_reducible exact rv_notN | with_reducible refine' rv_I ?_ | with_reducible refine' rv_eq ?_ | with_reducible refine' rv_ne ?_ | with_reducible refine' ev_op ?_ ?_ ?_ | with_reducible refine' ev_chain2 ?_ ?_ ?_ ?_ ?_ | with_reducible refine' et_B ?_ | with_reducible refine' et_test ?_ | with_reducible refine' et_and2 ?_ ?_ | with_reducible refine' et_or2 ?_ ?_ | with_reducible refine' et_not ?_ | with_reducible refine' ev_call ?_ ?_ | with_reducible refine' ev_callS ?_ ?_ | with_reducible refine' ev_cb ?_ ?_ | with_reducible exact isi_bool (by assumption) | with_reducible exact isi_int (by assumption) | with_reducible exact isi_list (by assumption) | with_reducible exact rc_len (by assumption) | with_reducible exact rc_sum (by assumption) | with_reducible exact rc_abs | with_reducible exact isi_listL (by assumption) | with_reducible exact isi_intI | with_reducible exact isi_boolI | with_reducible exact rc_lenT (by assumption) | with_reducible exact isi_tup (by assumption) | with_reducible exact rv_eqL (by assumption) (by assumption) | with_reducible exact rv_neL (by assumption) (by assumption) | with_reducible exact rv_neT (by assumption) (by assumption) | with_reducible exact rv_ixL (by assumption) (by assumption) | with_reducible exact rv_ixT (by assumption) (by assumption) | with_reducible refine' ev_din ?_ ?_ (by assumption) | with_reducible refine' ev_dnotin ?_ ?_ (by assumption) | with_reducible refine' ev_dget ?_ ?_ (by assumption) (by assumption) | ((with_reducible show SpV _ _ _ _); assumption) | ((with_reducible show RV _ _ _ _ _); assumption) | ((with_reducible show RC _ _ _ _); assumption) | ((with_reducible show CDiv _ _); exact ⟨by omega, by omega⟩) | ((with_reducible show CMul _ _); first | exact .inl ⟨by omega, by omega⟩ | exact .inr ⟨by omega, by omega⟩) | ((with_reducible show CPow _ _); exact ⟨by omega, by omega, by decide⟩) | ((with_reducible show (0 : Int) < _); omega) | ((with_reducible show (0 : Int) ≤ _); omega) | ((with_reducible show scal _ _ = true); rfl)))) fun H8 e8 => q l H8 lH (((e1.trans e15).trans e7).trans e8) (e8 _ _ h7)

end TB

/-! ### doors that raise, tests that raise -/
namespace TB
open PySem PySem.Spec PyProof.Rows L2 Evl
section
variable {K : PySem.W.Frag} {σ : L2.St} {H H' H2 : Hp} {te : TE} {t : TT} {tu tw tz : TS} {D : Ends}
theorem el_revL {a : Addr} {xs : List V} (h : Ev te σ H (.ref a)) (hx : SqL K H a xs) : EvL (tRevL K te) σ H xs.reverse := fun H1 e Q q =>
  h H1 e _ fun H2 e2 => ⟨a, xs, rfl, ex_l (e.trans e2) hx, fun p hp => q p _ (fresh_back e2 hp) (e2.trans (Ex.new hp)) upd_same⟩
theorem rzt_test (h : Rz te σ H) : RzT (tTest te) σ H := fun H1 e Q => h H1 e _
theorem xq_if (h : RzT t σ H) : tSeq (tIfS t tu tw) tz D σ H := h H (Ex.refl H) _
theorem x_if (h : RzT t σ H) : tIfS t tu tw D σ H := h H (Ex.refl H) _
/-- all but one address is kept -/
theorem ex_but {p : Addr} (h : ∀ H0, Ex H0 H → H0 p = none → Ex H0 H2) : ∀ x u, x ≠ p → H x = some u → H2 x = some u := fun x u hx hu => by
  refine h (fun y => if y = p then none else H y) (fun y v hv => ?_) (by simp) x u ?_
  · have hv : (if y = p then none else H y) = some v := hv
    by_cases e : y = p
    · rw [if_pos e] at hv
      cases hv
    · rw [if_neg e] at hv
      exact hv
  · show (if x = p then none else H x) = _
    rw [if_neg hx]
    exact hu
end
theorem door_bad {o : Option (List V)} {f g : List Int → Re} (h : ¬ (rowOk o = true ∧ clashOf (rowsOf o) = none)) : doorRe o f = doorRe o g := by
  unfold doorRe patRe
  by_cases ho : rowOk o = true
  · rw [if_pos ho, if_pos ho]
    cases hc : clashOf (rowsOf o) with
    | none => exact absurd ⟨ho, hc⟩ h
    | some ij => rfl
  · rw [if_neg ho, if_neg ho]
theorem bad_q {K : PySem.W.Frag} {o : Option (List V)} {f g : List Int → Re} {H : Hp} {Q Q2 : VK} {E : XK} (h : ¬ (rowOk o = true ∧ clashOf (rowsOf o) = none)) (q : Give K (doorRe o f) H Q E) : Give K (doorRe o g) H Q2 E := by
  unfold doorRe patRe at q ⊢
  by_cases ho : rowOk o = true
  · rw [if_pos ho] at q ⊢
    cases hc : clashOf (rowsOf o) with
    | none => exact absurd ⟨ho, hc⟩ h
    | some ij =>
      rw [hc] at q
      exact q
  · rw [if_neg ho] at q ⊢
    exact q
end TB

/-! ### parted -/
namespace TB
open PySem PySem.Spec PyProof.Rows L2 Evl
section
variable {K : PySem.W.Frag} {σ : L2.St} {H H' : Hp} {t1 t2 te tl ta : TE} {tu tz : TS} {g : TG} {D : Ends}
/-- a loop over zip(a new list, a list), its target one name -/
theorem q_forZ {j : Nat} {b : Addr} {xs ys : List V} (h1 : EvL t1 σ H xs) (h2 : ∀ H1, Ex H H1 → Ev t2 σ H1 (.ref b)) (hb : SqL K H b ys) (hl : xs.length = ys.length) (Pv : Addr → Nat → L2.St → Hp → Prop)
    (h0 : ∀ p H1, H p = none → Ex H H1 → H1 p = some (.lst xs) → Pv p 0 σ H1) (hq : ∀ p i σ' H', Pv p i σ' H' → SqL K H' p xs ∧ SqL K H' b ys)
    (hs : ∀ p (i : Nat) (x y : V) (T : Addr) (σ' : L2.St) (H' : Hp), xs[i]? = some x → ys[i]? = some y → Pv p i σ' H' → H' T = none → tu { D with nx := Pv p (i + 1), ct := Pv p (i + 1), bk := tz D } (σ'.set j (some (.ref T))) (upd H' T (.tup [x, y])))
    (hd : ∀ p σ' H', Pv p xs.length σ' H' → tz D σ' H') : tSeq (tFor (iZip K (tCons t1 (tCons t2 tNil))) (gName j) tu) tz D σ H :=
  h1 H (Ex.refl H) _ fun p H1 hp e1 g1 => h2 H1 e1 H1 (Ex.refl H1) _ fun H2 e2 => ⟨p, b, xs, ys, rfl, sq_of (e2 _ _ g1), ex_l (e1.trans e2) hb,
    RZ.for_zipL (D := { D with nx := tz D }) (g := gName j) hl (Pv p) (h0 p H2 hp (e1.trans e2) (e2 _ _ g1)) (hq p) (hs p) (hd p)⟩
theorem xq_forZ {ts : TA} (h : RzA ts σ H) : tSeq (tFor (iZip K ts) g tu) tz D σ H := h H (Ex.refl H) _
/-- xs.append((a value, a new list)) -/
theorem q_appVL {l : Addr} {xs ys : List V} {v : V} (hl : H l = some (.lst xs)) (ha : Ev ta σ H (.ref l)) (h1 : Ev t1 σ H v) (h2 : EvL t2 σ H ys) (hz : xs.length < 100000)
    (k : ∀ d e H1, H d = none → H e = none → Ex H H1 → H1 d = some (.tup [v, .ref e]) → H1 e = some (.lst ys) → tz D σ (upd H1 l (.lst (xs ++ [.ref d])))) :
    tSeq (tDrop (tBM K "list" rAppend ta (tCons (tTup (tCons t1 (tCons t2 tNil))) tNil))) tz D σ H := ha H (Ex.refl H) _ fun H1 e1 =>
  ⟨Or.inl ⟨rfl, xs, sq_of (e1 l _ hl)⟩, h1 H1 e1 _ fun H2 e2 => h2 H2 (e1.trans e2) _ fun e H3 he e3 h3 => ⟨sz_of (by simp), fun d hd =>
    ⟨l, xs, .ref d, rfl, rfl, by
      rw [upd_ne (ne_of_none (((e1.trans e2).trans e3) l _ hl) hd)]
      exact ((e1.trans e2).trans e3) l _ hl, sz_lt hz, k d e _ (fresh_back ((e1.trans e2).trans e3) hd) (fresh_back (e1.trans e2) he) (((e1.trans e2).trans e3).trans (Ex.new hd)) upd_same (by
      rw [upd_ne (ne_of_none h3 hd)]
      exact h3)⟩⟩⟩
end
abbrev Stp := Int × Int
def ixOf : List Int → Int → Option Nat
  | [], _ => none
  | a :: r, s => if a = s then some 0 else (ixOf r s).map (· + 1)
theorem ixOf_none : ∀ {l : List Int} {s : Int}, ixOf l s = none → s ∉ l
  | [], _, _ => by simp
  | a :: r, s, h => by
    unfold ixOf at h
    by_cases e : a = s
    · rw [if_pos e] at h
      cases h
    · rw [if_neg e, Option.map_eq_none_iff] at h
      intro hm
      rcases List.mem_cons.mp hm with z | z
      · exact e z.symm
      · exact ixOf_none h z
theorem ixOf_some : ∀ {l : List Int} {s : Int} {j : Nat}, ixOf l s = some j → l[j]? = some s ∧ ∀ (m : Nat) (z : Int), m < j → l[m]? = some z → z ≠ s
  | [], _, _, h => by cases h
  | a :: r, s, j, h => by
    unfold ixOf at h
    by_cases e : a = s
    · rw [if_pos e] at h
      injection h with h
      subst h
      exact ⟨by rw [e]; rfl, fun m z hm => absurd hm (by omega)⟩
    · rw [if_neg e] at h
      obtain ⟨i, hi, rfl⟩ := Option.map_eq_some_iff.mp h
      obtain ⟨h1, h2⟩ := ixOf_some hi
      refine ⟨h1, fun m z hm hz => ?_⟩
      cases m with
      | zero =>
        injection hz with hz
        rw [← hz]
        exact e
      | succ m => exact h2 m z (by omega) hz
abbrev PAcc := List (Int × List Int) × List Stp
/-- a step more: a loop is cut off where the state was met -/
def partS (acc : PAcc) (p : Stp) : PAcc := match ixOf (acc.2.map Prod.fst) p.1 with
  | some j => (acc.1 ++ [(p.1, (acc.2.drop j).map Prod.snd)], acc.2.take j ++ [p])
  | none => (acc.1, acc.2 ++ [p])
def stepsI (ns : List Int) : List Stp := (List.range ns.length).map fun i : Nat => (st ns (i : Int), ns.getD i 0)
def partAt (ns : List Int) (i : Nat) : PAcc := ((stepsI ns).take i).foldl partS ([], [])
def partI (ns : List Int) : List (Int × List Int) := (partAt ns ns.length).1 ++ [(((partAt ns ns.length).2.headD (0, 0)).1, (partAt ns ns.length).2.map Prod.snd)]
theorem stepsI_len (ns : List Int) : (stepsI ns).length = ns.length := by simp [stepsI]
theorem partAt_succ {ns : List Int} {i : Nat} (hi : i < ns.length) : partAt ns (i + 1) = partS (partAt ns i) (st ns (i : Int), ns.getD i 0) := by
  have e : (stepsI ns)[i]? = some (st ns (i : Int), ns.getD i 0) := by
    unfold stepsI
    rw [List.getElem?_map, List.getElem?_range hi]
    rfl
  unfold partAt
  rw [List.take_add_one, e, List.foldl_append]
  rfl
theorem partS_len (acc : PAcc) (p : Stp) : (partS acc p).1.length ≤ acc.1.length + 1 ∧ (partS acc p).2.length ≤ acc.2.length + 1 ∧ 1 ≤ (partS acc p).2.length := by
  unfold partS
  split
  · refine ⟨by simp, ?_, by simp⟩
    rw [List.length_append, List.length_take]
    simp
    omega
  · exact ⟨by dsimp only; omega, by simp, by simp⟩
theorem partAt_len {ns : List Int} : ∀ i, i ≤ ns.length → (partAt ns i).1.length ≤ i ∧ (partAt ns i).2.length ≤ i ∧ (1 ≤ i → 1 ≤ (partAt ns i).2.length)
  | 0, _ => ⟨Nat.le_refl _, Nat.le_refl _, fun h => absurd h (by omega)⟩
  | i + 1, h => by
    obtain ⟨a, b, _⟩ := partAt_len (ns := ns) i (by omega)
    obtain ⟨c, d, e⟩ := partS_len (partAt ns i) (st ns (i : Int), ns.getD i 0)
    rw [partAt_succ (by omega)]
    exact ⟨by omega, by omega, fun _ => e⟩
def HeldP (H : Hp) (ps : List Addr) (path : List Stp) : Prop := ps.length = path.length ∧ ∀ (i : Nat) (p : Addr) (s : Stp), ps[i]? = some p → path[i]? = some s → H p = some (.tup [.int s.1, .int s.2])
def HeldL (H : Hp) (ds : List (Addr × Addr)) (ls : List (Int × List Int)) : Prop := ds.length = ls.length ∧ ∀ (i : Nat) (d : Addr × Addr) (l : Int × List Int), ds[i]? = some d → ls[i]? = some l → H d.1 = some (.tup [.int l.1, .ref d.2]) ∧ H d.2 = some (.lst (l.2.map V.int))
theorem HeldP.mono {H H2 : Hp} {ps : List Addr} {path : List Stp} (h : HeldP H ps path) (k : ∀ x u, H x = some (.tup u) → H2 x = some (.tup u)) : HeldP H2 ps path := ⟨h.1, fun i p s hp hs => k _ _ (h.2 i p s hp hs)⟩
theorem HeldP.snoc {H : Hp} {ps : List Addr} {path : List Stp} {p : Addr} {s : Stp} (h : HeldP H ps path) (hp : H p = some (.tup [.int s.1, .int s.2])) : HeldP H (ps ++ [p]) (path ++ [s]) := by
  refine ⟨by rw [List.length_append, List.length_append, h.1]; rfl, fun i q t hq ht => ?_⟩
  rcases Nat.lt_or_ge i ps.length with c | c
  · rw [List.getElem?_append_left c] at hq
    rw [List.getElem?_append_left (by rw [← h.1]; exact c)] at ht
    exact h.2 i q t hq ht
  · rw [List.getElem?_append_right c] at hq
    rw [List.getElem?_append_right (by rw [← h.1]; exact c), ← h.1] at ht
    have e : i - ps.length = 0 := by
      have := (List.getElem?_eq_some_iff.mp hq).1
      simp at this
      omega
    rw [e] at hq ht
    injection hq with hq
    injection ht with ht
    rw [← hq, ← ht]
    exact hp
theorem HeldP.take {H : Hp} {ps : List Addr} {path : List Stp} (h : HeldP H ps path) (j : Nat) : HeldP H (ps.take j) (path.take j) := by
  refine ⟨by rw [List.length_take, List.length_take, h.1], fun i q t hq ht => ?_⟩
  rcases Nat.lt_or_ge i j with c | c
  · rw [List.getElem?_take_of_lt c] at hq ht
    exact h.2 i q t hq ht
  · rw [List.getElem?_eq_none (by rw [List.length_take]; omega)] at hq
    cases hq
theorem HeldP.drop {H : Hp} {ps : List Addr} {path : List Stp} (h : HeldP H ps path) (j : Nat) : HeldP H (ps.drop j) (path.drop j) := by
  refine ⟨by rw [List.length_drop, List.length_drop, h.1], fun i q t hq ht => ?_⟩
  rw [List.getElem?_drop] at hq ht
  exact h.2 _ q t hq ht
theorem HeldL.mono {H H2 : Hp} {ds : List (Addr × Addr)} {ls : List (Int × List Int)} (h : HeldL H ds ls) (k : ∀ d ∈ ds, (∀ u, H d.1 = some u → H2 d.1 = some u) ∧ ∀ u, H d.2 = some u → H2 d.2 = some u) : HeldL H2 ds ls := ⟨h.1, fun i d l hd hl => by
  obtain ⟨a, b⟩ := h.2 i d l hd hl
  obtain ⟨c, e⟩ := k d (List.mem_of_getElem? hd)
  exact ⟨c _ a, e _ b⟩⟩
theorem HeldL.snoc {H : Hp} {ds : List (Addr × Addr)} {ls : List (Int × List Int)} {d : Addr × Addr} {l : Int × List Int} (h : HeldL H ds ls) (h1 : H d.1 = some (.tup [.int l.1, .ref d.2])) (h2 : H d.2 = some (.lst (l.2.map V.int))) : HeldL H (ds ++ [d]) (ls ++ [l]) := by
  refine ⟨by rw [List.length_append, List.length_append, h.1]; rfl, fun i q t hq ht => ?_⟩
  rcases Nat.lt_or_ge i ds.length with c | c
  · rw [List.getElem?_append_left c] at hq
    rw [List.getElem?_append_left (by rw [← h.1]; exact c)] at ht
    exact h.2 i q t hq ht
  · rw [List.getElem?_append_right c] at hq
    rw [List.getElem?_append_right (by rw [← h.1]; exact c), ← h.1] at ht
    have e : i - ds.length = 0 := by
      have := (List.getElem?_eq_some_iff.mp hq).1
      simp at this
      omega
    rw [e] at hq ht
    injection hq with hq
    injection ht with ht
    rw [← hq, ← ht]
    exact ⟨h1, h2⟩
section
variable {K : PySem.W.Frag} {σ : L2.St} {H : Hp} {tl : TE}
theorem fld_list {path : List Stp} (f : Stp → Int) {n : Nat} (hn : n = path.length) : given n (fun _ => true) (fun i => V.int (f (path.getD i (0, 0)))) = (path.map f).map V.int := by
  rw [given_all, hn]
  apply List.ext_getElem
  · simp
  · intro i h1 h2
    have h3 : i < path.length := by simpa using h2
    simp only [List.getElem_map, List.getElem_range]
    rw [List.getD_eq_getElem?_getD, List.getElem?_eq_getElem h3]
    rfl
theorem fld_at {ps : List Addr} {path : List Stp} {j : Nat} {c : Int} {f : Stp → Int} (hp : HeldP H ps path) (hf : ∀ p : Stp, atI [V.int p.1, V.int p.2] c = some (.int (f p))) {σ' : L2.St} {i : Nat} {x : V} (hj : σ'[j]? = some (some x)) (hx : (ps.map V.ref)[i]? = some x) {H1 : Hp} (e : Ex H H1) : Ev (tOp (rIxT K) (tVar j) (tC (.int c))) σ' H1 (.int (f (path.getD i (0, 0)))) := by
  rw [List.getElem?_map] at hx
  obtain ⟨p, hpi, rfl⟩ := Option.map_eq_some_iff.mp hx
  have hl : i < path.length := by
    have := (List.getElem?_eq_some_iff.mp hpi).1
    rw [← hp.1]
    exact this
  have hs : path[i]? = some (path.getD i (0, 0)) := by
    rw [List.getD_eq_getElem?_getD, List.getElem?_eq_getElem hl]
    rfl
  have ht : SqT K H1 p [V.int (path.getD i (0, 0)).1, V.int (path.getD i (0, 0)).2] := st_of (e _ _ (hp.2 i p _ hpi hs))
  exact ev_op (ev_var hj) ev_c (rv_ixT ht (hf _))
/-- [step[c] for step in path] -/
theorem el_fld {pa : Addr} {ps : List Addr} {path : List Stp} {j : Nat} {vs : List Nat} {c : Int} (f : Stp → Int) (h : Ev tl σ H (.ref pa)) (hx : SqL K H pa (ps.map V.ref)) (hp : HeldP H ps path) (hz : ps.length ≤ 40000) (hw : ∀ x, wipe ((wipe σ vs).set j (some x)) vs = wipe σ vs) (hj : ∀ x, ((wipe σ vs).set j (some x))[j]? = some (some x)) (hf : ∀ p : Stp, atI [V.int p.1, V.int p.2] c = some (.int (f p))) :
    EvL (tLc (iList K tl) (gName j) tYes (tOp (rIxT K) (tVar j) (tC (.int c))) vs) σ H ((path.map f).map V.int) := by
  rw [← fld_list f (n := (ps.map V.ref).length) (by rw [List.length_map, hp.1])]
  exact el_lcL (fun _ => true) (fun i => V.int (f (path.getD i (0, 0)))) h hx (by rw [List.length_map]; exact hz) hw (fun _ _ _ _ _ => et_yes) (fun i x H1 e hi _ => fld_at hp hf (hj x) hi e)
theorem el_fldN {ps : List Addr} {path : List Stp} {j : Nat} {vs : List Nat} {c : Int} (f : Stp → Int) (h : EvL tl σ H (ps.map V.ref)) (hp : HeldP H ps path) (hz : ps.length ≤ 40000) (hw : ∀ x, wipe ((wipe σ vs).set j (some x)) vs = wipe σ vs) (hj : ∀ x, ((wipe σ vs).set j (some x))[j]? = some (some x)) (hf : ∀ p : Stp, atI [V.int p.1, V.int p.2] c = some (.int (f p))) :
    EvL (tLc (iList K tl) (gName j) tYes (tOp (rIxT K) (tVar j) (tC (.int c))) vs) σ H ((path.map f).map V.int) := by
  rw [← fld_list f (n := (ps.map V.ref).length) (by rw [List.length_map, hp.1])]
  exact el_lcNL (fun _ => true) (fun i => V.int (f (path.getD i (0, 0)))) h (by rw [List.length_map]; exact hz) hw (fun _ _ _ _ _ => et_yes) (fun i x H1 e hi _ => fld_at hp hf (hj x) hi e)
end
def RetP (ns : List Int) (H : Hp) (Q : VK) : Prop := ∀ p ds H2, H p = none → Ex H H2 → H2 p = some (.lst (ds.map fun d : Addr × Addr => .ref d.1)) → HeldL H2 ds (partI ns) → (∀ d ∈ ds, H d.1 = none ∧ H d.2 = none ∧ d.2 ≠ p) → Q (.ref p) H2
def goodP (o : Option (List V)) : Prop := ∃ ns, o = some (ns.map V.int) ∧ Plain ns
def sp_parted (K : PySem.W.Frag) : Sp := fun vs H Q E => ∃ v o, vs = [v] ∧ Row H v o ∧ (¬ goodP o → Give K (doorRe o stRe) H Q E) ∧ ∀ ns, o = some (ns.map V.int) → Plain ns → RetP ns H Q
theorem bad_st {K : PySem.W.Frag} {o : Option (List V)} {H : Hp} {Q Q2 : VK} {E : XK} (h : ¬ goodP o) (q : Give K (doorRe o stRe) H Q E) : Give K (doorRe o stRe) H Q2 E := by
  by_cases hg : rowOk o = true ∧ clashOf (rowsOf o) = none
  · obtain ⟨ho, hc⟩ := hg
    obtain ⟨ns, rfl, hn⟩ := row_ints ho
    rw [rowsOf_some] at hc
    rw [door_pat hn hc] at q ⊢
    unfold stRe at q ⊢
    by_cases c1 : (ns.any fun x => decide (x < 0)) = true
    · rw [if_pos c1] at q ⊢
      exact q
    · rw [if_neg c1] at q ⊢
      by_cases c2 : (ns.any fun x => decide (60 < x)) = true
      · rw [if_pos c2] at q ⊢
        exact q
      · refine absurd ⟨ns, rfl, hn, hc, fun x hx => ⟨?_, ?_⟩⟩ h
        · apply Decidable.byContradiction
          intro c
          exact c1 (List.any_eq_true.mpr ⟨x, hx, decide_eq_true (by omega)⟩)
        · apply Decidable.byContradiction
          intro c
          exact c2 (List.any_eq_true.mpr ⟨x, hx, decide_eq_true (by omega)⟩)
  · exact bad_q hg q
theorem plain_st {ns : List Int} (h : Plain ns) : stRe ns = .lst (stV ns) := by
  unfold stRe
  rw [if_neg, if_neg]
  · intro c
    obtain ⟨x, hx, e⟩ := List.any_eq_true.mp c
    have := (h.low x hx).2
    have := of_decide_eq_true e
    omega
  · intro c
    obtain ⟨x, hx, e⟩ := List.any_eq_true.mp c
    have := (h.low x hx).1
    have := of_decide_eq_true e
    omega
theorem inV_int {x : Int} {ns : List Int} : inV (.int x) (ns.map V.int) = decide (x ∈ ns) := by
  unfold inV
  rw [List.any_map, Bool.eq_iff_iff, List.any_eq_true, decide_eq_true_iff]
  constructor
  · rintro ⟨y, hy, e⟩
    have : y = x := by simpa [eqV] using e
    rw [← this]
    exact hy
  · intro h
    exact ⟨x, h, by simp [eqV]⟩
theorem flat_ints (ns : List Int) : (ns.map V.int).all flatV = true := by
  rw [List.all_map, List.all_eq_true]
  intro x _
  rfl
/-- xs.index(x), x among them -/
theorem ev_index {K : PySem.W.Frag} {σ : L2.St} {H : Hp} {to te : TE} {a : Addr} {ns : List Int} {s : Int} {j : Nat} (ho : Ev to σ H (.ref a)) (h : Ev te σ H (.int s)) (hx : SqL K H a (ns.map V.int)) (hj : ixOf ns s = some j) : Ev (tBM K "list" (rIndex K) to (tCons te tNil)) σ H (.int (j : Int)) := fun H1 e Q q =>
  ho H1 e _ fun H2 e2 => ⟨Or.inl ⟨rfl, _, ex_l (e.trans e2) hx⟩, h H2 (e.trans e2) _ fun H3 e3 => by
    obtain ⟨h1, h2⟩ := ixOf_some hj
    exact ⟨a, ns.map V.int, .int s, j, .int s, rfl, rfl, ex_l ((e.trans e2).trans e3) hx, rfl, flat_ints ns, by rw [List.getElem?_map, h1]; rfl, by simp [eqV], fun m z hm hz => by
      rw [List.getElem?_map] at hz
      obtain ⟨w, hw, rfl⟩ := Option.map_eq_some_iff.mp hz
      have := h2 m w hm hw
      simpa [eqV] using this, q H3 (e2.trans e3)⟩⟩
def PInv (ns : List Int) (a lp : Addr) (H : Hp) (p : Addr) (i : Nat) (σ' : L2.St) (H' : Hp) : Prop := ∃ (y3 y4 y6 : Option V) (pa : Addr) (ds : List (Addr × Addr)) (ps : List Addr), σ' = [some (V.ref a), some (V.ref lp), some (V.ref pa), y3, y4, none, y6] ∧ Ex H H' ∧ H' p = some (.lst (stV ns)) ∧ H' lp = some (.lst (ds.map fun d => .ref d.1)) ∧ H' pa = some (.lst (ps.map V.ref)) ∧ HeldL H' ds (partAt ns i).1 ∧ HeldP H' ps (partAt ns i).2 ∧ (H pa = none ∧ pa ≠ lp ∧ pa ≠ p ∧ p ≠ lp) ∧ ∀ d ∈ ds, H d.1 = none ∧ H d.2 = none ∧ d.2 ≠ lp ∧ d.2 ≠ pa
theorem HeldL.fst_ne {H : Hp} {ds : List (Addr × Addr)} {ls : List (Int × List Int)} (h : HeldL H ds ls) {d : Addr × Addr} (hd : d ∈ ds) {x : Addr} {xs : List V} (hx : H x = some (.lst xs)) : d.1 ≠ x := fun e => by
  obtain ⟨i, hi, hdi⟩ := List.mem_iff_getElem.mp hd
  have hl : i < ls.length := by rw [← h.1]; exact hi
  obtain ⟨a, _⟩ := h.2 i d _ (by rw [List.getElem?_eq_getElem hi, hdi]) (List.getElem?_eq_getElem hl)
  rw [e, hx] at a
  cases a
theorem pinv_app {K : PySem.W.Frag} {ns : List Int} {a lp p pa T : Addr} {H H9 : Hp} {i : Nat} {y4 y6 : Option V} {ds : List (Addr × Addr)} {ps : List Addr} {L : List (Int × List Int)} {path : List Stp} {s : Stp} {D : Ends}
    (hT : H9 T = some (.tup [.int s.1, .int s.2])) (e9 : Ex H H9) (hp : H9 p = some (.lst (stV ns))) (hlp : H9 lp = some (.lst (ds.map fun d => .ref d.1))) (hpa : H9 pa = some (.lst (ps.map V.ref))) (hL : HeldL H9 ds L) (hP : HeldP H9 ps path) (hn : H pa = none ∧ pa ≠ lp ∧ pa ≠ p ∧ p ≠ lp)
    (hd : ∀ d ∈ ds, H d.1 = none ∧ H d.2 = none ∧ d.2 ≠ lp ∧ d.2 ≠ pa) (hz : ps.length < 100000) (e : partAt ns (i + 1) = (L, path ++ [s])) (k : ∀ σ2 H2, PInv ns a lp H p (i + 1) σ2 H2 → D.nx σ2 H2) :
    tDrop (tBM K "list" rAppend (tVar 2) (tCons (tVar 3) tNil)) D [some (V.ref a), some (V.ref lp), some (V.ref pa), some (V.ref T), y4, none, y6] H9 := by
  refine s_app (xs := ps.map V.ref) (v := .ref T) hpa (ev_var rfl) (ev_var rfl) (by rw [List.length_map]; exact hz) fun H10 e10 => k _ _ ?_
  have hTp : T ≠ pa := fun z => by rw [z, hpa] at hT; cases hT
  refine ⟨_, _, _, pa, ds, ps ++ [T], rfl, Ex.mut (e9.trans e10) hn.1, ?_, ?_, ?_, ?_, ?_, hn, hd⟩
  · rw [upd_ne hn.2.2.1.symm]
    exact e10 _ _ hp
  · rw [upd_ne hn.2.1.symm]
    exact e10 _ _ hlp
  · rw [upd_same, List.map_append]
    rfl
  · rw [e]
    refine hL.mono fun d hdm => ⟨fun u hu => ?_, fun u hu => ?_⟩
    · rw [upd_ne (hL.fst_ne hdm hpa)]
      exact e10 _ _ hu
    · rw [upd_ne (hd d hdm).2.2.2]
      exact e10 _ _ hu
  · rw [e]
    refine HeldP.mono (H := H9) (hP.snoc hT) fun x u hu => ?_
    rw [upd_ne fun z => by rw [z, hpa] at hu; cases hu]
    exact e10 _ _ hu
theorem sc_parted : FnScope ["pattern", "loops", "path", "pair", "met", "step", "at"] ["pattern"] (defScope s_parted) := ⟨rfl, rfl, rfl, by decide +kernel, rfl, by decide +kernel, by decide +kernel⟩
theorem ok_parted {P : Program} {w : World} {K : PySem.W.Frag} {mg : Str → Option Value} {base : Heap} (T : TXT K mg) : OK P w K mg base "parted" ["pattern"] 8 (sp_parted K) := by
  have O_states_of := ok_states_of (P := P) (w := w) (base := base) T
  obtain ⟨fd, F⟩ := T.def_ 8
  refine ⟨_, fd, T.glo 7, F.kp, F.bindsN (fun _ _ _ _ _ _ us hl => match us, hl with | [_], _ => rfl), F.ok sc_parted (fun vs H Q E h => ?_) (fun cdv A outer s H vs Q E hr h => ?_), F.bindsA (fun _ _ _ _ _ _ us hl => match us, hl with | [_], _ => rfl)⟩
  · first | (obtain ⟨rfl, _⟩ := h; rfl) | (obtain ⟨_, rfl, _⟩ := h; rfl) | (obtain ⟨_, _, rfl, _⟩ := h; rfl) | (obtain ⟨_, _, _, rfl, _⟩ := h; rfl) | (obtain ⟨_, _, _, _, rfl, _⟩ := h; rfl) | (obtain ⟨_, _, _, _, _, rfl, _⟩ := h; rfl) | (obtain ⟨_, _, _, _, _, _, rfl, _⟩ := h; rfl) | (obtain ⟨_, _, _, _, _, _, _, rfl, _⟩ := h; rfl) | (obtain ⟨_, _, _, _, _, _, _, _, rfl, _⟩ := h; rfl)
  · replace F : FunD K "parted" "parted" (defArgs s_parted) (defBody s_parted) (defScope s_parted) [] [] (He.ga K "parted") fd := F
    refine ⟨_, (pss_cons (ps_set (i := 1) sc_parted.nd rfl (Or.inl rfl) (pe_lst pa_nil))
      (pss_cons (ps_set (i := 2) sc_parted.nd rfl (Or.inl rfl) (pe_lst pa_nil))
      (pss_cons (ps_for (passes_of rfl) rfl (k_piZ K (by rfl) (T.free 35) (pa_cons (pe_own O_states_of (hr.mono (by decide)) (by rfl) (passes_call (takes_of rfl rfl rfl rfl) (fun _ _ _ _ h => h)) (pa_cons (pv 0) pa_nil)) (pa_cons (pv 0) pa_nil))) (pg_name (i := 3) sc_parted.nd rfl (Or.inl rfl))
        (pss_cons (ps_setLc (i := 4) (own := [("step", 5)]) (g := gName 5) (tt := tYes) rfl sc_parted.nd rfl rfl (sw_true rfl rfl rfl (by decide +kernel)) (k_piL K (pv 2)) (blkOk_by (N := ["pattern", "loops", "path", "pair", "met", "step", "at"]) (sc := defScope s_parted) (by decide +kernel)) (fun _ _ _ _ _ => pg_name (i := 5) sc_parted.nd rfl (Or.inl rfl)) (fun _ _ _ _ _ => pts_nil) (fun _ _ _ _ _ => (pe_ix (k_ixT K) (pv 5) pe_int (fun _ _ => rfl))))
      (pss_cons (ps_if (pt_cmpR (k_in K) (pe_ix (k_ixT K) (pv 3) pe_int (fun _ _ => rfl)) (pv 4) (by rfl))
        (pss_cons (ps_set (i := 6) sc_parted.nd rfl (Or.inl rfl) (pe_bm PySem.F.plainAttrs_list PySem.F.slot_list_index PySem.F.type_list_index mt_index (pv 4) (pa_cons (pe_ix (k_ixT K) (pv 3) pe_int (fun _ _ => rfl)) pa_nil)))
      (pss_cons (ps_expr (pe_bm PySem.F.plainAttrs_list PySem.F.slot_list_append PySem.F.type_list_append mt_append (pv 1) (pa_cons (pe_tup (pa_cons (pe_ix (k_ixT K) (pv 3) pe_int (fun _ _ => rfl)) (pa_cons (pe_lc (own := [("step", 5)]) (g := gName 5) (tt := tYes) rfl sc_parted.nd (k_piL K (pe_slice (k_slL K) (pv 2) (po_some (pv 6)) po_none)) (blkOk_by (N := ["pattern", "loops", "path", "pair", "met", "step", "at"]) (sc := defScope s_parted) (by decide +kernel)) (fun _ _ _ _ _ => pg_name (i := 5) sc_parted.nd rfl (Or.inl rfl)) (fun _ _ _ _ _ => pts_nil) (fun _ _ _ _ _ => (pe_ix (k_ixT K) (pv 5) pe_int (fun _ _ => rfl)))) pa_nil))) pa_nil)))
      (pss_one (ps_set (i := 2) sc_parted.nd rfl (Or.inl rfl) (pe_slice (k_slL K) (pv 2) po_none (po_some (pv 6)))))))
        pss_nil)
      (pss_one (ps_expr (pe_bm PySem.F.plainAttrs_list PySem.F.slot_list_append PySem.F.type_list_append mt_append (pv 2) (pa_cons (pv 3) pa_nil)))))))
      (pss_cons (ps_expr (pe_bm PySem.F.plainAttrs_list PySem.F.slot_list_append PySem.F.type_list_append mt_append (pv 1) (pa_cons (pe_tup (pa_cons (pe_ix (k_ixT K) (pe_ix (k_ixL K) (pv 2) pe_int (fun _ _ => rfl)) pe_int (fun _ _ => rfl)) (pa_cons (pe_lc (own := [("step", 5)]) (g := gName 5) (tt := tYes) rfl sc_parted.nd (k_piL K (pv 2)) (blkOk_by (N := ["pattern", "loops", "path", "pair", "met", "step", "at"]) (sc := defScope s_parted) (by decide +kernel)) (fun _ _ _ _ _ => pg_name (i := 5) sc_parted.nd rfl (Or.inl rfl)) (fun _ _ _ _ _ => pts_nil) (fun _ _ _ _ _ => (pe_ix (k_ixT K) (pv 5) pe_int (fun _ _ => rfl)))) pa_nil))) pa_nil)))
      (pss_one (ps_ret (pv 1))))))), ?_⟩
    obtain ⟨v, o, rfl, hk, q1, q2⟩ := h
    dsimp only [cxOf, L2.start, List.map_cons, List.map_nil, List.length_cons, List.length_nil, Nat.reduceAdd, Nat.reduceSub, List.replicate_succ, List.replicate_zero, List.cons_append, List.nil_append, Nat.zero_add, List.reduceReplicate, List.map]
    by_cases hg : goodP o
    case neg =>
      refine q_asgL (xs := []) (el_lst ea_nil (by decide)) fun l H1 hl e1 h1 => ?_
      refine q_asgL (xs := []) (el_lst ea_nil (by decide)) fun l2 H2 hl2 e2 h2 => ?_
      have q := (q1 hg).mono (e1.trans e2)
      have hk2 := hk.mono (e1.trans e2)
      exact xq_forZ (rz_cons1 (rz_call (vs := [v]) (by (repeat' (first | with_reducible exact ev_c | ((with_reducible show Ev (tVar _) _ _ _); exact ev_var rfl) | with_reducible exact ea_nil | with_reducible exact eo_none | with_reducible refine' ea_cons ?_ ?_ | with_reducible refine' eo_some ?_ | with_reducible refine' ev_and2 ?_ ?_ | with_reducible refine' ev_or2 ?_ ?_ | with_reducible refine' ev_notV ?_ | with_reducible exact ru_I | with_reducible refine' ev_un ?_ ?_ | with_reducible exact rv_I0 | with_reducible exact rv_isN | with_reducible exact rv_notN | with_reducible refine' rv_I ?_ | with_reducible refine' rv_eq ?_ | with_reducible refine' rv_ne ?_ | with_reducible refine' ev_op ?_ ?_ ?_ | with_reducible refine' ev_chain2 ?_ ?_ ?_ ?_ ?_ | with_reducible refine' et_B ?_ | with_reducible refine' et_test ?_ | with_reducible refine' et_and2 ?_ ?_ | with_reducible refine' et_or2 ?_ ?_ | with_reducible refine' et_not ?_ | with_reducible refine' ev_call ?_ ?_ | with_reducible refine' ev_callS ?_ ?_ | with_reducible refine' ev_cb ?_ ?_ | with_reducible exact isi_bool (by assumption) | with_reducible exact isi_int (by assumption) | with_reducible exact isi_list (by assumption) | with_reducible exact rc_len (by assumption) | with_reducible exact rc_sum (by assumption) | with_reducible exact rc_abs | with_reducible exact isi_listL (by assumption) | with_reducible exact isi_intI | with_reducible exact isi_boolI | with_reducible exact rc_lenT (by assumption) | with_reducible exact isi_tup (by assumption) | with_reducible exact rv_eqL (by assumption) (by assumption) | with_reducible exact rv_neL (by assumption) (by assumption) | with_reducible exact rv_neT (by assumption) (by assumption) | with_reducible exact rv_ixL (by assumption) (by assumption) | with_reducible exact rv_ixT (by assumption) (by assumption) | with_reducible refine' ev_din ?_ ?_ (by assumption) | with_reducible refine' ev_dnotin ?_ ?_ (by assumption) | with_reducible refine' ev_dget ?_ ?_ (by assumption) (by assumption) | ((with_reducible show SpV _ _ _ _); assumption) | ((with_reducible show RV _ _ _ _ _); assumption) | ((with_reducible show RC _ _ _ _); assumption) | ((with_reducible show CDiv _ _); exact ⟨by omega, by omega⟩) | ((with_reducible show CMul _ _); first | exact .inl ⟨by omega, by omega⟩ | exact .inr ⟨by omega, by omega⟩) | ((with_reducible show CPow _ _); exact ⟨by omega, by omega, by decide⟩) | ((with_reducible show (0 : Int) < _); omega) | ((with_reducible show (0 : Int) ≤ _); omega) | ((with_reducible show scal _ _ = true); rfl)))) fun H3 e3 Q3 => ⟨v, o, rfl, hk2.mono e3, bad_st hg (q.mono e3)⟩))
    obtain ⟨ns, rfl, pl⟩ := hg
    have q := q2 ns rfl pl
    clear q1 q2
    obtain ⟨a, rfl, ha⟩ : ∃ a, v = .ref a ∧ H a = some (.lst (ns.map V.int)) := by
      have hl := hk.ls
      cases hl with
      | lst h => exact ⟨_, rfl, h⟩
    have h1 := pl.row.1
    have h60 := pl.row.2.1
    refine q_asgL (xs := []) (el_lst ea_nil (by decide)) fun lp H1 hlp e1 h1l => ?_
    refine q_asgL (xs := []) (el_lst ea_nil (by decide)) fun pa0 H2 hpa0 e2 h2l => ?_
    have a2 := (e1.trans e2) _ _ ha
    have hlpH : H lp = none := hlp
    have hpaH : H pa0 = none := fresh_back e1 hpa0
    have npl : pa0 ≠ lp := fun z => by rw [z, h1l] at hpa0; cases hpa0
    have sls : SpL (sp_states_of K) [.ref a] H2 (stV ns) := spl_of fun H3 e3 Q3 E3 q3 => ⟨_, _, rfl, Row.of (e3 _ _ a2), by
      rw [door_pat pl.row pl.no, plain_st pl]
      exact q3⟩
    refine q_forZ (b := a) (xs := stV ns) (ys := ns.map V.int) (el_call (dvs := []) (by (repeat' (first | with_reducible exact ev_c | ((with_reducible show Ev (tVar _) _ _ _); exact ev_var rfl) | with_reducible exact ea_nil | with_reducible exact eo_none | with_reducible refine' ea_cons ?_ ?_ | with_reducible refine' eo_some ?_ | with_reducible refine' ev_and2 ?_ ?_ | with_reducible refine' ev_or2 ?_ ?_ | with_reducible refine' ev_notV ?_ | with_reducible exact ru_I | with_reducible refine' ev_un ?_ ?_ | with_reducible exact rv_I0 | with_reducible exact rv_isN | with_reducible exact rv_notN | with_reducible refine' rv_I ?_ | with_reducible refine' rv_eq ?_ | with_reducible refine' rv_ne ?_ | with_reducible refine' ev_op ?_ ?_ ?_ | with_reducible refine' ev_chain2 ?_ ?_ ?_ ?_ ?_ | with_reducible refine' et_B ?_ | with_reducible refine' et_test ?_ | with_reducible refine' et_and2 ?_ ?_ | with_reducible refine' et_or2 ?_ ?_ | with_reducible refine' et_not ?_ | with_reducible refine' ev_call ?_ ?_ | with_reducible refine' ev_callS ?_ ?_ | with_reducible refine' ev_cb ?_ ?_ | with_reducible exact isi_bool (by assumption) | with_reducible exact isi_int (by assumption) | with_reducible exact isi_list (by assumption) | with_reducible exact rc_len (by assumption) | with_reducible exact rc_sum (by assumption) | with_reducible exact rc_abs | with_reducible exact isi_listL (by assumption) | with_reducible exact isi_intI | with_reducible exact isi_boolI | with_reducible exact rc_lenT (by assumption) | with_reducible exact isi_tup (by assumption) | with_reducible exact rv_eqL (by assumption) (by assumption) | with_reducible exact rv_neL (by assumption) (by assumption) | with_reducible exact rv_neT (by assumption) (by assumption) | with_reducible exact rv_ixL (by assumption) (by assumption) | with_reducible exact rv_ixT (by assumption) (by assumption) | with_reducible refine' ev_din ?_ ?_ (by assumption) | with_reducible refine' ev_dnotin ?_ ?_ (by assumption) | with_reducible refine' ev_dget ?_ ?_ (by assumption) (by assumption) | ((with_reducible show SpV _ _ _ _); assumption) | ((with_reducible show RV _ _ _ _ _); assumption) | ((with_reducible show RC _ _ _ _); assumption) | ((with_reducible show CDiv _ _); exact ⟨by omega, by omega⟩) | ((with_reducible show CMul _ _); first | exact .inl ⟨by omega, by omega⟩ | exact .inr ⟨by omega, by omega⟩) | ((with_reducible show CPow _ _); exact ⟨by omega, by omega, by decide⟩) | ((with_reducible show (0 : Int) < _); omega) | ((with_reducible show (0 : Int) ≤ _); omega) | ((with_reducible show scal _ _ = true); rfl)))) sls) (fun H3 e3 => ev_var rfl) (sq_of a2) (by simp [stV]) (PInv ns a lp H) ?_ ?_ ?_ ?_
    · intro p H3 hp e3 h3
      have np1 : p ≠ lp := fun z => by rw [z, e2 _ _ h1l] at hp; cases hp
      have np2 : pa0 ≠ p := fun z => by rw [← z, h2l] at hp; cases hp
      exact ⟨none, none, none, pa0, [], [], rfl, (e1.trans e2).trans e3, h3, (e2.trans e3) _ _ h1l, e3 _ _ h2l, ⟨rfl, fun i d l h => by cases h⟩, ⟨rfl, fun i d l h => by cases h⟩, ⟨hpaH, npl, np2, np1⟩, fun d hd => nomatch hd⟩
    · rintro p i σ' H' ⟨y3, y4, y6, pa, ds, ps, rfl, e3, hp3, _⟩
      exact ⟨sq_of hp3, sq_of (e3 _ _ ha)⟩
    · rintro p i x y T σ' H' hx hy ⟨y3, y4, y6, pa, ds, ps, rfl, e3, hp3, hlp3, hpa3, hL3, hP3, hn, hd⟩ hT
      unfold stV at hx
      rw [List.getElem?_map] at hx
      obtain ⟨i2, hi2, rfl⟩ := Option.map_eq_some_iff.mp hx
      have hi : i < ns.length := by
        have := (List.getElem?_eq_some_iff.mp hi2).1
        simpa using this
      rw [List.getElem?_range hi] at hi2
      injection hi2 with hi2
      subst hi2
      rw [List.getElem?_map, List.getElem?_eq_getElem hi] at hy
      have ey : y = .int (ns.getD i 0) := by
        injection hy with hy
        rw [← hy, List.getD_eq_getElem?_getD, List.getElem?_eq_getElem hi]
        rfl
      subst ey
      obtain ⟨pl1, pl2, _⟩ := partAt_len (ns := ns) i (by omega)
      have ps2 := partAt_succ hi
      have eT := Ex.new (o := .tup [V.int (st ns (i : Int)), V.int (ns.getD i 0)]) hT
      have tT0 : (upd H' T (.tup [V.int (st ns (i : Int)), V.int (ns.getD i 0)])) T = some (.tup [V.int (st ns (i : Int)), V.int (ns.getD i 0)]) := upd_same
      generalize upd H' T (.tup [V.int (st ns (i : Int)), V.int (ns.getD i 0)]) = H4 at *
      have hP4 : HeldP H4 ps (partAt ns i).2 := hP3.mono fun x u hu => eT _ _ hu
      have hL4 : HeldL H4 ds (partAt ns i).1 := hL3.mono fun d hdm => ⟨fun u hu => eT _ _ hu, fun u hu => eT _ _ hu⟩
      have e4 := e3.trans eT
      have hlen : ps.length ≤ 60 := by rw [hP3.1]; omega
      have dlen : ds.length ≤ 60 := by rw [hL3.1]; omega
      generalize hacc : partAt ns i = acc at *
      obtain ⟨L, path⟩ := acc
      dsimp only at *
      refine q_asgL (xs := (path.map Prod.fst).map V.int) (el_fld (c := 0) Prod.fst (ev_var rfl) (sq_of (eT _ _ hpa3)) hP4 (by omega) (fun _ => rfl) (fun _ => rfl) (fun _ => rfl)) fun m H5 hm e5 h5 => ?_
      have sm5 : SqL K H5 m ((path.map Prod.fst).map V.int) := sq_of h5
      have tT5 := e5 _ _ tT0
      have st5 : SqT K H5 T [V.int (st ns (i : Int)), V.int (ns.getD i 0)] := st_of tT5
      have at0 : atI [V.int (st ns (i : Int)), V.int (ns.getD i 0)] 0 = some (V.int (st ns (i : Int))) := rfl
      have hP5 : HeldP H5 ps path := hP4.mono fun x u hu => e5 _ _ hu
      have hL5 : HeldL H5 ds L := hL4.mono fun d hdm => ⟨fun u hu => e5 _ _ hu, fun u hu => e5 _ _ hu⟩
      have e45 := eT.trans e5
      have tst : ∀ {σ'' : L2.St}, σ''[3]? = some (some (V.ref T)) → σ''[4]? = some (some (V.ref m)) → EvT (tTest (tOp (rIn K false) (tOp (rIxT K) (tVar 3) (tC (V.int 0))) (tVar 4))) σ'' H5 (decide (st ns (i : Int) ∈ path.map Prod.fst)) := fun z3 z4 => et_is (et_test (ev_op (ev_op (ev_var z3) ev_c (rv_ixT st5 at0)) (ev_var z4) (rv_inL (neg := false) sm5 rfl (flat_ints _)))) inV_int
      cases hix : ixOf (path.map Prod.fst) (st ns (i : Int)) with
      | none =>
        have hno := ixOf_none hix
        refine q_when (b := decide (st ns (i : Int) ∈ path.map Prod.fst)) (tst rfl rfl) (fun h => absurd (of_decide_eq_true h) hno) (fun _ H6 e6 => ?_)
        have ep : partAt ns (i + 1) = (L, path ++ [(st ns (i : Int), ns.getD i 0)]) := by
          rw [ps2]
          unfold partS
          dsimp only
          rw [hix]
        exact pinv_app (s := (st ns (i : Int), ns.getD i 0)) (e6 _ _ tT5) ((e4.trans e5).trans e6) ((e45.trans e6) _ _ hp3) ((e45.trans e6) _ _ hlp3) ((e45.trans e6) _ _ hpa3) (hL5.mono fun d hdm => ⟨fun u hu => e6 _ _ hu, fun u hu => e6 _ _ hu⟩) (hP5.mono fun x u hu => e6 _ _ hu) hn hd (by omega) ep fun _ _ h => h
      | some j =>
        obtain ⟨hj1, hj2⟩ := ixOf_some hix
        have hyes : st ns (i : Int) ∈ path.map Prod.fst := List.mem_of_getElem? hj1
        have hjl : j < path.length := by
          have := (List.getElem?_eq_some_iff.mp hj1).1
          simpa using this
        refine q_when (b := decide (st ns (i : Int) ∈ path.map Prod.fst)) (tst rfl rfl) (fun _ H6 e6 => ?_) (fun h => absurd hyes (of_decide_eq_false h))
        have st6 := ex_t e6 st5
        refine q_asg (v := .int (j : Int)) (ev_index (ev_var rfl) (ev_op (ev_var rfl) ev_c (rv_ixT st6 at0)) (ex_l e6 sm5) hix) fun H7 e7 => ?_
        have e67 := e6.trans e7
        have st7 := ex_t e67 st5
        have pa7 := (e45.trans e67) _ _ hpa3
        have hP7 : HeldP H7 ps path := hP5.mono fun x u hu => e67 _ _ hu
        have hL7 : HeldL H7 ds L := hL5.mono fun d hdm => ⟨fun u hu => e67 _ _ hu, fun u hu => e67 _ _ hu⟩
        have sl : ∀ {σ'' : L2.St}, σ''[2]? = some (some (V.ref pa)) → σ''[6]? = some (some (V.int (j : Int))) → EvL (tSl (rSlL K) (tVar 2) (tPart (tVar 6)) tNoPart) σ'' H7 ((ps.drop j).map V.ref) := fun z2 z6 => by
          have z := el_sl (K := K) (te := tVar 2) (tl := tPart (tVar 6)) (th := tNoPart) (H := H7) (xs := ps.map V.ref) (ev_var z2) (eo_some (ev_var z6)) eo_none (sq_of pa7)
          rw [cut_from, ← List.map_drop] at z
          exact z
        refine q_appVL (v := .int (st ns (i : Int))) (ys := ((path.drop j).map Prod.snd).map V.int) ((e45.trans e67) _ _ hlp3) (ev_var rfl) (ev_op (ev_var rfl) ev_c (rv_ixT st7 at0)) (el_fldN (c := 1) Prod.snd (sl rfl rfl) (hP7.drop j) (by rw [List.length_drop]; omega) (fun _ => rfl) (fun _ => rfl) (fun _ => rfl)) (by rw [List.length_map]; omega) fun d1 d2 H8 hd1 hd2 e8 h81 h82 => ?_
        have e38 := (e45.trans e67).trans e8
        have lp8 := e38 _ _ hlp3
        have e79 : Ex H (upd H8 lp (.lst ((ds.map fun d => .ref d.1) ++ [.ref d1]))) := Ex.mut (e3.trans e38) hlpH
        have p9 : (upd H8 lp (.lst ((ds.map fun d => .ref d.1) ++ [.ref d1]))) p = some (.lst (stV ns)) := by
          rw [upd_ne hn.2.2.2]
          exact e38 _ _ hp3
        have pa9 : (upd H8 lp (.lst ((ds.map fun d => .ref d.1) ++ [.ref d1]))) pa = some (.lst (ps.map V.ref)) := by
          rw [upd_ne hn.2.1]
          exact e38 _ _ hpa3
        have lp9 : (upd H8 lp (.lst ((ds.map fun d => .ref d.1) ++ [.ref d1]))) lp = some (.lst ((ds ++ [(d1, d2)]).map fun d => .ref d.1)) := by
          rw [upd_same, List.map_append]
          rfl
        have lp7 := (e45.trans e67) _ _ hlp3
        have nd2 : d2 ≠ lp := fun z => by rw [z, lp7] at hd2; cases hd2
        have nd3 : d2 ≠ pa := fun z => by rw [z, pa7] at hd2; cases hd2
        have hL9 : HeldL (upd H8 lp (.lst ((ds.map fun d => .ref d.1) ++ [.ref d1]))) (ds ++ [(d1, d2)]) (L ++ [(st ns (i : Int), (path.drop j).map Prod.snd)]) := by
          refine HeldL.mono (H := H8) ((hL7.mono fun d hdm => ⟨fun u hu => e8 _ _ hu, fun u hu => e8 _ _ hu⟩).snoc h81 h82) fun d hdm => ⟨fun u hu => ?_, fun u hu => ?_⟩
          · rw [upd_ne]
            · exact hu
            · rcases List.mem_append.mp hdm with z | z
              · exact hL7.fst_ne z lp7
              · rw [List.mem_singleton.mp z]
                exact fun y => by
                  have y : d1 = lp := y
                  rw [y, lp7] at hd1
                  cases hd1
          · rw [upd_ne]
            · exact hu
            · rcases List.mem_append.mp hdm with z | z
              · exact (hd d z).2.2.1
              · rw [List.mem_singleton.mp z]
                exact nd2
        have hP9 : HeldP (upd H8 lp (.lst ((ds.map fun d => .ref d.1) ++ [.ref d1]))) ps path := hP7.mono fun x u hu => by
          rw [upd_ne fun z => by rw [z, lp7] at hu; cases hu]
          exact e8 _ _ hu
        have tT9 : (upd H8 lp (.lst ((ds.map fun d => .ref d.1) ++ [.ref d1]))) T = some (.tup [V.int (st ns (i : Int)), V.int (ns.getD i 0)]) := by
          rw [upd_ne fun z => by rw [z] at tT5; rw [e45 _ _ hlp3] at tT5; cases tT5]
          exact (e67.trans e8) _ _ tT5
        have hd9 : ∀ d ∈ ds ++ [(d1, d2)], H d.1 = none ∧ H d.2 = none ∧ d.2 ≠ lp ∧ d.2 ≠ pa := fun d hdm => by
          rcases List.mem_append.mp hdm with z | z
          · exact hd d z
          · rw [List.mem_singleton.mp z]
            exact ⟨fresh_back (e3.trans (e45.trans e67)) hd1, fresh_back (e3.trans (e45.trans e67)) hd2, nd2, nd3⟩
        generalize upd H8 lp (.lst ((ds.map fun d => .ref d.1) ++ [.ref d1])) = H9 at *
        have sl2 : ∀ {σ'' : L2.St}, σ''[2]? = some (some (V.ref pa)) → σ''[6]? = some (some (V.int (j : Int))) → EvL (tSl (rSlL K) (tVar 2) tNoPart (tPart (tVar 6))) σ'' H9 ((ps.take j).map V.ref) := fun z2 z6 => by
          have z := el_sl (K := K) (te := tVar 2) (tl := tNoPart) (th := tPart (tVar 6)) (H := H9) (xs := ps.map V.ref) (ev_var z2) eo_none (eo_some (ev_var z6)) (sq_of pa9)
          rw [cut_to, ← List.map_take] at z
          exact z
        refine s_asgL (xs := (ps.take j).map V.ref) (sl2 rfl rfl) fun pa2 H10 hpa2 e10 h10 => ?_
        have ep : partAt ns (i + 1) = (L ++ [(st ns (i : Int), (path.drop j).map Prod.snd)], path.take j ++ [(st ns (i : Int), ns.getD i 0)]) := by
          rw [ps2]
          unfold partS
          dsimp only
          rw [hix]
        have n1 : pa2 ≠ lp := fun z => by rw [z, lp9] at hpa2; cases hpa2
        have n2 : pa2 ≠ p := fun z => by rw [z, p9] at hpa2; cases hpa2
        refine pinv_app (s := (st ns (i : Int), ns.getD i 0)) (e10 _ _ tT9) (e79.trans e10) (e10 _ _ p9) (e10 _ _ lp9) h10 (hL9.mono fun d hdm => ⟨fun u hu => e10 _ _ hu, fun u hu => e10 _ _ hu⟩) ((hP9.take j).mono fun x u hu => e10 _ _ hu) ⟨fresh_back e79 hpa2, n1, n2, hn.2.2.2⟩ (fun d hdm => ?_) (by rw [List.length_take]; omega) ep fun _ _ h => h
        obtain ⟨f1, f2, f3, f4⟩ := hd9 d hdm
        refine ⟨f1, f2, f3, fun z => ?_⟩
        obtain ⟨k, hk1, hk2⟩ := List.mem_iff_getElem.mp hdm
        have hk3 : k < (L ++ [(st ns (i : Int), (path.drop j).map Prod.snd)]).length := by rw [← hL9.1]; exact hk1
        obtain ⟨_, g2⟩ := hL9.2 k d _ (by rw [List.getElem?_eq_getElem hk1, hk2]) (List.getElem?_eq_getElem hk3)
        rw [z, hpa2] at g2
        cases g2
    · rintro p σ' H' ⟨y3, y4, y6, pa, ds, ps, rfl, e3, hp3, hlp3, hpa3, hL3, hP3, hn, hd⟩
      rw [show (stV ns).length = ns.length by simp [stV]] at hL3 hP3
      obtain ⟨pl1, pl2, pl3⟩ := partAt_len (ns := ns) ns.length (Nat.le_refl _)
      have pl3 := pl3 h1
      have hpI : partI ns = (partAt ns ns.length).1 ++ [(((partAt ns ns.length).2.headD (0, 0)).1, (partAt ns ns.length).2.map Prod.snd)] := rfl
      generalize partAt ns ns.length = acc at *
      obtain ⟨L, path⟩ := acc
      dsimp only at *
      cases path with
      | nil => simp at pl3
      | cons s0 path =>
        cases ps with
        | nil =>
          have := hP3.1
          simp at this
        | cons p0 ps =>
          have t0 := hP3.2 0 p0 s0 rfl rfl
          have st0 : SqT K H' p0 [.int s0.1, .int s0.2] := st_of t0
          have sp0 : SqL K H' pa ((p0 :: ps).map V.ref) := sq_of hpa3
          have at0 : atI ((p0 :: ps).map V.ref) ((0 : Nat) : Int) = some (V.ref p0) := atI_nat rfl
          have at1 : atI [V.int s0.1, V.int s0.2] 0 = some (V.int s0.1) := rfl
          have hlen : (p0 :: ps).length ≤ 60 := by rw [hP3.1]; omega
          have dlen : ds.length ≤ 60 := by rw [hL3.1]; omega
          refine q_appVL (v := .int s0.1) (ys := ((s0 :: path).map Prod.snd).map V.int) hlp3 (ev_var rfl) (ev_op (ev_op (ev_var rfl) ev_c (rv_ixL sp0 at0)) ev_c (rv_ixT st0 at1)) (el_fld (c := 1) Prod.snd (ev_var rfl) sp0 hP3 (by omega) (fun _ => rfl) (fun _ => rfl) (fun _ => rfl)) (by rw [List.length_map]; omega) fun d1 d2 H8 hd1 hd2 e8 h81 h82 => ?_
          have lp8 := e8 _ _ hlp3
          have nd2 : d2 ≠ lp := fun z => by rw [z, hlp3] at hd2; cases hd2
          have nd1 : d1 ≠ lp := fun z => by rw [z, hlp3] at hd1; cases hd1
          refine s_ret (v := .ref lp) (ev_var rfl) fun H9 e9 => q lp (ds ++ [(d1, d2)]) H9 hlpH ((Ex.mut (e3.trans e8) hlpH).trans e9) ?_ ?_ ?_
          · refine e9 _ _ ?_
            rw [upd_same, List.map_append]
            rfl
          · rw [hpI]
            refine HeldL.mono (H := H8) ((hL3.mono fun d hdm => ⟨fun u hu => e8 _ _ hu, fun u hu => e8 _ _ hu⟩).snoc h81 h82) fun d hdm => ⟨fun u hu => e9 _ _ ?_, fun u hu => e9 _ _ ?_⟩
            · rw [upd_ne]
              · exact hu
              · rcases List.mem_append.mp hdm with z | z
                · exact hL3.fst_ne z hlp3
                · rw [List.mem_singleton.mp z]
                  exact nd1
            · rw [upd_ne]
              · exact hu
              · rcases List.mem_append.mp hdm with z | z
                · exact (hd d z).2.2.1
                · rw [List.mem_singleton.mp z]
                  exact nd2
          · intro d hdm
            rcases List.mem_append.mp hdm with z | z
            · obtain ⟨f1, f2, f3, _⟩ := hd d z
              exact ⟨f1, f2, f3⟩
            · rw [List.mem_singleton.mp z]
              exact ⟨fresh_back e3 hd1, fresh_back e3 hd2, nd2⟩

end TB

/-! ### plain mathematics: what parted gives -/
namespace TB
open PySem PySem.Spec PyProof.Rows L2 Evl
def ledI (s p : Int) : Int := s / 2 + if 0 < p then 2 ^ (p.toNat - 1) else 0
theorem led_next {ns : List Int} (h : Plain ns) (b : Int) : st ns (b + 1) = ledI (st ns b) (Pt ns b) := st_next h b
def expand : Int → List Int → List Stp
  | _, [] => []
  | s, p :: r => (s, p) :: expand (ledI s p) r
def follow : Int → List Stp → Int → Prop
  | s, [], t => s = t
  | s, x :: r, t => x.1 = s ∧ follow (ledI x.1 x.2) r t
theorem follow_app : ∀ {a b : List Stp} {s t : Int}, follow s (a ++ b) t ↔ ∃ u, follow s a u ∧ follow u b t
  | [], b, s, t => by
    constructor
    · intro h
      exact ⟨s, rfl, h⟩
    · rintro ⟨u, h1, h2⟩
      have h1 : s = u := h1
      rw [h1]
      exact h2
  | x :: a, b, s, t => by
    constructor
    · rintro ⟨h1, h2⟩
      obtain ⟨u, h3, h4⟩ := follow_app.mp h2
      exact ⟨u, ⟨h1, h3⟩, h4⟩
    · rintro ⟨u, ⟨h1, h3⟩, h4⟩
      exact ⟨h1, follow_app.mpr ⟨u, h3, h4⟩⟩
theorem follow_expand : ∀ {a : List Stp} {s t : Int}, follow s a t → expand s (a.map Prod.snd) = a
  | [], _, _, _ => rfl
  | x :: a, s, t, ⟨h1, h2⟩ => by
    have ih := follow_expand h2
    show (s, x.2) :: expand (ledI s x.2) (a.map Prod.snd) = x :: a
    rw [← h1, ih]
/-- a loop -/
structure LoopOk (ns : List Int) (l : Int × List Int) : Prop where
  ne : l.2 ≠ []
  nd : ((expand l.1 l.2).map Prod.fst).Nodup
  back : follow l.1 (expand l.1 l.2) l.1
  of : ∀ x ∈ expand l.1 l.2, x ∈ stepsI ns
structure PartOk (ns : List Int) (i : Nat) (acc : PAcc) : Prop where
  lead : follow (st ns 0) acc.2 (st ns (i : Int))
  nd : (acc.2.map Prod.fst).Nodup
  loops : ∀ l ∈ acc.1, LoopOk ns l
  perm : ((acc.1.flatMap fun l => expand l.1 l.2) ++ acc.2).Perm ((stepsI ns).take i)
theorem steps_at {ns : List Int} {i : Nat} (hi : i < ns.length) : (stepsI ns)[i]? = some (st ns (i : Int), ns.getD i 0) := by
  unfold stepsI
  rw [List.getElem?_map, List.getElem?_range hi]
  rfl
theorem loop_of {ns : List Int} {seg : List Stp} {s : Int} (hne : seg ≠ []) (hf : follow s seg s) (hn : (seg.map Prod.fst).Nodup) (ho : ∀ x ∈ seg, x ∈ stepsI ns) : LoopOk ns (s, seg.map Prod.snd) ∧ expand s (seg.map Prod.snd) = seg := by
  have e := follow_expand hf
  refine ⟨⟨by simpa using hne, ?_, ?_, ?_⟩, e⟩ <;> dsimp only <;> rw [e]
  · exact hn
  · exact hf
  · exact ho
theorem part_ok {ns : List Int} (h : Plain ns) : ∀ i, i ≤ ns.length → PartOk ns i (partAt ns i)
  | 0, _ => ⟨rfl, List.nodup_nil, fun l hl => (nomatch hl), List.Perm.refl _⟩
  | i + 1, hi => by
    have hi' : i < ns.length := by omega
    obtain ⟨lead, nd, loops, perm⟩ := part_ok h i (by omega)
    have hx := steps_at hi'
    have hxm : (st ns (i : Int), ns.getD i 0) ∈ stepsI ns := List.mem_of_getElem? hx
    have pm : ∀ x ∈ (partAt ns i).2, x ∈ stepsI ns := fun x hm => List.mem_of_mem_take (perm.mem_iff.mp (List.mem_append_right _ hm))
    have ht : (stepsI ns).take (i + 1) = (stepsI ns).take i ++ [(st ns (i : Int), ns.getD i 0)] := by rw [List.take_add_one, hx]; rfl
    have hl : st ns ((i + 1 : Nat) : Int) = ledI (st ns (i : Int)) (ns.getD i 0) := by
      rw [show ((i + 1 : Nat) : Int) = (i : Int) + 1 by omega, led_next h, pt_at hi']
    rw [partAt_succ hi']
    generalize partAt ns i = acc at *
    obtain ⟨L, path⟩ := acc
    dsimp only at *
    unfold partS
    dsimp only
    cases hix : ixOf (path.map Prod.fst) (st ns (i : Int)) with
    | none =>
      have hno := ixOf_none hix
      refine ⟨follow_app.mpr ⟨_, lead, rfl, hl.symm⟩, ?_, loops, ?_⟩
      · dsimp only
        rw [List.map_append, List.nodup_append]
        refine ⟨nd, by simp, fun a ha b hb e => hno ?_⟩
        have : b = st ns (i : Int) := by simpa using hb
        rw [← this, ← e]
        exact ha
      · dsimp only
        rw [ht, ← List.append_assoc]
        exact perm.append_right _
    | some j =>
      obtain ⟨hj1, hj2⟩ := ixOf_some hix
      rw [List.getElem?_map] at hj1
      obtain ⟨y, hy, ey⟩ := Option.map_eq_some_iff.mp hj1
      have hjl : j < path.length := (List.getElem?_eq_some_iff.mp hy).1
      have hd : path.drop j = y :: path.drop (j + 1) := by
        rw [List.drop_eq_getElem_cons hjl]
        congr 1
        exact (List.getElem?_eq_some_iff.mp hy).2
      have split := List.take_append_drop j path
      rw [← split] at lead
      obtain ⟨u, l1, l2⟩ := follow_app.mp lead
      have eu : u = st ns (i : Int) := by
        rw [hd] at l2
        rw [← l2.1]
        exact ey
      subst eu
      have ndd : ((path.drop j).map Prod.fst).Nodup := by
        rw [List.map_drop]
        exact nd.sublist (List.drop_sublist _ _)
      obtain ⟨lo, le⟩ := loop_of (ns := ns) (by rw [hd]; simp) l2 ndd (fun x hm => pm x (List.mem_of_mem_drop hm))
      refine ⟨follow_app.mpr ⟨_, l1, rfl, hl.symm⟩, ?_, fun l hlm => ?_, ?_⟩
      · dsimp only
        rw [List.map_append, List.nodup_append]
        refine ⟨?_, by simp, fun a ha b hb e => ?_⟩
        · rw [List.map_take]
          exact nd.sublist (List.take_sublist _ _)
        · have hb : b = st ns (i : Int) := by simpa using hb
          rw [List.map_take] at ha
          obtain ⟨m, hm, em⟩ := List.mem_iff_getElem.mp ha
          rw [List.length_take] at hm
          have : (path.map Prod.fst)[m]? = some a := by
            rw [List.getElem_take] at em
            rw [List.getElem?_eq_getElem (by omega), em]
          exact hj2 m a (by omega) this (by rw [e, hb])
      · rcases List.mem_append.mp hlm with z | z
        · exact loops l z
        · rw [List.mem_singleton.mp z]
          exact lo
      · dsimp only
        rw [ht, List.flatMap_append]
        have e1 : ([(st ns (i : Int), (path.drop j).map Prod.snd)].flatMap fun l => expand l.1 l.2) = path.drop j := by
          rw [List.flatMap_cons, List.flatMap_nil, List.append_nil]
          exact le
        rw [e1, ← List.append_assoc]
        refine List.Perm.append_right _ ?_
        refine List.Perm.trans ?_ perm
        rw [List.append_assoc]
        refine List.Perm.append_left _ ?_
        refine List.perm_append_comm.trans ?_
        rw [split]
/-- the loops of parted: each leads back, no state twice; together they have the pattern's steps -/
theorem parted_ok {ns : List Int} (h : Plain ns) : (∀ l ∈ partI ns, LoopOk ns l) ∧ ((partI ns).flatMap fun l => expand l.1 l.2).Perm (stepsI ns) := by
  obtain ⟨lead, nd, loops, perm⟩ := part_ok h ns.length (Nat.le_refl _)
  obtain ⟨_, _, pl3⟩ := partAt_len (ns := ns) ns.length (Nat.le_refl _)
  have pl3 := pl3 h.row.1
  have pm : ∀ x ∈ (partAt ns ns.length).2, x ∈ stepsI ns := fun x hm => List.mem_of_mem_take (perm.mem_iff.mp (List.mem_append_right _ hm))
  rw [st_round] at lead
  rw [show (stepsI ns).take ns.length = stepsI ns by rw [← stepsI_len ns, List.take_length]] at perm
  unfold partI
  generalize partAt ns ns.length = acc at *
  obtain ⟨L, path⟩ := acc
  dsimp only at *
  cases path with
  | nil => simp at pl3
  | cons x r =>
    have ex : x.1 = st ns 0 := lead.1
    obtain ⟨lo, le⟩ := loop_of (ns := ns) (by simp) lead nd pm
    have e0 : ((x :: r).headD (0, 0)).1 = st ns 0 := ex
    rw [e0]
    refine ⟨fun l hlm => ?_, ?_⟩
    · rcases List.mem_append.mp hlm with z | z
      · exact loops l z
      · rw [List.mem_singleton.mp z]
        exact lo
    · rw [List.flatMap_append, List.flatMap_cons, List.flatMap_nil, List.append_nil]
      dsimp only
      rw [le]
      exact perm
/-- two sorted rearrangements are one -/
theorem srt_uniq {l m : List (Int × Int)} (h1 : SrtO.Srtd SrtO.lexB l) (h2 : SrtO.Srtd SrtO.lexB m) (hp : l.Perm m) : l = m := by
  have O : SrtO.Swo SrtO.lexB := ⟨fun x y h => by
    have a := SrtO.lexB_iff.mp h
    refine SrtO.lexB_no.mpr ?_
    omega, fun x y z h1 h2 => by
    have a := SrtO.lexB_no.mp h1
    have b := SrtO.lexB_no.mp h2
    refine SrtO.lexB_no.mpr ?_
    omega⟩
  have key : ∀ (x : Int × Int) (k : List (Int × Int)), k.filter (SrtO.eqv SrtO.lexB x) = List.replicate (k.filter (SrtO.eqv SrtO.lexB x)).length x := fun x k => by
    refine List.eq_replicate_of_mem fun y hy => ?_
    have hy := (List.mem_filter.mp hy).2
    obtain ⟨a, b⟩ := SrtO.eqv_iff.mp hy
    have a := SrtO.lexB_no.mp a
    have b := SrtO.lexB_no.mp b
    exact Prod.ext (by omega) (by omega)
  refine SrtO.stb_uniq O h1 h2 ⟨hp, fun x => ?_⟩
  rw [key x l, key x m, (hp.filter _).length_eq]
end TB

/-! ### the law k11: its own patterns and reckonings -/
namespace TB
open PySem PySem.Spec PyProof.Rows L2 Evl
theorem rc_min2 {H : Hp} {i j : Int} : RC (fun xs H Q => ∃ i j, xs = [.int i, .int j] ∧ Q (.int (if j < i then j else i)) H) [.int i, .int j] H (.int (if j < i then j else i)) := fun H1 _ _ q => ⟨i, j, rfl, q H1 (Ex.refl H1)⟩
theorem ev_ifE {σ : L2.St} {H : Hp} {t : TT} {ta tb : TE} {v : V} {b : Bool} (h : EvT t σ H b) (h1 : b = true → Ev ta σ H v) (h2 : b = false → Ev tb σ H v) : Ev (tIf t ta tb) σ H v := fun H1 e Q q => h H1 e _ fun H2 e2 => by
  cases b with
  | true =>
    rw [if_pos rfl]
    exact h1 rfl H2 (e.trans e2) Q fun H3 e3 => q H3 (e2.trans e3)
  | false =>
    rw [if_neg (by decide)]
    exact h2 rfl H2 (e.trans e2) Q fun H3 e3 => q H3 (e2.trans e3)
theorem land_g {n x k g : Int} (h0 : 0 ≤ x) (h1 : x < n) : (k + ((x - k) % n + g * n)) % n = x := by
  have e : k + ((x - k) % n + g * n) = k + (x - k) % n + n * g := by
    rw [Int.mul_comm n]
    omega
  rw [e, Int.add_mul_emod_self_left, Int.add_emod, Int.emod_emod_of_dvd _ (Int.dvd_refl n), ← Int.add_emod]
  have : k + (x - k) = x := by omega
  rw [this]
  exact Int.emod_eq_of_lt h0 h1
/-- how far a throw may be lifted -/
def farI (most r : Int) (n : Nat) : Int := if (60 - r) / (n : Int) + 1 < most then (60 - r) / (n : Int) + 1 else most
theorem farI_ok {n : Nat} {most r f : Int} (hn : 1 ≤ n) (hn2 : n ≤ 60) (hm : 1 ≤ most) (r0 : 0 ≤ r) (r1 : r < n) : 1 ≤ farI most r n ∧ farI most r n ≤ 61 ∧ 0 ≤ r + f % farI most r n * (n : Int) ∧ r + f % farI most r n * (n : Int) ≤ 60 := by
  have hm0 : 0 ≤ (60 - r) / (n : Int) := Int.ediv_nonneg (by omega) (by omega)
  have hmm : (60 - r) / (n : Int) * (n : Int) ≤ 60 - r := Int.ediv_mul_le _ (by omega)
  have hme : (60 - r) / (n : Int) * 1 ≤ (60 - r) / (n : Int) * (n : Int) := Int.mul_le_mul_of_nonneg_left (by omega) hm0
  have hf : 1 ≤ farI most r n ∧ farI most r n ≤ (60 - r) / (n : Int) + 1 := by
    unfold farI
    split <;> omega
  generalize farI most r n = g at *
  generalize (60 - r) / (n : Int) = m at *
  have a1 := Int.emod_nonneg f (show g ≠ 0 by omega)
  have a2 := Int.emod_lt_of_pos f (show 0 < g by omega)
  generalize f % g = u at *
  have c1 : 0 * (n : Int) ≤ u * (n : Int) := Int.mul_le_mul_of_nonneg_right a1 (by omega)
  have c2 : u * (n : Int) ≤ m * (n : Int) := Int.mul_le_mul_of_nonneg_right (by omega) (by omega)
  omega
def sp_plain_by : Sp := fun vs H Q E => ∃ (n : Nat) (c most : Int), vs = [.int (n : Int), .int c, .int most] ∧ n ≤ 60 ∧ 1 ≤ n ∧ 1 ≤ most ∧ ∀ ts : List Int, ts.length = n → Plain ts → RetL (ts.map V.int) H Q
theorem sc__law_plain_by : FnScope ["_law_size", "_law_cell", "_law_most", "_law_spots", "_law_made", "_law_k", "_law_near", "_law_far"] ["_law_size", "_law_cell", "_law_most"] (defScope s__law_plain_by) := ⟨rfl, rfl, rfl, by decide +kernel, rfl, by decide +kernel, by decide +kernel⟩
theorem ok__law_plain_by {P : Program} {w : World} {K : PySem.W.Frag} {mg : Str → Option Value} {base : Heap} (T : TXT K mg) : OK P w K mg base "_law_plain_by" ["_law_size", "_law_cell", "_law_most"] 3 (sp_plain_by) := by
  have O__law_spots_by := ok__law_spots_by (P := P) (w := w) (base := base) T
  have O__law_mixed := ok__law_mixed (P := P) (w := w) (base := base) T
  obtain ⟨fd, F⟩ := T.def_ 13
  refine ⟨_, fd, T.glo 12, F.kp, F.bindsN (fun _ _ _ _ _ _ us hl => match us, hl with | [_, _, _], _ => rfl), F.ok sc__law_plain_by (fun vs H Q E h => ?_) (fun cdv A outer s H vs Q E hr h => ?_), F.bindsA (fun _ _ _ _ _ _ us hl => match us, hl with | [_, _, _], _ => rfl)⟩
  · first | (obtain ⟨rfl, _⟩ := h; rfl) | (obtain ⟨_, rfl, _⟩ := h; rfl) | (obtain ⟨_, _, rfl, _⟩ := h; rfl) | (obtain ⟨_, _, _, rfl, _⟩ := h; rfl) | (obtain ⟨_, _, _, _, rfl, _⟩ := h; rfl) | (obtain ⟨_, _, _, _, _, rfl, _⟩ := h; rfl) | (obtain ⟨_, _, _, _, _, _, rfl, _⟩ := h; rfl) | (obtain ⟨_, _, _, _, _, _, _, rfl, _⟩ := h; rfl) | (obtain ⟨_, _, _, _, _, _, _, _, rfl, _⟩ := h; rfl)
  · replace F : FunD K "_law_plain_by" "_law_plain_by" (defArgs s__law_plain_by) (defBody s__law_plain_by) (defScope s__law_plain_by) [] [] (He.ga K "_law_plain_by") fd := F
    refine ⟨_, (pss_cons (ps_set (i := 3) sc__law_plain_by.nd rfl (Or.inl rfl) (pe_own O__law_spots_by (hr.mono (by decide)) (by rfl) (passes_call (takes_of rfl rfl rfl rfl) (fun _ _ _ _ h => h)) (pa_cons (pv 0) (pa_cons (pv 1) pa_nil))))
      (pss_cons (ps_set (i := 4) sc__law_plain_by.nd rfl (Or.inl rfl) (pe_lst pa_nil))
      (pss_cons (ps_for (passes_of rfl) rfl (pi_range1 (by rfl) (T.free 32) (pa_cons (pv 0) pa_nil)) (pg_name (i := 5) sc__law_plain_by.nd rfl (Or.inl rfl))
        (pss_cons (ps_set (i := 6) sc__law_plain_by.nd rfl (Or.inl rfl) (pe_op op_mod (pe_op op_sub (pe_ix (k_ixL K) (pv 3) (pv 5) (fun _ _ => rfl)) (pv 5)) (pv 0)))
      (pss_cons (ps_set (i := 7) sc__law_plain_by.nd rfl (Or.inl rfl) (pe_callB (id := "min") (call_min2 rfl) (by rfl) (T.free 31) (by decide +kernel) (pa_cons (pv 2) (pa_cons (pe_op op_add (pe_op op_fdiv (pe_op op_sub pe_int (pv 6)) (pv 0)) pe_int) pa_nil))))
      (pss_one (ps_expr (pe_bm PySem.F.plainAttrs_list PySem.F.slot_list_append PySem.F.type_list_append mt_append (pv 4) (pa_cons (pe_op op_add (pv 6) (pe_op op_mul (pe_op op_mod (pe_own O__law_mixed (hr.mono (by decide)) (by rfl) (passes_call (takes_of rfl rfl rfl rfl) (fun _ _ _ _ h => h)) (pa_cons (pe_op op_fdiv (pv 1) pe_int) (pa_cons (pe_op op_add (pv 5) pe_int) pa_nil))) (pv 7)) (pv 0))) pa_nil)))))))
      (pss_one (ps_ret (pv 4)))))), ?_⟩
    obtain ⟨n, c, most, rfl, hn, hn1, hmost, q⟩ := h
    dsimp only [cxOf, L2.start, List.map_cons, List.map_nil, List.length_cons, List.length_nil, Nat.reduceAdd, Nat.reduceSub, List.replicate_succ, List.replicate_zero, List.cons_append, List.nil_append, Nat.zero_add, List.reduceReplicate, List.map]
    refine q_relL (vs := [.int (n : Int), .int c]) (P := fun xs => xs.Perm (natsI n)) (by (repeat' (first | with_reducible exact ev_c | ((with_reducible show Ev (tVar _) _ _ _); exact ev_var rfl) | with_reducible exact ea_nil | with_reducible exact eo_none | with_reducible refine' ea_cons ?_ ?_ | with_reducible refine' eo_some ?_ | with_reducible refine' ev_and2 ?_ ?_ | with_reducible refine' ev_or2 ?_ ?_ | with_reducible refine' ev_notV ?_ | with_reducible exact ru_I | with_reducible refine' ev_un ?_ ?_ | with_reducible exact rv_I0 | with_reducible exact rv_isN | with_reducible exact rv_notN | with_reducible refine' rv_I ?_ | with_reducible refine' rv_eq ?_ | with_reducible refine' rv_ne ?_ | with_reducible refine' ev_op ?_ ?_ ?_ | with_reducible refine' ev_chain2 ?_ ?_ ?_ ?_ ?_ | with_reducible refine' et_B ?_ | with_reducible refine' et_test ?_ | with_reducible refine' et_and2 ?_ ?_ | with_reducible refine' et_or2 ?_ ?_ | with_reducible refine' et_not ?_ | with_reducible refine' ev_call ?_ ?_ | with_reducible refine' ev_callS ?_ ?_ | with_reducible refine' ev_cb ?_ ?_ | with_reducible exact isi_bool (by assumption) | with_reducible exact isi_int (by assumption) | with_reducible exact isi_list (by assumption) | with_reducible exact rc_len (by assumption) | with_reducible exact rc_sum (by assumption) | with_reducible exact rc_abs | with_reducible exact isi_listL (by assumption) | with_reducible exact isi_intI | with_reducible exact isi_boolI | with_reducible exact rc_lenT (by assumption) | with_reducible exact isi_tup (by assumption) | with_reducible exact rv_eqL (by assumption) (by assumption) | with_reducible exact rv_neL (by assumption) (by assumption) | with_reducible exact rv_neT (by assumption) (by assumption) | with_reducible exact rv_ixL (by assumption) (by assumption) | with_reducible exact rv_ixT (by assumption) (by assumption) | with_reducible refine' ev_din ?_ ?_ (by assumption) | with_reducible refine' ev_dnotin ?_ ?_ (by assumption) | with_reducible refine' ev_dget ?_ ?_ (by assumption) (by assumption) | ((with_reducible show SpV _ _ _ _); assumption) | ((with_reducible show RV _ _ _ _ _); assumption) | ((with_reducible show RC _ _ _ _); assumption) | ((with_reducible show CDiv _ _); exact ⟨by omega, by omega⟩) | ((with_reducible show CMul _ _); first | exact .inl ⟨by omega, by omega⟩ | exact .inr ⟨by omega, by omega⟩) | ((with_reducible show CPow _ _); exact ⟨by omega, by omega, by decide⟩) | ((with_reducible show (0 : Int) < _); omega) | ((with_reducible show (0 : Int) ≤ _); omega) | ((with_reducible show scal _ _ = true); rfl)))) (fun H1 e1 Q E k => ⟨n, c, rfl, hn, hn1, k⟩) fun xs p H1 pm hp e1 h1 => ?_
    refine q_asgL (xs := []) (el_lst ea_nil (by decide)) fun l H2 hl e2 h2 => ?_
    have hlx : xs.length = n := by rw [pm.length_eq, natsI_len]
    have hpl : H1 l = none := hl
    refine q_forR1 (n := (n : Int)) (by (repeat' (first | with_reducible exact ev_c | ((with_reducible show Ev (tVar _) _ _ _); exact ev_var rfl) | with_reducible exact ea_nil | with_reducible exact eo_none | with_reducible refine' ea_cons ?_ ?_ | with_reducible refine' eo_some ?_ | with_reducible refine' ev_and2 ?_ ?_ | with_reducible refine' ev_or2 ?_ ?_ | with_reducible refine' ev_notV ?_ | with_reducible exact ru_I | with_reducible refine' ev_un ?_ ?_ | with_reducible exact rv_I0 | with_reducible exact rv_isN | with_reducible exact rv_notN | with_reducible refine' rv_I ?_ | with_reducible refine' rv_eq ?_ | with_reducible refine' rv_ne ?_ | with_reducible refine' ev_op ?_ ?_ ?_ | with_reducible refine' ev_chain2 ?_ ?_ ?_ ?_ ?_ | with_reducible refine' et_B ?_ | with_reducible refine' et_test ?_ | with_reducible refine' et_and2 ?_ ?_ | with_reducible refine' et_or2 ?_ ?_ | with_reducible refine' et_not ?_ | with_reducible refine' ev_call ?_ ?_ | with_reducible refine' ev_callS ?_ ?_ | with_reducible refine' ev_cb ?_ ?_ | with_reducible exact isi_bool (by assumption) | with_reducible exact isi_int (by assumption) | with_reducible exact isi_list (by assumption) | with_reducible exact rc_len (by assumption) | with_reducible exact rc_sum (by assumption) | with_reducible exact rc_abs | with_reducible exact isi_listL (by assumption) | with_reducible exact isi_intI | with_reducible exact isi_boolI | with_reducible exact rc_lenT (by assumption) | with_reducible exact isi_tup (by assumption) | with_reducible exact rv_eqL (by assumption) (by assumption) | with_reducible exact rv_neL (by assumption) (by assumption) | with_reducible exact rv_neT (by assumption) (by assumption) | with_reducible exact rv_ixL (by assumption) (by assumption) | with_reducible exact rv_ixT (by assumption) (by assumption) | with_reducible refine' ev_din ?_ ?_ (by assumption) | with_reducible refine' ev_dnotin ?_ ?_ (by assumption) | with_reducible refine' ev_dget ?_ ?_ (by assumption) (by assumption) | ((with_reducible show SpV _ _ _ _); assumption) | ((with_reducible show RV _ _ _ _ _); assumption) | ((with_reducible show RC _ _ _ _); assumption) | ((with_reducible show CDiv _ _); exact ⟨by omega, by omega⟩) | ((with_reducible show CMul _ _); first | exact .inl ⟨by omega, by omega⟩ | exact .inr ⟨by omega, by omega⟩) | ((with_reducible show CPow _ _); exact ⟨by omega, by omega, by decide⟩) | ((with_reducible show (0 : Int) < _); omega) | ((with_reducible show (0 : Int) ≤ _); omega) | ((with_reducible show scal _ _ = true); rfl)))) (by omega) (fun i σ' H' => ∃ (y4 y5 y6 : Option V) (ts : List Int), σ' = [some (V.int (n : Int)), some (V.int c), some (V.int most), some (V.ref p), some (V.ref l), y4, y5, y6] ∧ Ex H1 H' ∧ H' l = some (.lst (ts.map V.int)) ∧ ts.length = i ∧ (∀ k, k < i → ((k : Int) + ts.getD k 0) % (n : Int) = xs.getD k 0) ∧ ∀ t ∈ ts, 0 ≤ t ∧ t ≤ 60) (fun H3 e3 => ⟨none, none, none, [], rfl, e2.trans e3, e3 _ _ h2, rfl, fun k hk => by omega, fun t ht => nomatch ht⟩) ?_ ?_
    · rintro i σ' H' hi ⟨y4, y5, y6, ts, rfl, e3, h3, tl, tto, tfar⟩
      have hi' : i < n := by omega
      obtain ⟨x0, x1⟩ := perm_at pm hi'
      have s3 : SqL K H' p (xs.map V.int) := sq_of (e3 _ _ h1)
      have g3 := atI_int (ns := xs) (j := i) (by omega)
      refine q_asg (v := .int ((xs.getD i 0 - (i : Int)) % (n : Int))) (by (repeat' (first | with_reducible exact ev_c | ((with_reducible show Ev (tVar _) _ _ _); exact ev_var rfl) | with_reducible exact ea_nil | with_reducible exact eo_none | with_reducible refine' ea_cons ?_ ?_ | with_reducible refine' eo_some ?_ | with_reducible refine' ev_and2 ?_ ?_ | with_reducible refine' ev_or2 ?_ ?_ | with_reducible refine' ev_notV ?_ | with_reducible exact ru_I | with_reducible refine' ev_un ?_ ?_ | with_reducible exact rv_I0 | with_reducible exact rv_isN | with_reducible exact rv_notN | with_reducible refine' rv_I ?_ | with_reducible refine' rv_eq ?_ | with_reducible refine' rv_ne ?_ | with_reducible refine' ev_op ?_ ?_ ?_ | with_reducible refine' ev_chain2 ?_ ?_ ?_ ?_ ?_ | with_reducible refine' et_B ?_ | with_reducible refine' et_test ?_ | with_reducible refine' et_and2 ?_ ?_ | with_reducible refine' et_or2 ?_ ?_ | with_reducible refine' et_not ?_ | with_reducible refine' ev_call ?_ ?_ | with_reducible refine' ev_callS ?_ ?_ | with_reducible refine' ev_cb ?_ ?_ | with_reducible exact isi_bool (by assumption) | with_reducible exact isi_int (by assumption) | with_reducible exact isi_list (by assumption) | with_reducible exact rc_len (by assumption) | with_reducible exact rc_sum (by assumption) | with_reducible exact rc_abs | with_reducible exact isi_listL (by assumption) | with_reducible exact isi_intI | with_reducible exact isi_boolI | with_reducible exact rc_lenT (by assumption) | with_reducible exact isi_tup (by assumption) | with_reducible exact rv_eqL (by assumption) (by assumption) | with_reducible exact rv_neL (by assumption) (by assumption) | with_reducible exact rv_neT (by assumption) (by assumption) | with_reducible exact rv_ixL (by assumption) (by assumption) | with_reducible exact rv_ixT (by assumption) (by assumption) | with_reducible refine' ev_din ?_ ?_ (by assumption) | with_reducible refine' ev_dnotin ?_ ?_ (by assumption) | with_reducible refine' ev_dget ?_ ?_ (by assumption) (by assumption) | ((with_reducible show SpV _ _ _ _); assumption) | ((with_reducible show RV _ _ _ _ _); assumption) | ((with_reducible show RC _ _ _ _); assumption) | ((with_reducible show CDiv _ _); exact ⟨by omega, by omega⟩) | ((with_reducible show CMul _ _); first | exact .inl ⟨by omega, by omega⟩ | exact .inr ⟨by omega, by omega⟩) | ((with_reducible show CPow _ _); exact ⟨by omega, by omega, by decide⟩) | ((with_reducible show (0 : Int) < _); omega) | ((with_reducible show (0 : Int) ≤ _); omega) | ((with_reducible show scal _ _ = true); rfl)))) fun H4 e4 => ?_
      have r0 := Int.emod_nonneg (xs.getD i 0 - (i : Int)) (show (n : Int) ≠ 0 by omega)
      have r1 := Int.emod_lt_of_pos (xs.getD i 0 - (i : Int)) (show (0 : Int) < (n : Int) by omega)
      have hland := land_g (k := (i : Int)) (g := mixed (c / 3) ((i : Int) + 70) % farI most ((xs.getD i 0 - (i : Int)) % (n : Int)) n) x0 x1
      generalize (xs.getD i 0 - (i : Int)) % (n : Int) = r at *
      have m2 := rc_min2 (H := H4) (i := most) (j := (60 - r) / (n : Int) + 1)
      refine q_asg (v := .int (farI most r n)) (by unfold farI; (repeat' (first | with_reducible exact ev_c | ((with_reducible show Ev (tVar _) _ _ _); exact ev_var rfl) | with_reducible exact ea_nil | with_reducible exact eo_none | with_reducible refine' ea_cons ?_ ?_ | with_reducible refine' eo_some ?_ | with_reducible refine' ev_and2 ?_ ?_ | with_reducible refine' ev_or2 ?_ ?_ | with_reducible refine' ev_notV ?_ | with_reducible exact ru_I | with_reducible refine' ev_un ?_ ?_ | with_reducible exact rv_I0 | with_reducible exact rv_isN | with_reducible exact rv_notN | with_reducible refine' rv_I ?_ | with_reducible refine' rv_eq ?_ | with_reducible refine' rv_ne ?_ | with_reducible refine' ev_op ?_ ?_ ?_ | with_reducible refine' ev_chain2 ?_ ?_ ?_ ?_ ?_ | with_reducible refine' et_B ?_ | with_reducible refine' et_test ?_ | with_reducible refine' et_and2 ?_ ?_ | with_reducible refine' et_or2 ?_ ?_ | with_reducible refine' et_not ?_ | with_reducible refine' ev_call ?_ ?_ | with_reducible refine' ev_callS ?_ ?_ | with_reducible refine' ev_cb ?_ ?_ | with_reducible exact isi_bool (by assumption) | with_reducible exact isi_int (by assumption) | with_reducible exact isi_list (by assumption) | with_reducible exact rc_len (by assumption) | with_reducible exact rc_sum (by assumption) | with_reducible exact rc_abs | with_reducible exact isi_listL (by assumption) | with_reducible exact isi_intI | with_reducible exact isi_boolI | with_reducible exact rc_lenT (by assumption) | with_reducible exact isi_tup (by assumption) | with_reducible exact rv_eqL (by assumption) (by assumption) | with_reducible exact rv_neL (by assumption) (by assumption) | with_reducible exact rv_neT (by assumption) (by assumption) | with_reducible exact rv_ixL (by assumption) (by assumption) | with_reducible exact rv_ixT (by assumption) (by assumption) | with_reducible refine' ev_din ?_ ?_ (by assumption) | with_reducible refine' ev_dnotin ?_ ?_ (by assumption) | with_reducible refine' ev_dget ?_ ?_ (by assumption) (by assumption) | ((with_reducible show SpV _ _ _ _); assumption) | ((with_reducible show RV _ _ _ _ _); assumption) | ((with_reducible show RC _ _ _ _); assumption) | ((with_reducible show CDiv _ _); exact ⟨by omega, by omega⟩) | ((with_reducible show CMul _ _); first | exact .inl ⟨by omega, by omega⟩ | exact .inr ⟨by omega, by omega⟩) | ((with_reducible show CPow _ _); exact ⟨by omega, by omega, by decide⟩) | ((with_reducible show (0 : Int) < _); omega) | ((with_reducible show (0 : Int) ≤ _); omega) | ((with_reducible show scal _ _ = true); rfl)))) fun H5 e5 => ?_
      have sm := sv_mixed (H := H5) (c := c / 3) (k := (i : Int) + 70)
      have f0 := mixed_nn (c / 3) ((i : Int) + 70)
      have f1 := mixed_lt (c / 3) ((i : Int) + 70)
      generalize mixed (c / 3) ((i : Int) + 70) = f at *
      obtain ⟨b0, b1, b2, b3⟩ := farI_ok (f := f) hn1 hn hmost r0 r1
      have g0 := Int.emod_nonneg f (show farI most r n ≠ 0 by omega)
      have g1 := Int.emod_lt_of_pos f (show 0 < farI most r n by omega)
      refine s_app (xs := ts.map V.int) ((e4.trans e5) _ _ h3) (by (repeat' (first | with_reducible exact ev_c | ((with_reducible show Ev (tVar _) _ _ _); exact ev_var rfl) | with_reducible exact ea_nil | with_reducible exact eo_none | with_reducible refine' ea_cons ?_ ?_ | with_reducible refine' eo_some ?_ | with_reducible refine' ev_and2 ?_ ?_ | with_reducible refine' ev_or2 ?_ ?_ | with_reducible refine' ev_notV ?_ | with_reducible exact ru_I | with_reducible refine' ev_un ?_ ?_ | with_reducible exact rv_I0 | with_reducible exact rv_isN | with_reducible exact rv_notN | with_reducible refine' rv_I ?_ | with_reducible refine' rv_eq ?_ | with_reducible refine' rv_ne ?_ | with_reducible refine' ev_op ?_ ?_ ?_ | with_reducible refine' ev_chain2 ?_ ?_ ?_ ?_ ?_ | with_reducible refine' et_B ?_ | with_reducible refine' et_test ?_ | with_reducible refine' et_and2 ?_ ?_ | with_reducible refine' et_or2 ?_ ?_ | with_reducible refine' et_not ?_ | with_reducible refine' ev_call ?_ ?_ | with_reducible refine' ev_callS ?_ ?_ | with_reducible refine' ev_cb ?_ ?_ | with_reducible exact isi_bool (by assumption) | with_reducible exact isi_int (by assumption) | with_reducible exact isi_list (by assumption) | with_reducible exact rc_len (by assumption) | with_reducible exact rc_sum (by assumption) | with_reducible exact rc_abs | with_reducible exact isi_listL (by assumption) | with_reducible exact isi_intI | with_reducible exact isi_boolI | with_reducible exact rc_lenT (by assumption) | with_reducible exact isi_tup (by assumption) | with_reducible exact rv_eqL (by assumption) (by assumption) | with_reducible exact rv_neL (by assumption) (by assumption) | with_reducible exact rv_neT (by assumption) (by assumption) | with_reducible exact rv_ixL (by assumption) (by assumption) | with_reducible exact rv_ixT (by assumption) (by assumption) | with_reducible refine' ev_din ?_ ?_ (by assumption) | with_reducible refine' ev_dnotin ?_ ?_ (by assumption) | with_reducible refine' ev_dget ?_ ?_ (by assumption) (by assumption) | ((with_reducible show SpV _ _ _ _); assumption) | ((with_reducible show RV _ _ _ _ _); assumption) | ((with_reducible show RC _ _ _ _); assumption) | ((with_reducible show CDiv _ _); exact ⟨by omega, by omega⟩) | ((with_reducible show CMul _ _); first | exact .inl ⟨by omega, by omega⟩ | exact .inr ⟨by omega, by omega⟩) | ((with_reducible show CPow _ _); exact ⟨by omega, by omega, by decide⟩) | ((with_reducible show (0 : Int) < _); omega) | ((with_reducible show (0 : Int) ≤ _); omega) | ((with_reducible show scal _ _ = true); rfl)))) (v := .int (r + f % farI most r n * (n : Int))) (by (repeat' (first | with_reducible exact ev_c | ((with_reducible show Ev (tVar _) _ _ _); exact ev_var rfl) | with_reducible exact ea_nil | with_reducible exact eo_none | with_reducible refine' ea_cons ?_ ?_ | with_reducible refine' eo_some ?_ | with_reducible refine' ev_and2 ?_ ?_ | with_reducible refine' ev_or2 ?_ ?_ | with_reducible refine' ev_notV ?_ | with_reducible exact ru_I | with_reducible refine' ev_un ?_ ?_ | with_reducible exact rv_I0 | with_reducible exact rv_isN | with_reducible exact rv_notN | with_reducible refine' rv_I ?_ | with_reducible refine' rv_eq ?_ | with_reducible refine' rv_ne ?_ | with_reducible refine' ev_op ?_ ?_ ?_ | with_reducible refine' ev_chain2 ?_ ?_ ?_ ?_ ?_ | with_reducible refine' et_B ?_ | with_reducible refine' et_test ?_ | with_reducible refine' et_and2 ?_ ?_ | with_reducible refine' et_or2 ?_ ?_ | with_reducible refine' et_not ?_ | with_reducible refine' ev_call ?_ ?_ | with_reducible refine' ev_callS ?_ ?_ | with_reducible refine' ev_cb ?_ ?_ | with_reducible exact isi_bool (by assumption) | with_reducible exact isi_int (by assumption) | with_reducible exact isi_list (by assumption) | with_reducible exact rc_len (by assumption) | with_reducible exact rc_sum (by assumption) | with_reducible exact rc_abs | with_reducible exact isi_listL (by assumption) | with_reducible exact isi_intI | with_reducible exact isi_boolI | with_reducible exact rc_lenT (by assumption) | with_reducible exact isi_tup (by assumption) | with_reducible exact rv_eqL (by assumption) (by assumption) | with_reducible exact rv_neL (by assumption) (by assumption) | with_reducible exact rv_neT (by assumption) (by assumption) | with_reducible exact rv_ixL (by assumption) (by assumption) | with_reducible exact rv_ixT (by assumption) (by assumption) | with_reducible refine' ev_din ?_ ?_ (by assumption) | with_reducible refine' ev_dnotin ?_ ?_ (by assumption) | with_reducible refine' ev_dget ?_ ?_ (by assumption) (by assumption) | ((with_reducible show SpV _ _ _ _); assumption) | ((with_reducible show RV _ _ _ _ _); assumption) | ((with_reducible show RC _ _ _ _); assumption) | ((with_reducible show CDiv _ _); exact ⟨by omega, by omega⟩) | ((with_reducible show CMul _ _); first | exact .inl ⟨by omega, by omega⟩ | exact .inr ⟨by omega, by omega⟩) | ((with_reducible show CPow _ _); exact ⟨by omega, by omega, by decide⟩) | ((with_reducible show (0 : Int) < _); omega) | ((with_reducible show (0 : Int) ≤ _); omega) | ((with_reducible show scal _ _ = true); rfl)))) (by rw [List.length_map]; omega) fun H6 e6 => ?_
      obtain ⟨z1, z2⟩ := lands_snoc (t := r + f % farI most r n * (n : Int)) tl tto hland
      refine ⟨_, _, _, ts ++ [_], rfl, Ex.mut (((e3.trans e4).trans e5).trans e6) hpl, ?_, z1, z2, fun u hu => ?_⟩
      · rw [upd_same, List.map_append]
        rfl
      · rcases List.mem_append.mp hu with hu | hu
        · exact tfar u hu
        · rw [List.mem_singleton.mp hu]
          exact ⟨b2, b3⟩
    · rintro σ' H' ⟨y4, y5, y6, ts, rfl, e3, h3, tl, tto, tfar⟩
      have hl0 : H l = none := fresh_back e1 hl
      have pat : Pat n 2 ts := pat_of hn1 hn pm ⟨tl, tto, fun t ht => by
        have := tfar t ht
        exact ⟨fun h => absurd h (by decide), fun h => absurd h (by decide), by omega, by omega⟩⟩
      exact s_ret (v := .ref l) (by (repeat' (first | with_reducible exact ev_c | ((with_reducible show Ev (tVar _) _ _ _); exact ev_var rfl) | with_reducible exact ea_nil | with_reducible exact eo_none | with_reducible refine' ea_cons ?_ ?_ | with_reducible refine' eo_some ?_ | with_reducible refine' ev_and2 ?_ ?_ | with_reducible refine' ev_or2 ?_ ?_ | with_reducible refine' ev_notV ?_ | with_reducible exact ru_I | with_reducible refine' ev_un ?_ ?_ | with_reducible exact rv_I0 | with_reducible exact rv_isN | with_reducible exact rv_notN | with_reducible refine' rv_I ?_ | with_reducible refine' rv_eq ?_ | with_reducible refine' rv_ne ?_ | with_reducible refine' ev_op ?_ ?_ ?_ | with_reducible refine' ev_chain2 ?_ ?_ ?_ ?_ ?_ | with_reducible refine' et_B ?_ | with_reducible refine' et_test ?_ | with_reducible refine' et_and2 ?_ ?_ | with_reducible refine' et_or2 ?_ ?_ | with_reducible refine' et_not ?_ | with_reducible refine' ev_call ?_ ?_ | with_reducible refine' ev_callS ?_ ?_ | with_reducible refine' ev_cb ?_ ?_ | with_reducible exact isi_bool (by assumption) | with_reducible exact isi_int (by assumption) | with_reducible exact isi_list (by assumption) | with_reducible exact rc_len (by assumption) | with_reducible exact rc_sum (by assumption) | with_reducible exact rc_abs | with_reducible exact isi_listL (by assumption) | with_reducible exact isi_intI | with_reducible exact isi_boolI | with_reducible exact rc_lenT (by assumption) | with_reducible exact isi_tup (by assumption) | with_reducible exact rv_eqL (by assumption) (by assumption) | with_reducible exact rv_neL (by assumption) (by assumption) | with_reducible exact rv_neT (by assumption) (by assumption) | with_reducible exact rv_ixL (by assumption) (by assumption) | with_reducible exact rv_ixT (by assumption) (by assumption) | with_reducible refine' ev_din ?_ ?_ (by assumption) | with_reducible refine' ev_dnotin ?_ ?_ (by assumption) | with_reducible refine' ev_dget ?_ ?_ (by assumption) (by assumption) | ((with_reducible show SpV _ _ _ _); assumption) | ((with_reducible show RV _ _ _ _ _); assumption) | ((with_reducible show RC _ _ _ _); assumption) | ((with_reducible show CDiv _ _); exact ⟨by omega, by omega⟩) | ((with_reducible show CMul _ _); first | exact .inl ⟨by omega, by omega⟩ | exact .inr ⟨by omega, by omega⟩) | ((with_reducible show CPow _ _); exact ⟨by omega, by omega, by decide⟩) | ((with_reducible show (0 : Int) < _); omega) | ((with_reducible show (0 : Int) ≤ _); omega) | ((with_reducible show scal _ _ = true); rfl)))) fun H4 e4 => q ts tl ⟨pat.row, pat.no, tfar⟩ l H4 hl0 ((e1.trans e3).trans e4) (e4 _ _ h3)

theorem repD (n i : Nat) (b : Int) (h : i < n) : (List.replicate n b).getD i 0 = b := by
  rw [List.getD_eq_getElem?_getD, List.getElem?_replicate, if_pos h]
  rfl
theorem even_clash (n : Nat) (b : Int) : clashOf (List.replicate n b) = none := clash_none_of fun i j hi hj e => by
  rw [List.length_replicate] at hi hj
  unfold land at e
  rw [List.length_replicate, repD n i b hi, repD n j b hj] at e
  have z := (Int.emod_add_cancel_right b).mp e
  rw [Int.emod_eq_of_lt (by omega) (by omega), Int.emod_eq_of_lt (by omega) (by omega)] at z
  omega
def sp_near_even : Sp := fun vs H Q E => ∃ (n : Nat) (c : Int), vs = [.int (n : Int), .int c] ∧ n ≤ 60 ∧ 1 ≤ n ∧ ∀ ts : List Int, ts.length = n → Plain ts → RetL (ts.map V.int) H Q
theorem sc__law_near_even : FnScope ["_law_size", "_law_cell", "_law_row", "_law_k", "_law_i", "_law_j", "_law_first"] ["_law_size", "_law_cell"] (defScope s__law_near_even) := ⟨rfl, rfl, rfl, by decide +kernel, rfl, by decide +kernel, by decide +kernel⟩
theorem ok__law_near_even {P : Program} {w : World} {K : PySem.W.Frag} {mg : Str → Option Value} {base : Heap} (T : TXT K mg) : OK P w K mg base "_law_near_even" ["_law_size", "_law_cell"] 3 (sp_near_even) := by
  have O__law_mixed := ok__law_mixed (P := P) (w := w) (base := base) T
  obtain ⟨fd, F⟩ := T.def_ 14
  refine ⟨_, fd, T.glo 13, F.kp, F.bindsN (fun _ _ _ _ _ _ us hl => match us, hl with | [_, _], _ => rfl), F.ok sc__law_near_even (fun vs H Q E h => ?_) (fun cdv A outer s H vs Q E hr h => ?_), F.bindsA (fun _ _ _ _ _ _ us hl => match us, hl with | [_, _], _ => rfl)⟩
  · first | (obtain ⟨rfl, _⟩ := h; rfl) | (obtain ⟨_, rfl, _⟩ := h; rfl) | (obtain ⟨_, _, rfl, _⟩ := h; rfl) | (obtain ⟨_, _, _, rfl, _⟩ := h; rfl) | (obtain ⟨_, _, _, _, rfl, _⟩ := h; rfl) | (obtain ⟨_, _, _, _, _, rfl, _⟩ := h; rfl) | (obtain ⟨_, _, _, _, _, _, rfl, _⟩ := h; rfl) | (obtain ⟨_, _, _, _, _, _, _, rfl, _⟩ := h; rfl) | (obtain ⟨_, _, _, _, _, _, _, _, rfl, _⟩ := h; rfl)
  · replace F : FunD K "_law_near_even" "_law_near_even" (defArgs s__law_near_even) (defBody s__law_near_even) (defScope s__law_near_even) [] [] (He.ga K "_law_near_even") fd := F
    refine ⟨_, (pss_cons (ps_setLc (i := 2) (own := [("_law_k", 3)]) (g := gName 3) (tt := tYes) rfl sc__law_near_even.nd rfl rfl (sw_true rfl rfl rfl (by decide +kernel)) (pi_range1 (by rfl) (T.free 32) (pa_cons (pv 0) pa_nil)) (blkOk_by (N := ["_law_size", "_law_cell", "_law_row", "_law_k", "_law_i", "_law_j", "_law_first"]) (sc := defScope s__law_near_even) (by decide +kernel)) (fun _ _ _ _ _ => pg_name (i := 3) sc__law_near_even.nd rfl (Or.inl rfl)) (fun _ _ _ _ _ => pts_nil) (fun _ _ _ _ _ => (pe_op op_mod (pe_own O__law_mixed (hr.mono (by decide)) (by rfl) passL (pa_cons (pv 1) (pa_cons pe_int pa_nil))) pe_int)))
      (pss_cons (ps_for (passes_of rfl) rfl (pi_range1 (by rfl) (T.free 32) (pa_cons (pe_op op_mod (pe_own O__law_mixed (hr.mono (by decide)) (by rfl) (passes_call (takes_of rfl rfl rfl rfl) (fun _ _ _ _ h => h)) (pa_cons (pv 1) (pa_cons pe_int pa_nil))) pe_int) pa_nil)) (pg_name (i := 3) sc__law_near_even.nd rfl (Or.inl rfl))
        (pss_cons (ps_set (i := 4) sc__law_near_even.nd rfl (Or.inl rfl) (pe_op op_mod (pe_own O__law_mixed (hr.mono (by decide)) (by rfl) (passes_call (takes_of rfl rfl rfl rfl) (fun _ _ _ _ h => h)) (pa_cons (pv 1) (pa_cons (pe_op op_add (pv 3) pe_int) pa_nil))) (pv 0)))
      (pss_cons (ps_set (i := 5) sc__law_near_even.nd rfl (Or.inl rfl) (pe_op op_add (pe_op op_add (pv 4) pe_int) (pe_op op_mod (pe_own O__law_mixed (hr.mono (by decide)) (by rfl) (passes_call (takes_of rfl rfl rfl rfl) (fun _ _ _ _ h => h)) (pa_cons (pv 1) (pa_cons (pe_op op_add (pv 3) pe_int) pa_nil))) pe_int)))
      (pss_one (ps_if (PW.pt (pw_and (pt_cmpR op_lt (pv 5) (pv 0) (nomark _)) (pw_and1 (pt_cmpR op_ge (pe_op op_sub (pe_op op_add (pe_ix (k_ixL K) (pv 2) (pv 4) (fun _ _ => rfl)) (pv 4)) (pv 5)) pe_int (nomark _)))))
        (pss_cons (ps_set (i := 6) sc__law_near_even.nd rfl (Or.inl rfl) (pe_ix (k_ixL K) (pv 2) (pv 4) (fun _ _ => rfl)))
      (pss_cons (ps_asg (pe_op op_sub (pe_op op_add (pe_ix (k_ixL K) (pv 2) (pv 5) (fun _ _ => rfl)) (pv 5)) (pv 4)) (pg_sub (pv 2) (pv 4) set_list))
      (pss_one (ps_asg (pe_op op_sub (pe_op op_add (pv 6) (pv 4)) (pv 5)) (pg_sub (pv 2) (pv 5) set_list)))))
        pss_nil)))))
      (pss_one (ps_ret (pv 2))))), ?_⟩
    obtain ⟨n, c, rfl, hn, hn1, q⟩ := h
    dsimp only [cxOf, L2.start, List.map_cons, List.map_nil, List.length_cons, List.length_nil, Nat.reduceAdd, Nat.reduceSub, List.replicate_succ, List.replicate_zero, List.cons_append, List.nil_append, Nat.zero_add, List.reduceReplicate, List.map]
    have m0 := mixed_nn c 0
    refine q_asgL (el_rngI (n := n) (fun _ => mixed c 0 % 6) (by (repeat' (first | with_reducible exact ev_c | ((with_reducible show Ev (tVar _) _ _ _); exact ev_var rfl) | with_reducible exact ea_nil | with_reducible exact eo_none | with_reducible refine' ea_cons ?_ ?_ | with_reducible refine' eo_some ?_ | with_reducible refine' ev_and2 ?_ ?_ | with_reducible refine' ev_or2 ?_ ?_ | with_reducible refine' ev_notV ?_ | with_reducible exact ru_I | with_reducible refine' ev_un ?_ ?_ | with_reducible exact rv_I0 | with_reducible exact rv_isN | with_reducible exact rv_notN | with_reducible refine' rv_I ?_ | with_reducible refine' rv_eq ?_ | with_reducible refine' rv_ne ?_ | with_reducible refine' ev_op ?_ ?_ ?_ | with_reducible refine' ev_chain2 ?_ ?_ ?_ ?_ ?_ | with_reducible refine' et_B ?_ | with_reducible refine' et_test ?_ | with_reducible refine' et_and2 ?_ ?_ | with_reducible refine' et_or2 ?_ ?_ | with_reducible refine' et_not ?_ | with_reducible refine' ev_call ?_ ?_ | with_reducible refine' ev_callS ?_ ?_ | with_reducible refine' ev_cb ?_ ?_ | with_reducible exact isi_bool (by assumption) | with_reducible exact isi_int (by assumption) | with_reducible exact isi_list (by assumption) | with_reducible exact rc_len (by assumption) | with_reducible exact rc_sum (by assumption) | with_reducible exact rc_abs | with_reducible exact isi_listL (by assumption) | with_reducible exact isi_intI | with_reducible exact isi_boolI | with_reducible exact rc_lenT (by assumption) | with_reducible exact isi_tup (by assumption) | with_reducible exact rv_eqL (by assumption) (by assumption) | with_reducible exact rv_neL (by assumption) (by assumption) | with_reducible exact rv_neT (by assumption) (by assumption) | with_reducible exact rv_ixL (by assumption) (by assumption) | with_reducible exact rv_ixT (by assumption) (by assumption) | with_reducible refine' ev_din ?_ ?_ (by assumption) | with_reducible refine' ev_dnotin ?_ ?_ (by assumption) | with_reducible refine' ev_dget ?_ ?_ (by assumption) (by assumption) | ((with_reducible show SpV _ _ _ _); assumption) | ((with_reducible show RV _ _ _ _ _); assumption) | ((with_reducible show RC _ _ _ _); assumption) | ((with_reducible show CDiv _ _); exact ⟨by omega, by omega⟩) | ((with_reducible show CMul _ _); first | exact .inl ⟨by omega, by omega⟩ | exact .inr ⟨by omega, by omega⟩) | ((with_reducible show CPow _ _); exact ⟨by omega, by omega, by decide⟩) | ((with_reducible show (0 : Int) < _); omega) | ((with_reducible show (0 : Int) ≤ _); omega) | ((with_reducible show scal _ _ = true); rfl)))) (by omega) (fun _ => rfl) fun i H1 e1 hi => ?_) fun l H1 hl e1 h1 => ?_
    · have sm := sv_mixed (H := H1) (c := c) (k := 0)
      (repeat' (first | with_reducible exact ev_c | ((with_reducible show Ev (tVar _) _ _ _); exact ev_var rfl) | with_reducible exact ea_nil | with_reducible exact eo_none | with_reducible refine' ea_cons ?_ ?_ | with_reducible refine' eo_some ?_ | with_reducible refine' ev_and2 ?_ ?_ | with_reducible refine' ev_or2 ?_ ?_ | with_reducible refine' ev_notV ?_ | with_reducible exact ru_I | with_reducible refine' ev_un ?_ ?_ | with_reducible exact rv_I0 | with_reducible exact rv_isN | with_reducible exact rv_notN | with_reducible refine' rv_I ?_ | with_reducible refine' rv_eq ?_ | with_reducible refine' rv_ne ?_ | with_reducible refine' ev_op ?_ ?_ ?_ | with_reducible refine' ev_chain2 ?_ ?_ ?_ ?_ ?_ | with_reducible refine' et_B ?_ | with_reducible refine' et_test ?_ | with_reducible refine' et_and2 ?_ ?_ | with_reducible refine' et_or2 ?_ ?_ | with_reducible refine' et_not ?_ | with_reducible refine' ev_call ?_ ?_ | with_reducible refine' ev_callS ?_ ?_ | with_reducible refine' ev_cb ?_ ?_ | with_reducible exact isi_bool (by assumption) | with_reducible exact isi_int (by assumption) | with_reducible exact isi_list (by assumption) | with_reducible exact rc_len (by assumption) | with_reducible exact rc_sum (by assumption) | with_reducible exact rc_abs | with_reducible exact isi_listL (by assumption) | with_reducible exact isi_intI | with_reducible exact isi_boolI | with_reducible exact rc_lenT (by assumption) | with_reducible exact isi_tup (by assumption) | with_reducible exact rv_eqL (by assumption) (by assumption) | with_reducible exact rv_neL (by assumption) (by assumption) | with_reducible exact rv_neT (by assumption) (by assumption) | with_reducible exact rv_ixL (by assumption) (by assumption) | with_reducible exact rv_ixT (by assumption) (by assumption) | with_reducible refine' ev_din ?_ ?_ (by assumption) | with_reducible refine' ev_dnotin ?_ ?_ (by assumption) | with_reducible refine' ev_dget ?_ ?_ (by assumption) (by assumption) | ((with_reducible show SpV _ _ _ _); assumption) | ((with_reducible show RV _ _ _ _ _); assumption) | ((with_reducible show RC _ _ _ _); assumption) | ((with_reducible show CDiv _ _); exact ⟨by omega, by omega⟩) | ((with_reducible show CMul _ _); first | exact .inl ⟨by omega, by omega⟩ | exact .inr ⟨by omega, by omega⟩) | ((with_reducible show CPow _ _); exact ⟨by omega, by omega, by decide⟩) | ((with_reducible show (0 : Int) < _); omega) | ((with_reducible show (0 : Int) ≤ _); omega) | ((with_reducible show scal _ _ = true); rfl)))
    have zz : (List.range n).map (fun _ => mixed c 0 % 6) = List.replicate n (mixed c 0 % 6) := by rw [List.map_const', List.length_range]
    rw [zz] at h1
    have c0 : 0 ≤ mixed c 0 % 6 ∧ mixed c 0 % 6 ≤ 5 := by omega
    generalize mixed c 0 % 6 = b at *
    have sm1 := sv_mixed (H := H1) (c := c) (k := 1)
    have n1 := mixed_nn c 1
    obtain ⟨m9, hm9, hm99⟩ := mod_nat (mixed c 1) (n := 9) (by omega)
    have hm9' : mixed c 1 % 9 = (m9 : Int) := hm9
    refine q_forR1 (n := (m9 : Int)) (by rw [← hm9']; (repeat' (first | with_reducible exact ev_c | ((with_reducible show Ev (tVar _) _ _ _); exact ev_var rfl) | with_reducible exact ea_nil | with_reducible exact eo_none | with_reducible refine' ea_cons ?_ ?_ | with_reducible refine' eo_some ?_ | with_reducible refine' ev_and2 ?_ ?_ | with_reducible refine' ev_or2 ?_ ?_ | with_reducible refine' ev_notV ?_ | with_reducible exact ru_I | with_reducible refine' ev_un ?_ ?_ | with_reducible exact rv_I0 | with_reducible exact rv_isN | with_reducible exact rv_notN | with_reducible refine' rv_I ?_ | with_reducible refine' rv_eq ?_ | with_reducible refine' rv_ne ?_ | with_reducible refine' ev_op ?_ ?_ ?_ | with_reducible refine' ev_chain2 ?_ ?_ ?_ ?_ ?_ | with_reducible refine' et_B ?_ | with_reducible refine' et_test ?_ | with_reducible refine' et_and2 ?_ ?_ | with_reducible refine' et_or2 ?_ ?_ | with_reducible refine' et_not ?_ | with_reducible refine' ev_call ?_ ?_ | with_reducible refine' ev_callS ?_ ?_ | with_reducible refine' ev_cb ?_ ?_ | with_reducible exact isi_bool (by assumption) | with_reducible exact isi_int (by assumption) | with_reducible exact isi_list (by assumption) | with_reducible exact rc_len (by assumption) | with_reducible exact rc_sum (by assumption) | with_reducible exact rc_abs | with_reducible exact isi_listL (by assumption) | with_reducible exact isi_intI | with_reducible exact isi_boolI | with_reducible exact rc_lenT (by assumption) | with_reducible exact isi_tup (by assumption) | with_reducible exact rv_eqL (by assumption) (by assumption) | with_reducible exact rv_neL (by assumption) (by assumption) | with_reducible exact rv_neT (by assumption) (by assumption) | with_reducible exact rv_ixL (by assumption) (by assumption) | with_reducible exact rv_ixT (by assumption) (by assumption) | with_reducible refine' ev_din ?_ ?_ (by assumption) | with_reducible refine' ev_dnotin ?_ ?_ (by assumption) | with_reducible refine' ev_dget ?_ ?_ (by assumption) (by assumption) | ((with_reducible show SpV _ _ _ _); assumption) | ((with_reducible show RV _ _ _ _ _); assumption) | ((with_reducible show RC _ _ _ _); assumption) | ((with_reducible show CDiv _ _); exact ⟨by omega, by omega⟩) | ((with_reducible show CMul _ _); first | exact .inl ⟨by omega, by omega⟩ | exact .inr ⟨by omega, by omega⟩) | ((with_reducible show CPow _ _); exact ⟨by omega, by omega, by decide⟩) | ((with_reducible show (0 : Int) < _); omega) | ((with_reducible show (0 : Int) ≤ _); omega) | ((with_reducible show scal _ _ = true); rfl)))) (by omega) (fun i σ' H' => ∃ (y3 y4 y5 y6 : Option V) (ts : List Int), σ' = [some (V.int (n : Int)), some (V.int c), some (V.ref l), y3, y4, y5, y6] ∧ Ex H H' ∧ H' l = some (.lst (ts.map V.int)) ∧ ts.length = n ∧ clashOf ts = none ∧ ∀ t ∈ ts, 0 ≤ t ∧ t ≤ 5 + 4 * (i : Int)) (fun H3 e3 => ⟨_, _, _, _, List.replicate n b, rfl, e1.trans e3, e3 _ _ h1, by simp, even_clash n b, fun t ht => by
      rw [(List.mem_replicate.mp ht).2]
      omega⟩) ?_ ?_
    · rintro k σ' H' hk ⟨y3, y4, y5, y6, ts, rfl, e3, h3, tl, tc, tb⟩
      have sm := sv_mixed (H := H') (c := c) (k := (k : Int) + 2)
      obtain ⟨i, hi, hin⟩ := mod_nat (mixed c ((k : Int) + 2)) hn1
      refine q_asg (v := .int (i : Int)) (ev_is (v := .int (mixed c ((k : Int) + 2) % (n : Int))) (by (repeat' (first | with_reducible exact ev_c | ((with_reducible show Ev (tVar _) _ _ _); exact ev_var rfl) | with_reducible exact ea_nil | with_reducible exact eo_none | with_reducible refine' ea_cons ?_ ?_ | with_reducible refine' eo_some ?_ | with_reducible refine' ev_and2 ?_ ?_ | with_reducible refine' ev_or2 ?_ ?_ | with_reducible refine' ev_notV ?_ | with_reducible exact ru_I | with_reducible refine' ev_un ?_ ?_ | with_reducible exact rv_I0 | with_reducible exact rv_isN | with_reducible exact rv_notN | with_reducible refine' rv_I ?_ | with_reducible refine' rv_eq ?_ | with_reducible refine' rv_ne ?_ | with_reducible refine' ev_op ?_ ?_ ?_ | with_reducible refine' ev_chain2 ?_ ?_ ?_ ?_ ?_ | with_reducible refine' et_B ?_ | with_reducible refine' et_test ?_ | with_reducible refine' et_and2 ?_ ?_ | with_reducible refine' et_or2 ?_ ?_ | with_reducible refine' et_not ?_ | with_reducible refine' ev_call ?_ ?_ | with_reducible refine' ev_callS ?_ ?_ | with_reducible refine' ev_cb ?_ ?_ | with_reducible exact isi_bool (by assumption) | with_reducible exact isi_int (by assumption) | with_reducible exact isi_list (by assumption) | with_reducible exact rc_len (by assumption) | with_reducible exact rc_sum (by assumption) | with_reducible exact rc_abs | with_reducible exact isi_listL (by assumption) | with_reducible exact isi_intI | with_reducible exact isi_boolI | with_reducible exact rc_lenT (by assumption) | with_reducible exact isi_tup (by assumption) | with_reducible exact rv_eqL (by assumption) (by assumption) | with_reducible exact rv_neL (by assumption) (by assumption) | with_reducible exact rv_neT (by assumption) (by assumption) | with_reducible exact rv_ixL (by assumption) (by assumption) | with_reducible exact rv_ixT (by assumption) (by assumption) | with_reducible refine' ev_din ?_ ?_ (by assumption) | with_reducible refine' ev_dnotin ?_ ?_ (by assumption) | with_reducible refine' ev_dget ?_ ?_ (by assumption) (by assumption) | ((with_reducible show SpV _ _ _ _); assumption) | ((with_reducible show RV _ _ _ _ _); assumption) | ((with_reducible show RC _ _ _ _); assumption) | ((with_reducible show CDiv _ _); exact ⟨by omega, by omega⟩) | ((with_reducible show CMul _ _); first | exact .inl ⟨by omega, by omega⟩ | exact .inr ⟨by omega, by omega⟩) | ((with_reducible show CPow _ _); exact ⟨by omega, by omega, by decide⟩) | ((with_reducible show (0 : Int) < _); omega) | ((with_reducible show (0 : Int) ≤ _); omega) | ((with_reducible show scal _ _ = true); rfl)))) (congrArg V.int hi)) fun H4 e4 => ?_
      have sm4 := sv_mixed (H := H4) (c := c) (k := (k : Int) + 12)
      have d0 := mixed_nn c ((k : Int) + 12)
      obtain ⟨d, hd, hd4⟩ := mod_nat (mixed c ((k : Int) + 12)) (n := 4) (by omega)
      have hd : mixed c ((k : Int) + 12) % 4 = (d : Int) := hd
      refine q_asg (v := .int ((i + 1 + d : Nat) : Int)) (ev_is (v := .int ((i : Int) + 1 + mixed c ((k : Int) + 12) % 4)) (by (repeat' (first | with_reducible exact ev_c | ((with_reducible show Ev (tVar _) _ _ _); exact ev_var rfl) | with_reducible exact ea_nil | with_reducible exact eo_none | with_reducible refine' ea_cons ?_ ?_ | with_reducible refine' eo_some ?_ | with_reducible refine' ev_and2 ?_ ?_ | with_reducible refine' ev_or2 ?_ ?_ | with_reducible refine' ev_notV ?_ | with_reducible exact ru_I | with_reducible refine' ev_un ?_ ?_ | with_reducible exact rv_I0 | with_reducible exact rv_isN | with_reducible exact rv_notN | with_reducible refine' rv_I ?_ | with_reducible refine' rv_eq ?_ | with_reducible refine' rv_ne ?_ | with_reducible refine' ev_op ?_ ?_ ?_ | with_reducible refine' ev_chain2 ?_ ?_ ?_ ?_ ?_ | with_reducible refine' et_B ?_ | with_reducible refine' et_test ?_ | with_reducible refine' et_and2 ?_ ?_ | with_reducible refine' et_or2 ?_ ?_ | with_reducible refine' et_not ?_ | with_reducible refine' ev_call ?_ ?_ | with_reducible refine' ev_callS ?_ ?_ | with_reducible refine' ev_cb ?_ ?_ | with_reducible exact isi_bool (by assumption) | with_reducible exact isi_int (by assumption) | with_reducible exact isi_list (by assumption) | with_reducible exact rc_len (by assumption) | with_reducible exact rc_sum (by assumption) | with_reducible exact rc_abs | with_reducible exact isi_listL (by assumption) | with_reducible exact isi_intI | with_reducible exact isi_boolI | with_reducible exact rc_lenT (by assumption) | with_reducible exact isi_tup (by assumption) | with_reducible exact rv_eqL (by assumption) (by assumption) | with_reducible exact rv_neL (by assumption) (by assumption) | with_reducible exact rv_neT (by assumption) (by assumption) | with_reducible exact rv_ixL (by assumption) (by assumption) | with_reducible exact rv_ixT (by assumption) (by assumption) | with_reducible refine' ev_din ?_ ?_ (by assumption) | with_reducible refine' ev_dnotin ?_ ?_ (by assumption) | with_reducible refine' ev_dget ?_ ?_ (by assumption) (by assumption) | ((with_reducible show SpV _ _ _ _); assumption) | ((with_reducible show RV _ _ _ _ _); assumption) | ((with_reducible show RC _ _ _ _); assumption) | ((with_reducible show CDiv _ _); exact ⟨by omega, by omega⟩) | ((with_reducible show CMul _ _); first | exact .inl ⟨by omega, by omega⟩ | exact .inr ⟨by omega, by omega⟩) | ((with_reducible show CPow _ _); exact ⟨by omega, by omega, by decide⟩) | ((with_reducible show (0 : Int) < _); omega) | ((with_reducible show (0 : Int) ≤ _); omega) | ((with_reducible show scal _ _ = true); rfl)))) (congrArg V.int (by omega))) fun H5 e5 => ?_
      have h5 := (e4.trans e5) _ _ h3
      have s5 : SqL K H5 l (ts.map V.int) := sq_of h5
      have gi := atI_int (ns := ts) (j := i) (by omega)
      have e35 := (e3.trans e4).trans e5
      refine s_when (b := decide (((i + 1 + d : Nat) : Int) < (n : Int)) && decide (0 ≤ ts.getD i 0 + (i : Int) - ((i + 1 + d : Nat) : Int))) (by (repeat' (first | with_reducible exact ev_c | ((with_reducible show Ev (tVar _) _ _ _); exact ev_var rfl) | with_reducible exact ea_nil | with_reducible exact eo_none | with_reducible refine' ea_cons ?_ ?_ | with_reducible refine' eo_some ?_ | with_reducible refine' ev_and2 ?_ ?_ | with_reducible refine' ev_or2 ?_ ?_ | with_reducible refine' ev_notV ?_ | with_reducible exact ru_I | with_reducible refine' ev_un ?_ ?_ | with_reducible exact rv_I0 | with_reducible exact rv_isN | with_reducible exact rv_notN | with_reducible refine' rv_I ?_ | with_reducible refine' rv_eq ?_ | with_reducible refine' rv_ne ?_ | with_reducible refine' ev_op ?_ ?_ ?_ | with_reducible refine' ev_chain2 ?_ ?_ ?_ ?_ ?_ | with_reducible refine' et_B ?_ | with_reducible refine' et_test ?_ | with_reducible refine' et_and2 ?_ ?_ | with_reducible refine' et_or2 ?_ ?_ | with_reducible refine' et_not ?_ | with_reducible refine' ev_call ?_ ?_ | with_reducible refine' ev_callS ?_ ?_ | with_reducible refine' ev_cb ?_ ?_ | with_reducible exact isi_bool (by assumption) | with_reducible exact isi_int (by assumption) | with_reducible exact isi_list (by assumption) | with_reducible exact rc_len (by assumption) | with_reducible exact rc_sum (by assumption) | with_reducible exact rc_abs | with_reducible exact isi_listL (by assumption) | with_reducible exact isi_intI | with_reducible exact isi_boolI | with_reducible exact rc_lenT (by assumption) | with_reducible exact isi_tup (by assumption) | with_reducible exact rv_eqL (by assumption) (by assumption) | with_reducible exact rv_neL (by assumption) (by assumption) | with_reducible exact rv_neT (by assumption) (by assumption) | with_reducible exact rv_ixL (by assumption) (by assumption) | with_reducible exact rv_ixT (by assumption) (by assumption) | with_reducible refine' ev_din ?_ ?_ (by assumption) | with_reducible refine' ev_dnotin ?_ ?_ (by assumption) | with_reducible refine' ev_dget ?_ ?_ (by assumption) (by assumption) | ((with_reducible show SpV _ _ _ _); assumption) | ((with_reducible show RV _ _ _ _ _); assumption) | ((with_reducible show RC _ _ _ _); assumption) | ((with_reducible show CDiv _ _); exact ⟨by omega, by omega⟩) | ((with_reducible show CMul _ _); first | exact .inl ⟨by omega, by omega⟩ | exact .inr ⟨by omega, by omega⟩) | ((with_reducible show CPow _ _); exact ⟨by omega, by omega, by decide⟩) | ((with_reducible show (0 : Int) < _); omega) | ((with_reducible show (0 : Int) ≤ _); omega) | ((with_reducible show scal _ _ = true); rfl)))) (fun hb H6 e6 => ?_) (fun hb H6 e6 => ⟨_, _, _, _, ts, rfl, e35.trans e6, e6 _ _ h5, tl, tc, fun t ht => by
        have := tb t ht
        omega⟩)
      rw [Bool.and_eq_true, decide_eq_true_iff, decide_eq_true_iff] at hb
      obtain ⟨hb1, hb2⟩ := hb
      have hj : i + 1 + d < n := by omega
      have s6 := ex_l e6 s5
      refine q_asg (v := .int (ts.getD i 0)) (by (repeat' (first | with_reducible exact ev_c | ((with_reducible show Ev (tVar _) _ _ _); exact ev_var rfl) | with_reducible exact ea_nil | with_reducible exact eo_none | with_reducible refine' ea_cons ?_ ?_ | with_reducible refine' eo_some ?_ | with_reducible refine' ev_and2 ?_ ?_ | with_reducible refine' ev_or2 ?_ ?_ | with_reducible refine' ev_notV ?_ | with_reducible exact ru_I | with_reducible refine' ev_un ?_ ?_ | with_reducible exact rv_I0 | with_reducible exact rv_isN | with_reducible exact rv_notN | with_reducible refine' rv_I ?_ | with_reducible refine' rv_eq ?_ | with_reducible refine' rv_ne ?_ | with_reducible refine' ev_op ?_ ?_ ?_ | with_reducible refine' ev_chain2 ?_ ?_ ?_ ?_ ?_ | with_reducible refine' et_B ?_ | with_reducible refine' et_test ?_ | with_reducible refine' et_and2 ?_ ?_ | with_reducible refine' et_or2 ?_ ?_ | with_reducible refine' et_not ?_ | with_reducible refine' ev_call ?_ ?_ | with_reducible refine' ev_callS ?_ ?_ | with_reducible refine' ev_cb ?_ ?_ | with_reducible exact isi_bool (by assumption) | with_reducible exact isi_int (by assumption) | with_reducible exact isi_list (by assumption) | with_reducible exact rc_len (by assumption) | with_reducible exact rc_sum (by assumption) | with_reducible exact rc_abs | with_reducible exact isi_listL (by assumption) | with_reducible exact isi_intI | with_reducible exact isi_boolI | with_reducible exact rc_lenT (by assumption) | with_reducible exact isi_tup (by assumption) | with_reducible exact rv_eqL (by assumption) (by assumption) | with_reducible exact rv_neL (by assumption) (by assumption) | with_reducible exact rv_neT (by assumption) (by assumption) | with_reducible exact rv_ixL (by assumption) (by assumption) | with_reducible exact rv_ixT (by assumption) (by assumption) | with_reducible refine' ev_din ?_ ?_ (by assumption) | with_reducible refine' ev_dnotin ?_ ?_ (by assumption) | with_reducible refine' ev_dget ?_ ?_ (by assumption) (by assumption) | ((with_reducible show SpV _ _ _ _); assumption) | ((with_reducible show RV _ _ _ _ _); assumption) | ((with_reducible show RC _ _ _ _); assumption) | ((with_reducible show CDiv _ _); exact ⟨by omega, by omega⟩) | ((with_reducible show CMul _ _); first | exact .inl ⟨by omega, by omega⟩ | exact .inr ⟨by omega, by omega⟩) | ((with_reducible show CPow _ _); exact ⟨by omega, by omega, by decide⟩) | ((with_reducible show (0 : Int) < _); omega) | ((with_reducible show (0 : Int) ≤ _); omega) | ((with_reducible show scal _ _ = true); rfl)))) fun H7 e7 => ?_
      have h7 := (e6.trans e7) _ _ h5
      have s7 := ex_l e7 s6
      have gj := atI_int (ns := ts) (j := i + 1 + d) (by omega)
      have w1 : ts.getD (i + 1 + d) 0 + ((i + 1 + d : Nat) : Int) - (i : Int) = ((i + 1 + d : Nat) : Int) + ts.getD (i + 1 + d) 0 - (i : Int) := by omega
      have w2 : ts.getD i 0 + (i : Int) - ((i + 1 + d : Nat) : Int) = (i : Int) + ts.getD i 0 - ((i + 1 + d : Nat) : Int) := by omega
      refine q_setL (j := i) (v := .int (((i + 1 + d : Nat) : Int) + ts.getD (i + 1 + d) 0 - (i : Int))) h7 (ev_is (v := .int (ts.getD (i + 1 + d) 0 + ((i + 1 + d : Nat) : Int) - (i : Int))) (by (repeat' (first | with_reducible exact ev_c | ((with_reducible show Ev (tVar _) _ _ _); exact ev_var rfl) | with_reducible exact ea_nil | with_reducible exact eo_none | with_reducible refine' ea_cons ?_ ?_ | with_reducible refine' eo_some ?_ | with_reducible refine' ev_and2 ?_ ?_ | with_reducible refine' ev_or2 ?_ ?_ | with_reducible refine' ev_notV ?_ | with_reducible exact ru_I | with_reducible refine' ev_un ?_ ?_ | with_reducible exact rv_I0 | with_reducible exact rv_isN | with_reducible exact rv_notN | with_reducible refine' rv_I ?_ | with_reducible refine' rv_eq ?_ | with_reducible refine' rv_ne ?_ | with_reducible refine' ev_op ?_ ?_ ?_ | with_reducible refine' ev_chain2 ?_ ?_ ?_ ?_ ?_ | with_reducible refine' et_B ?_ | with_reducible refine' et_test ?_ | with_reducible refine' et_and2 ?_ ?_ | with_reducible refine' et_or2 ?_ ?_ | with_reducible refine' et_not ?_ | with_reducible refine' ev_call ?_ ?_ | with_reducible refine' ev_callS ?_ ?_ | with_reducible refine' ev_cb ?_ ?_ | with_reducible exact isi_bool (by assumption) | with_reducible exact isi_int (by assumption) | with_reducible exact isi_list (by assumption) | with_reducible exact rc_len (by assumption) | with_reducible exact rc_sum (by assumption) | with_reducible exact rc_abs | with_reducible exact isi_listL (by assumption) | with_reducible exact isi_intI | with_reducible exact isi_boolI | with_reducible exact rc_lenT (by assumption) | with_reducible exact isi_tup (by assumption) | with_reducible exact rv_eqL (by assumption) (by assumption) | with_reducible exact rv_neL (by assumption) (by assumption) | with_reducible exact rv_neT (by assumption) (by assumption) | with_reducible exact rv_ixL (by assumption) (by assumption) | with_reducible exact rv_ixT (by assumption) (by assumption) | with_reducible refine' ev_din ?_ ?_ (by assumption) | with_reducible refine' ev_dnotin ?_ ?_ (by assumption) | with_reducible refine' ev_dget ?_ ?_ (by assumption) (by assumption) | ((with_reducible show SpV _ _ _ _); assumption) | ((with_reducible show RV _ _ _ _ _); assumption) | ((with_reducible show RC _ _ _ _); assumption) | ((with_reducible show CDiv _ _); exact ⟨by omega, by omega⟩) | ((with_reducible show CMul _ _); first | exact .inl ⟨by omega, by omega⟩ | exact .inr ⟨by omega, by omega⟩) | ((with_reducible show CPow _ _); exact ⟨by omega, by omega, by decide⟩) | ((with_reducible show (0 : Int) < _); omega) | ((with_reducible show (0 : Int) ≤ _); omega) | ((with_reducible show scal _ _ = true); rfl)))) (congrArg V.int w1)) (by (repeat' (first | with_reducible exact ev_c | ((with_reducible show Ev (tVar _) _ _ _); exact ev_var rfl) | with_reducible exact ea_nil | with_reducible exact eo_none | with_reducible refine' ea_cons ?_ ?_ | with_reducible refine' eo_some ?_ | with_reducible refine' ev_and2 ?_ ?_ | with_reducible refine' ev_or2 ?_ ?_ | with_reducible refine' ev_notV ?_ | with_reducible exact ru_I | with_reducible refine' ev_un ?_ ?_ | with_reducible exact rv_I0 | with_reducible exact rv_isN | with_reducible exact rv_notN | with_reducible refine' rv_I ?_ | with_reducible refine' rv_eq ?_ | with_reducible refine' rv_ne ?_ | with_reducible refine' ev_op ?_ ?_ ?_ | with_reducible refine' ev_chain2 ?_ ?_ ?_ ?_ ?_ | with_reducible refine' et_B ?_ | with_reducible refine' et_test ?_ | with_reducible refine' et_and2 ?_ ?_ | with_reducible refine' et_or2 ?_ ?_ | with_reducible refine' et_not ?_ | with_reducible refine' ev_call ?_ ?_ | with_reducible refine' ev_callS ?_ ?_ | with_reducible refine' ev_cb ?_ ?_ | with_reducible exact isi_bool (by assumption) | with_reducible exact isi_int (by assumption) | with_reducible exact isi_list (by assumption) | with_reducible exact rc_len (by assumption) | with_reducible exact rc_sum (by assumption) | with_reducible exact rc_abs | with_reducible exact isi_listL (by assumption) | with_reducible exact isi_intI | with_reducible exact isi_boolI | with_reducible exact rc_lenT (by assumption) | with_reducible exact isi_tup (by assumption) | with_reducible exact rv_eqL (by assumption) (by assumption) | with_reducible exact rv_neL (by assumption) (by assumption) | with_reducible exact rv_neT (by assumption) (by assumption) | with_reducible exact rv_ixL (by assumption) (by assumption) | with_reducible exact rv_ixT (by assumption) (by assumption) | with_reducible refine' ev_din ?_ ?_ (by assumption) | with_reducible refine' ev_dnotin ?_ ?_ (by assumption) | with_reducible refine' ev_dget ?_ ?_ (by assumption) (by assumption) | ((with_reducible show SpV _ _ _ _); assumption) | ((with_reducible show RV _ _ _ _ _); assumption) | ((with_reducible show RC _ _ _ _); assumption) | ((with_reducible show CDiv _ _); exact ⟨by omega, by omega⟩) | ((with_reducible show CMul _ _); first | exact .inl ⟨by omega, by omega⟩ | exact .inr ⟨by omega, by omega⟩) | ((with_reducible show CPow _ _); exact ⟨by omega, by omega, by decide⟩) | ((with_reducible show (0 : Int) < _); omega) | ((with_reducible show (0 : Int) ≤ _); omega) | ((with_reducible show scal _ _ = true); rfl)))) (by (repeat' (first | with_reducible exact ev_c | ((with_reducible show Ev (tVar _) _ _ _); exact ev_var rfl) | with_reducible exact ea_nil | with_reducible exact eo_none | with_reducible refine' ea_cons ?_ ?_ | with_reducible refine' eo_some ?_ | with_reducible refine' ev_and2 ?_ ?_ | with_reducible refine' ev_or2 ?_ ?_ | with_reducible refine' ev_notV ?_ | with_reducible exact ru_I | with_reducible refine' ev_un ?_ ?_ | with_reducible exact rv_I0 | with_reducible exact rv_isN | with_reducible exact rv_notN | with_reducible refine' rv_I ?_ | with_reducible refine' rv_eq ?_ | with_reducible refine' rv_ne ?_ | with_reducible refine' ev_op ?_ ?_ ?_ | with_reducible refine' ev_chain2 ?_ ?_ ?_ ?_ ?_ | with_reducible refine' et_B ?_ | with_reducible refine' et_test ?_ | with_reducible refine' et_and2 ?_ ?_ | with_reducible refine' et_or2 ?_ ?_ | with_reducible refine' et_not ?_ | with_reducible refine' ev_call ?_ ?_ | with_reducible refine' ev_callS ?_ ?_ | with_reducible refine' ev_cb ?_ ?_ | with_reducible exact isi_bool (by assumption) | with_reducible exact isi_int (by assumption) | with_reducible exact isi_list (by assumption) | with_reducible exact rc_len (by assumption) | with_reducible exact rc_sum (by assumption) | with_reducible exact rc_abs | with_reducible exact isi_listL (by assumption) | with_reducible exact isi_intI | with_reducible exact isi_boolI | with_reducible exact rc_lenT (by assumption) | with_reducible exact isi_tup (by assumption) | with_reducible exact rv_eqL (by assumption) (by assumption) | with_reducible exact rv_neL (by assumption) (by assumption) | with_reducible exact rv_neT (by assumption) (by assumption) | with_reducible exact rv_ixL (by assumption) (by assumption) | with_reducible exact rv_ixT (by assumption) (by assumption) | with_reducible refine' ev_din ?_ ?_ (by assumption) | with_reducible refine' ev_dnotin ?_ ?_ (by assumption) | with_reducible refine' ev_dget ?_ ?_ (by assumption) (by assumption) | ((with_reducible show SpV _ _ _ _); assumption) | ((with_reducible show RV _ _ _ _ _); assumption) | ((with_reducible show RC _ _ _ _); assumption) | ((with_reducible show CDiv _ _); exact ⟨by omega, by omega⟩) | ((with_reducible show CMul _ _); first | exact .inl ⟨by omega, by omega⟩ | exact .inr ⟨by omega, by omega⟩) | ((with_reducible show CPow _ _); exact ⟨by omega, by omega, by decide⟩) | ((with_reducible show (0 : Int) < _); omega) | ((with_reducible show (0 : Int) ≤ _); omega) | ((with_reducible show scal _ _ = true); rfl)))) (by rw [List.length_map]; omega) fun H8 e8 => ?_
      refine s_setL (j := i + 1 + d) (xs := (ts.set i (((i + 1 + d : Nat) : Int) + ts.getD (i + 1 + d) 0 - (i : Int))).map V.int) (v := .int ((i : Int) + ts.getD i 0 - ((i + 1 + d : Nat) : Int))) (by rw [upd_same, List.map_set]) (ev_is (v := .int (ts.getD i 0 + (i : Int) - ((i + 1 + d : Nat) : Int))) (by (repeat' (first | with_reducible exact ev_c | ((with_reducible show Ev (tVar _) _ _ _); exact ev_var rfl) | with_reducible exact ea_nil | with_reducible exact eo_none | with_reducible refine' ea_cons ?_ ?_ | with_reducible refine' eo_some ?_ | with_reducible refine' ev_and2 ?_ ?_ | with_reducible refine' ev_or2 ?_ ?_ | with_reducible refine' ev_notV ?_ | with_reducible exact ru_I | with_reducible refine' ev_un ?_ ?_ | with_reducible exact rv_I0 | with_reducible exact rv_isN | with_reducible exact rv_notN | with_reducible refine' rv_I ?_ | with_reducible refine' rv_eq ?_ | with_reducible refine' rv_ne ?_ | with_reducible refine' ev_op ?_ ?_ ?_ | with_reducible refine' ev_chain2 ?_ ?_ ?_ ?_ ?_ | with_reducible refine' et_B ?_ | with_reducible refine' et_test ?_ | with_reducible refine' et_and2 ?_ ?_ | with_reducible refine' et_or2 ?_ ?_ | with_reducible refine' et_not ?_ | with_reducible refine' ev_call ?_ ?_ | with_reducible refine' ev_callS ?_ ?_ | with_reducible refine' ev_cb ?_ ?_ | with_reducible exact isi_bool (by assumption) | with_reducible exact isi_int (by assumption) | with_reducible exact isi_list (by assumption) | with_reducible exact rc_len (by assumption) | with_reducible exact rc_sum (by assumption) | with_reducible exact rc_abs | with_reducible exact isi_listL (by assumption) | with_reducible exact isi_intI | with_reducible exact isi_boolI | with_reducible exact rc_lenT (by assumption) | with_reducible exact isi_tup (by assumption) | with_reducible exact rv_eqL (by assumption) (by assumption) | with_reducible exact rv_neL (by assumption) (by assumption) | with_reducible exact rv_neT (by assumption) (by assumption) | with_reducible exact rv_ixL (by assumption) (by assumption) | with_reducible exact rv_ixT (by assumption) (by assumption) | with_reducible refine' ev_din ?_ ?_ (by assumption) | with_reducible refine' ev_dnotin ?_ ?_ (by assumption) | with_reducible refine' ev_dget ?_ ?_ (by assumption) (by assumption) | ((with_reducible show SpV _ _ _ _); assumption) | ((with_reducible show RV _ _ _ _ _); assumption) | ((with_reducible show RC _ _ _ _); assumption) | ((with_reducible show CDiv _ _); exact ⟨by omega, by omega⟩) | ((with_reducible show CMul _ _); first | exact .inl ⟨by omega, by omega⟩ | exact .inr ⟨by omega, by omega⟩) | ((with_reducible show CPow _ _); exact ⟨by omega, by omega, by decide⟩) | ((with_reducible show (0 : Int) < _); omega) | ((with_reducible show (0 : Int) ≤ _); omega) | ((with_reducible show scal _ _ = true); rfl)))) (congrArg V.int w2)) (by (repeat' (first | with_reducible exact ev_c | ((with_reducible show Ev (tVar _) _ _ _); exact ev_var rfl) | with_reducible exact ea_nil | with_reducible exact eo_none | with_reducible refine' ea_cons ?_ ?_ | with_reducible refine' eo_some ?_ | with_reducible refine' ev_and2 ?_ ?_ | with_reducible refine' ev_or2 ?_ ?_ | with_reducible refine' ev_notV ?_ | with_reducible exact ru_I | with_reducible refine' ev_un ?_ ?_ | with_reducible exact rv_I0 | with_reducible exact rv_isN | with_reducible exact rv_notN | with_reducible refine' rv_I ?_ | with_reducible refine' rv_eq ?_ | with_reducible refine' rv_ne ?_ | with_reducible refine' ev_op ?_ ?_ ?_ | with_reducible refine' ev_chain2 ?_ ?_ ?_ ?_ ?_ | with_reducible refine' et_B ?_ | with_reducible refine' et_test ?_ | with_reducible refine' et_and2 ?_ ?_ | with_reducible refine' et_or2 ?_ ?_ | with_reducible refine' et_not ?_ | with_reducible refine' ev_call ?_ ?_ | with_reducible refine' ev_callS ?_ ?_ | with_reducible refine' ev_cb ?_ ?_ | with_reducible exact isi_bool (by assumption) | with_reducible exact isi_int (by assumption) | with_reducible exact isi_list (by assumption) | with_reducible exact rc_len (by assumption) | with_reducible exact rc_sum (by assumption) | with_reducible exact rc_abs | with_reducible exact isi_listL (by assumption) | with_reducible exact isi_intI | with_reducible exact isi_boolI | with_reducible exact rc_lenT (by assumption) | with_reducible exact isi_tup (by assumption) | with_reducible exact rv_eqL (by assumption) (by assumption) | with_reducible exact rv_neL (by assumption) (by assumption) | with_reducible exact rv_neT (by assumption) (by assumption) | with_reducible exact rv_ixL (by assumption) (by assumption) | with_reducible exact rv_ixT (by assumption) (by assumption) | with_reducible refine' ev_din ?_ ?_ (by assumption) | with_reducible refine' ev_dnotin ?_ ?_ (by assumption) | with_reducible refine' ev_dget ?_ ?_ (by assumption) (by assumption) | ((with_reducible show SpV _ _ _ _); assumption) | ((with_reducible show RV _ _ _ _ _); assumption) | ((with_reducible show RC _ _ _ _); assumption) | ((with_reducible show CDiv _ _); exact ⟨by omega, by omega⟩) | ((with_reducible show CMul _ _); first | exact .inl ⟨by omega, by omega⟩ | exact .inr ⟨by omega, by omega⟩) | ((with_reducible show CPow _ _); exact ⟨by omega, by omega, by decide⟩) | ((with_reducible show (0 : Int) < _); omega) | ((with_reducible show (0 : Int) ≤ _); omega) | ((with_reducible show scal _ _ = true); rfl)))) (by (repeat' (first | with_reducible exact ev_c | ((with_reducible show Ev (tVar _) _ _ _); exact ev_var rfl) | with_reducible exact ea_nil | with_reducible exact eo_none | with_reducible refine' ea_cons ?_ ?_ | with_reducible refine' eo_some ?_ | with_reducible refine' ev_and2 ?_ ?_ | with_reducible refine' ev_or2 ?_ ?_ | with_reducible refine' ev_notV ?_ | with_reducible exact ru_I | with_reducible refine' ev_un ?_ ?_ | with_reducible exact rv_I0 | with_reducible exact rv_isN | with_reducible exact rv_notN | with_reducible refine' rv_I ?_ | with_reducible refine' rv_eq ?_ | with_reducible refine' rv_ne ?_ | with_reducible refine' ev_op ?_ ?_ ?_ | with_reducible refine' ev_chain2 ?_ ?_ ?_ ?_ ?_ | with_reducible refine' et_B ?_ | with_reducible refine' et_test ?_ | with_reducible refine' et_and2 ?_ ?_ | with_reducible refine' et_or2 ?_ ?_ | with_reducible refine' et_not ?_ | with_reducible refine' ev_call ?_ ?_ | with_reducible refine' ev_callS ?_ ?_ | with_reducible refine' ev_cb ?_ ?_ | with_reducible exact isi_bool (by assumption) | with_reducible exact isi_int (by assumption) | with_reducible exact isi_list (by assumption) | with_reducible exact rc_len (by assumption) | with_reducible exact rc_sum (by assumption) | with_reducible exact rc_abs | with_reducible exact isi_listL (by assumption) | with_reducible exact isi_intI | with_reducible exact isi_boolI | with_reducible exact rc_lenT (by assumption) | with_reducible exact isi_tup (by assumption) | with_reducible exact rv_eqL (by assumption) (by assumption) | with_reducible exact rv_neL (by assumption) (by assumption) | with_reducible exact rv_neT (by assumption) (by assumption) | with_reducible exact rv_ixL (by assumption) (by assumption) | with_reducible exact rv_ixT (by assumption) (by assumption) | with_reducible refine' ev_din ?_ ?_ (by assumption) | with_reducible refine' ev_dnotin ?_ ?_ (by assumption) | with_reducible refine' ev_dget ?_ ?_ (by assumption) (by assumption) | ((with_reducible show SpV _ _ _ _); assumption) | ((with_reducible show RV _ _ _ _ _); assumption) | ((with_reducible show RC _ _ _ _); assumption) | ((with_reducible show CDiv _ _); exact ⟨by omega, by omega⟩) | ((with_reducible show CMul _ _); first | exact .inl ⟨by omega, by omega⟩ | exact .inr ⟨by omega, by omega⟩) | ((with_reducible show CPow _ _); exact ⟨by omega, by omega, by decide⟩) | ((with_reducible show (0 : Int) < _); omega) | ((with_reducible show (0 : Int) ≤ _); omega) | ((with_reducible show scal _ _ = true); rfl)))) (by rw [List.length_map, List.length_set]; omega) fun H9 e9 => ?_
      have hlH : H l = none := hl
      refine ⟨_, _, _, _, swapI ts i ((i + 1 + d : Nat) : Int) (i + 1 + d), rfl, Ex.mut ((Ex.mut (((e35.trans e6).trans e7).trans e8) hlH).trans e9) hlH, ?_, by rw [swap_len, tl], swap_clash (by omega) (by omega) (Int.emod_eq_of_lt (by omega) (by omega)) tc, fun t ht => ?_⟩
      · rw [upd_same, ← List.map_set]
        rfl
      · have bi := tb _ (getD_mem (show i < ts.length by omega))
        have bj := tb _ (getD_mem (show i + 1 + d < ts.length by omega))
        unfold swapI at ht
        rcases List.mem_or_eq_of_mem_set ht with m | m
        · rcases List.mem_or_eq_of_mem_set m with m2 | m2
          · have := tb t m2
            omega
          · omega
        · omega
    · rintro σ' H' ⟨y3, y4, y5, y6, ts, rfl, e3, h3, tl, tc, tb⟩
      have tb60 : ∀ t ∈ ts, 0 ≤ t ∧ t ≤ 60 := fun t ht => by
        have := tb t ht
        omega
      exact s_ret (v := .ref l) (by (repeat' (first | with_reducible exact ev_c | ((with_reducible show Ev (tVar _) _ _ _); exact ev_var rfl) | with_reducible exact ea_nil | with_reducible exact eo_none | with_reducible refine' ea_cons ?_ ?_ | with_reducible refine' eo_some ?_ | with_reducible refine' ev_and2 ?_ ?_ | with_reducible refine' ev_or2 ?_ ?_ | with_reducible refine' ev_notV ?_ | with_reducible exact ru_I | with_reducible refine' ev_un ?_ ?_ | with_reducible exact rv_I0 | with_reducible exact rv_isN | with_reducible exact rv_notN | with_reducible refine' rv_I ?_ | with_reducible refine' rv_eq ?_ | with_reducible refine' rv_ne ?_ | with_reducible refine' ev_op ?_ ?_ ?_ | with_reducible refine' ev_chain2 ?_ ?_ ?_ ?_ ?_ | with_reducible refine' et_B ?_ | with_reducible refine' et_test ?_ | with_reducible refine' et_and2 ?_ ?_ | with_reducible refine' et_or2 ?_ ?_ | with_reducible refine' et_not ?_ | with_reducible refine' ev_call ?_ ?_ | with_reducible refine' ev_callS ?_ ?_ | with_reducible refine' ev_cb ?_ ?_ | with_reducible exact isi_bool (by assumption) | with_reducible exact isi_int (by assumption) | with_reducible exact isi_list (by assumption) | with_reducible exact rc_len (by assumption) | with_reducible exact rc_sum (by assumption) | with_reducible exact rc_abs | with_reducible exact isi_listL (by assumption) | with_reducible exact isi_intI | with_reducible exact isi_boolI | with_reducible exact rc_lenT (by assumption) | with_reducible exact isi_tup (by assumption) | with_reducible exact rv_eqL (by assumption) (by assumption) | with_reducible exact rv_neL (by assumption) (by assumption) | with_reducible exact rv_neT (by assumption) (by assumption) | with_reducible exact rv_ixL (by assumption) (by assumption) | with_reducible exact rv_ixT (by assumption) (by assumption) | with_reducible refine' ev_din ?_ ?_ (by assumption) | with_reducible refine' ev_dnotin ?_ ?_ (by assumption) | with_reducible refine' ev_dget ?_ ?_ (by assumption) (by assumption) | ((with_reducible show SpV _ _ _ _); assumption) | ((with_reducible show RV _ _ _ _ _); assumption) | ((with_reducible show RC _ _ _ _); assumption) | ((with_reducible show CDiv _ _); exact ⟨by omega, by omega⟩) | ((with_reducible show CMul _ _); first | exact .inl ⟨by omega, by omega⟩ | exact .inr ⟨by omega, by omega⟩) | ((with_reducible show CPow _ _); exact ⟨by omega, by omega, by decide⟩) | ((with_reducible show (0 : Int) < _); omega) | ((with_reducible show (0 : Int) ≤ _); omega) | ((with_reducible show scal _ _ = true); rfl)))) fun H4 e4 => q ts tl ⟨⟨by omega, by omega, fun t ht => by
        have := tb60 t ht
        omega⟩, tc, tb60⟩ l H4 hl (e3.trans e4) (e4 _ _ h3)

def sp_led : Sp := fun vs H Q E => ∃ (ns : List Int) (b p : Int), vs = [.int (st ns b), .int p] ∧ Plain ns ∧ p = Pt ns b ∧ RetV (.int (st ns (b + 1))) H Q
theorem sc__law_led : FnScope ["_law_state", "_law_throw"] ["_law_state", "_law_throw"] (defScope s__law_led) := ⟨rfl, rfl, rfl, by decide +kernel, rfl, by decide +kernel, by decide +kernel⟩
theorem ok__law_led {P : Program} {w : World} {K : PySem.W.Frag} {mg : Str → Option Value} {base : Heap} (T : TXT K mg) : OK P w K mg base "_law_led" ["_law_state", "_law_throw"] 1 (sp_led) := by
  obtain ⟨fd, F⟩ := T.def_ 15
  refine ⟨_, fd, T.glo 14, F.kp, F.bindsN (fun _ _ _ _ _ _ us hl => match us, hl with | [_, _], _ => rfl), F.ok sc__law_led (fun vs H Q E h => ?_) (fun cdv A outer s H vs Q E hr h => ?_), F.bindsA (fun _ _ _ _ _ _ us hl => match us, hl with | [_, _], _ => rfl)⟩
  · first | (obtain ⟨rfl, _⟩ := h; rfl) | (obtain ⟨_, rfl, _⟩ := h; rfl) | (obtain ⟨_, _, rfl, _⟩ := h; rfl) | (obtain ⟨_, _, _, rfl, _⟩ := h; rfl) | (obtain ⟨_, _, _, _, rfl, _⟩ := h; rfl) | (obtain ⟨_, _, _, _, _, rfl, _⟩ := h; rfl) | (obtain ⟨_, _, _, _, _, _, rfl, _⟩ := h; rfl) | (obtain ⟨_, _, _, _, _, _, _, rfl, _⟩ := h; rfl) | (obtain ⟨_, _, _, _, _, _, _, _, rfl, _⟩ := h; rfl)
  · replace F : FunD K "_law_led" "_law_led" (defArgs s__law_led) (defBody s__law_led) (defScope s__law_led) [] [] (He.ga K "_law_led") fd := F
    refine ⟨_, (pss_cons (ps_if (PW.pt (pw_or (pt_not (pt_val (pe_callB (id := "isinstance") (k_isi K) (by rfl) (T.free 27) (by decide +kernel) (pa_cons (pv 1) (pa_cons (pe_ty (T := "int") (T.free 26) (by decide +kernel)) pa_nil))))) (pw_or (pt_val (pe_callB (id := "isinstance") (k_isi K) (by rfl) (T.free 27) (by decide +kernel) (pa_cons (pv 1) (pa_cons (pe_ty (T := "bool") (T.free 25) (by decide +kernel)) pa_nil)))) (pw_or1 (pt_not (pt_chain op_le op_le pe_int (pv 1) pe_int))))))
        (pss_one (ps_ret (pe_un un_neg pe_int)))
        pss_nil)
      (pss_cons (ps_if (pt_cmpR op_eq (pv 1) pe_int (nomark _))
        (pss_one (ps_ret (pe_ifExp (pt_cmpR op_eq (pe_op op_and (pv 0) pe_int) pe_int (nomark _)) (pe_op op_shr (pv 0) pe_int) (pe_un un_neg pe_int))))
        pss_nil)
      (pss_cons (ps_if (PW.pt (pw_or (pt_cmpR op_eq (pe_op op_and (pv 0) pe_int) pe_int (nomark _)) (pw_or1 (pt_cmpR op_eq (pe_op op_and (pe_op op_shr (pv 0) (pv 1)) pe_int) pe_int (nomark _)))))
        (pss_one (ps_ret (pe_un un_neg pe_int)))
        pss_nil)
      (pss_one (ps_ret (pe_op op_add (pe_op op_shr (pv 0) pe_int) (pe_op op_shl pe_int (pe_op op_sub (pv 1) pe_int)))))))), ?_⟩
    obtain ⟨ns, b, p, rfl, pl, hp, q⟩ := h
    dsimp only [cxOf, L2.start, List.map_cons, List.map_nil, List.length_cons, List.length_nil, Nat.reduceAdd, Nat.reduceSub, List.replicate_succ, List.replicate_zero, List.cons_append, List.nil_append, Nat.zero_add, List.reduceReplicate, List.map]
    have pb := pt_b pl b
    have so := st_odd pl b
    have sl := st_land pl b
    have sn := st_next pl b
    rw [← hp] at pb so sl sn
    rw [sn] at q
    have s0 := (st_is (ns := ns) b).1
    generalize st ns b = s at *
    have bi : ∀ {H9 : Hp}, RC (rIsi K) [.int p, .ty "int"] H9 (.bl true) := fun {_} => isi_intI
    refine q_when (b := !true || (false || !(decide ((0 : Int) ≤ p) && decide (p ≤ 60)))) (by (repeat' (first | with_reducible exact ev_c | ((with_reducible show Ev (tVar _) _ _ _); exact ev_var rfl) | with_reducible exact ea_nil | with_reducible exact eo_none | with_reducible refine' ea_cons ?_ ?_ | with_reducible refine' eo_some ?_ | with_reducible refine' ev_and2 ?_ ?_ | with_reducible refine' ev_or2 ?_ ?_ | with_reducible refine' ev_notV ?_ | with_reducible exact ru_I | with_reducible refine' ev_un ?_ ?_ | with_reducible exact rv_I0 | with_reducible exact rv_isN | with_reducible exact rv_notN | with_reducible refine' rv_I ?_ | with_reducible refine' rv_eq ?_ | with_reducible refine' rv_ne ?_ | with_reducible refine' ev_op ?_ ?_ ?_ | with_reducible refine' ev_chain2 ?_ ?_ ?_ ?_ ?_ | with_reducible refine' et_B ?_ | with_reducible refine' et_test ?_ | with_reducible refine' et_and2 ?_ ?_ | with_reducible refine' et_or2 ?_ ?_ | with_reducible refine' et_not ?_ | with_reducible refine' ev_call ?_ ?_ | with_reducible refine' ev_callS ?_ ?_ | with_reducible refine' ev_cb ?_ ?_ | with_reducible exact isi_bool (by assumption) | with_reducible exact isi_int (by assumption) | with_reducible exact isi_list (by assumption) | with_reducible exact rc_len (by assumption) | with_reducible exact rc_sum (by assumption) | with_reducible exact rc_abs | with_reducible exact isi_listL (by assumption) | with_reducible exact isi_intI | with_reducible exact isi_boolI | with_reducible exact rc_lenT (by assumption) | with_reducible exact isi_tup (by assumption) | with_reducible exact rv_eqL (by assumption) (by assumption) | with_reducible exact rv_neL (by assumption) (by assumption) | with_reducible exact rv_neT (by assumption) (by assumption) | with_reducible exact rv_ixL (by assumption) (by assumption) | with_reducible exact rv_ixT (by assumption) (by assumption) | with_reducible refine' ev_din ?_ ?_ (by assumption) | with_reducible refine' ev_dnotin ?_ ?_ (by assumption) | with_reducible refine' ev_dget ?_ ?_ (by assumption) (by assumption) | ((with_reducible show SpV _ _ _ _); assumption) | ((with_reducible show RV _ _ _ _ _); assumption) | ((with_reducible show RC _ _ _ _); assumption) | ((with_reducible show CDiv _ _); exact ⟨by omega, by omega⟩) | ((with_reducible show CMul _ _); first | exact .inl ⟨by omega, by omega⟩ | exact .inr ⟨by omega, by omega⟩) | ((with_reducible show CPow _ _); exact ⟨by omega, by omega, by decide⟩) | ((with_reducible show (0 : Int) < _); omega) | ((with_reducible show (0 : Int) ≤ _); omega) | ((with_reducible show scal _ _ = true); rfl)))) (fun h => by
      rw [decide_eq_true pb.1, decide_eq_true pb.2] at h
      simp at h) (fun _ H0 e0 => ?_)
    have q := RetV.mono e0 q
    refine q_when (b := decide (p = 0)) ?_ (fun hb H1 e1 => ?_) (fun hb H1 e1 => ?_)
    · apply et_is
      · (repeat' (first | with_reducible exact ev_c | ((with_reducible show Ev (tVar _) _ _ _); exact ev_var rfl) | with_reducible exact ea_nil | with_reducible exact eo_none | with_reducible refine' ea_cons ?_ ?_ | with_reducible refine' eo_some ?_ | with_reducible refine' ev_and2 ?_ ?_ | with_reducible refine' ev_or2 ?_ ?_ | with_reducible refine' ev_notV ?_ | with_reducible exact ru_I | with_reducible refine' ev_un ?_ ?_ | with_reducible exact rv_I0 | with_reducible exact rv_isN | with_reducible exact rv_notN | with_reducible refine' rv_I ?_ | with_reducible refine' rv_eq ?_ | with_reducible refine' rv_ne ?_ | with_reducible refine' ev_op ?_ ?_ ?_ | with_reducible refine' ev_chain2 ?_ ?_ ?_ ?_ ?_ | with_reducible refine' et_B ?_ | with_reducible refine' et_test ?_ | with_reducible refine' et_and2 ?_ ?_ | with_reducible refine' et_or2 ?_ ?_ | with_reducible refine' et_not ?_ | with_reducible refine' ev_call ?_ ?_ | with_reducible refine' ev_callS ?_ ?_ | with_reducible refine' ev_cb ?_ ?_ | with_reducible exact isi_bool (by assumption) | with_reducible exact isi_int (by assumption) | with_reducible exact isi_list (by assumption) | with_reducible exact rc_len (by assumption) | with_reducible exact rc_sum (by assumption) | with_reducible exact rc_abs | with_reducible exact isi_listL (by assumption) | with_reducible exact isi_intI | with_reducible exact isi_boolI | with_reducible exact rc_lenT (by assumption) | with_reducible exact isi_tup (by assumption) | with_reducible exact rv_eqL (by assumption) (by assumption) | with_reducible exact rv_neL (by assumption) (by assumption) | with_reducible exact rv_neT (by assumption) (by assumption) | with_reducible exact rv_ixL (by assumption) (by assumption) | with_reducible exact rv_ixT (by assumption) (by assumption) | with_reducible refine' ev_din ?_ ?_ (by assumption) | with_reducible refine' ev_dnotin ?_ ?_ (by assumption) | with_reducible refine' ev_dget ?_ ?_ (by assumption) (by assumption) | ((with_reducible show SpV _ _ _ _); assumption) | ((with_reducible show RV _ _ _ _ _); assumption) | ((with_reducible show RC _ _ _ _); assumption) | ((with_reducible show CDiv _ _); exact ⟨by omega, by omega⟩) | ((with_reducible show CMul _ _); first | exact .inl ⟨by omega, by omega⟩ | exact .inr ⟨by omega, by omega⟩) | ((with_reducible show CPow _ _); exact ⟨by omega, by omega, by decide⟩) | ((with_reducible show (0 : Int) < _); omega) | ((with_reducible show (0 : Int) ≤ _); omega) | ((with_reducible show scal _ _ = true); rfl)))
      · exact dec_int.trans (by rw [Bool.eq_iff_iff]; simp)
    · have hb := of_decide_eq_true hb
      subst hb
      rw [if_neg (by decide)] at so q
      refine s_ret (v := .int (s / 2 + 0)) (ev_ifE (b := decide (s % 2 = 0)) ?_ (fun _ => ev_is (v := .int (s / 2 ^ (1 : Int).toNat)) (by (repeat' (first | with_reducible exact ev_c | ((with_reducible show Ev (tVar _) _ _ _); exact ev_var rfl) | with_reducible exact ea_nil | with_reducible exact eo_none | with_reducible refine' ea_cons ?_ ?_ | with_reducible refine' eo_some ?_ | with_reducible refine' ev_and2 ?_ ?_ | with_reducible refine' ev_or2 ?_ ?_ | with_reducible refine' ev_notV ?_ | with_reducible exact ru_I | with_reducible refine' ev_un ?_ ?_ | with_reducible exact rv_I0 | with_reducible exact rv_isN | with_reducible exact rv_notN | with_reducible refine' rv_I ?_ | with_reducible refine' rv_eq ?_ | with_reducible refine' rv_ne ?_ | with_reducible refine' ev_op ?_ ?_ ?_ | with_reducible refine' ev_chain2 ?_ ?_ ?_ ?_ ?_ | with_reducible refine' et_B ?_ | with_reducible refine' et_test ?_ | with_reducible refine' et_and2 ?_ ?_ | with_reducible refine' et_or2 ?_ ?_ | with_reducible refine' et_not ?_ | with_reducible refine' ev_call ?_ ?_ | with_reducible refine' ev_callS ?_ ?_ | with_reducible refine' ev_cb ?_ ?_ | with_reducible exact isi_bool (by assumption) | with_reducible exact isi_int (by assumption) | with_reducible exact isi_list (by assumption) | with_reducible exact rc_len (by assumption) | with_reducible exact rc_sum (by assumption) | with_reducible exact rc_abs | with_reducible exact isi_listL (by assumption) | with_reducible exact isi_intI | with_reducible exact isi_boolI | with_reducible exact rc_lenT (by assumption) | with_reducible exact isi_tup (by assumption) | with_reducible exact rv_eqL (by assumption) (by assumption) | with_reducible exact rv_neL (by assumption) (by assumption) | with_reducible exact rv_neT (by assumption) (by assumption) | with_reducible exact rv_ixL (by assumption) (by assumption) | with_reducible exact rv_ixT (by assumption) (by assumption) | with_reducible refine' ev_din ?_ ?_ (by assumption) | with_reducible refine' ev_dnotin ?_ ?_ (by assumption) | with_reducible refine' ev_dget ?_ ?_ (by assumption) (by assumption) | ((with_reducible show SpV _ _ _ _); assumption) | ((with_reducible show RV _ _ _ _ _); assumption) | ((with_reducible show RC _ _ _ _); assumption) | ((with_reducible show CDiv _ _); exact ⟨by omega, by omega⟩) | ((with_reducible show CMul _ _); first | exact .inl ⟨by omega, by omega⟩ | exact .inr ⟨by omega, by omega⟩) | ((with_reducible show CPow _ _); exact ⟨by omega, by omega, by decide⟩) | ((with_reducible show (0 : Int) < _); omega) | ((with_reducible show (0 : Int) ≤ _); omega) | ((with_reducible show scal _ _ = true); rfl)))) ?_) (fun h => absurd so (of_decide_eq_false h))) fun H2 e2 => q H2 (e1.trans e2)
      · apply et_is
        · (repeat' (first | with_reducible exact ev_c | ((with_reducible show Ev (tVar _) _ _ _); exact ev_var rfl) | with_reducible exact ea_nil | with_reducible exact eo_none | with_reducible refine' ea_cons ?_ ?_ | with_reducible refine' eo_some ?_ | with_reducible refine' ev_and2 ?_ ?_ | with_reducible refine' ev_or2 ?_ ?_ | with_reducible refine' ev_notV ?_ | with_reducible exact ru_I | with_reducible refine' ev_un ?_ ?_ | with_reducible exact rv_I0 | with_reducible exact rv_isN | with_reducible exact rv_notN | with_reducible refine' rv_I ?_ | with_reducible refine' rv_eq ?_ | with_reducible refine' rv_ne ?_ | with_reducible refine' ev_op ?_ ?_ ?_ | with_reducible refine' ev_chain2 ?_ ?_ ?_ ?_ ?_ | with_reducible refine' et_B ?_ | with_reducible refine' et_test ?_ | with_reducible refine' et_and2 ?_ ?_ | with_reducible refine' et_or2 ?_ ?_ | with_reducible refine' et_not ?_ | with_reducible refine' ev_call ?_ ?_ | with_reducible refine' ev_callS ?_ ?_ | with_reducible refine' ev_cb ?_ ?_ | with_reducible exact isi_bool (by assumption) | with_reducible exact isi_int (by assumption) | with_reducible exact isi_list (by assumption) | with_reducible exact rc_len (by assumption) | with_reducible exact rc_sum (by assumption) | with_reducible exact rc_abs | with_reducible exact isi_listL (by assumption) | with_reducible exact isi_intI | with_reducible exact isi_boolI | with_reducible exact rc_lenT (by assumption) | with_reducible exact isi_tup (by assumption) | with_reducible exact rv_eqL (by assumption) (by assumption) | with_reducible exact rv_neL (by assumption) (by assumption) | with_reducible exact rv_neT (by assumption) (by assumption) | with_reducible exact rv_ixL (by assumption) (by assumption) | with_reducible exact rv_ixT (by assumption) (by assumption) | with_reducible refine' ev_din ?_ ?_ (by assumption) | with_reducible refine' ev_dnotin ?_ ?_ (by assumption) | with_reducible refine' ev_dget ?_ ?_ (by assumption) (by assumption) | ((with_reducible show SpV _ _ _ _); assumption) | ((with_reducible show RV _ _ _ _ _); assumption) | ((with_reducible show RC _ _ _ _); assumption) | ((with_reducible show CDiv _ _); exact ⟨by omega, by omega⟩) | ((with_reducible show CMul _ _); first | exact .inl ⟨by omega, by omega⟩ | exact .inr ⟨by omega, by omega⟩) | ((with_reducible show CPow _ _); exact ⟨by omega, by omega, by decide⟩) | ((with_reducible show (0 : Int) < _); omega) | ((with_reducible show (0 : Int) ≤ _); omega) | ((with_reducible show scal _ _ = true); rfl)))
        · rw [dec_int, bitAnd_m1, Bool.eq_iff_iff]
          simp
      · rw [half1, Int.add_zero]
    · have hb := of_decide_eq_false hb
      rw [if_pos (by omega)] at so q
      refine q_when (b := false) ?_ (fun h => by cases h) (fun _ H2 e2 => ?_)
      · apply et_is
        · (repeat' (first | with_reducible exact ev_c | ((with_reducible show Ev (tVar _) _ _ _); exact ev_var rfl) | with_reducible exact ea_nil | with_reducible exact eo_none | with_reducible refine' ea_cons ?_ ?_ | with_reducible refine' eo_some ?_ | with_reducible refine' ev_and2 ?_ ?_ | with_reducible refine' ev_or2 ?_ ?_ | with_reducible refine' ev_notV ?_ | with_reducible exact ru_I | with_reducible refine' ev_un ?_ ?_ | with_reducible exact rv_I0 | with_reducible exact rv_isN | with_reducible exact rv_notN | with_reducible refine' rv_I ?_ | with_reducible refine' rv_eq ?_ | with_reducible refine' rv_ne ?_ | with_reducible refine' ev_op ?_ ?_ ?_ | with_reducible refine' ev_chain2 ?_ ?_ ?_ ?_ ?_ | with_reducible refine' et_B ?_ | with_reducible refine' et_test ?_ | with_reducible refine' et_and2 ?_ ?_ | with_reducible refine' et_or2 ?_ ?_ | with_reducible refine' et_not ?_ | with_reducible refine' ev_call ?_ ?_ | with_reducible refine' ev_callS ?_ ?_ | with_reducible refine' ev_cb ?_ ?_ | with_reducible exact isi_bool (by assumption) | with_reducible exact isi_int (by assumption) | with_reducible exact isi_list (by assumption) | with_reducible exact rc_len (by assumption) | with_reducible exact rc_sum (by assumption) | with_reducible exact rc_abs | with_reducible exact isi_listL (by assumption) | with_reducible exact isi_intI | with_reducible exact isi_boolI | with_reducible exact rc_lenT (by assumption) | with_reducible exact isi_tup (by assumption) | with_reducible exact rv_eqL (by assumption) (by assumption) | with_reducible exact rv_neL (by assumption) (by assumption) | with_reducible exact rv_neT (by assumption) (by assumption) | with_reducible exact rv_ixL (by assumption) (by assumption) | with_reducible exact rv_ixT (by assumption) (by assumption) | with_reducible refine' ev_din ?_ ?_ (by assumption) | with_reducible refine' ev_dnotin ?_ ?_ (by assumption) | with_reducible refine' ev_dget ?_ ?_ (by assumption) (by assumption) | ((with_reducible show SpV _ _ _ _); assumption) | ((with_reducible show RV _ _ _ _ _); assumption) | ((with_reducible show RC _ _ _ _); assumption) | ((with_reducible show CDiv _ _); exact ⟨by omega, by omega⟩) | ((with_reducible show CMul _ _); first | exact .inl ⟨by omega, by omega⟩ | exact .inr ⟨by omega, by omega⟩) | ((with_reducible show CPow _ _); exact ⟨by omega, by omega, by decide⟩) | ((with_reducible show (0 : Int) < _); omega) | ((with_reducible show (0 : Int) ≤ _); omega) | ((with_reducible show scal _ _ = true); rfl)))
        · rw [dec_int, dec_int, bitAnd_m1, bitAnd_m1, so, sl]
          rfl
      · refine s_ret (v := .int (s / 2 + 2 ^ (p.toNat - 1))) (ev_is (v := .int (s / 2 ^ (1 : Int).toNat + 1 * 2 ^ (p - 1).toNat)) (by (repeat' (first | with_reducible exact ev_c | ((with_reducible show Ev (tVar _) _ _ _); exact ev_var rfl) | with_reducible exact ea_nil | with_reducible exact eo_none | with_reducible refine' ea_cons ?_ ?_ | with_reducible refine' eo_some ?_ | with_reducible refine' ev_and2 ?_ ?_ | with_reducible refine' ev_or2 ?_ ?_ | with_reducible refine' ev_notV ?_ | with_reducible exact ru_I | with_reducible refine' ev_un ?_ ?_ | with_reducible exact rv_I0 | with_reducible exact rv_isN | with_reducible exact rv_notN | with_reducible refine' rv_I ?_ | with_reducible refine' rv_eq ?_ | with_reducible refine' rv_ne ?_ | with_reducible refine' ev_op ?_ ?_ ?_ | with_reducible refine' ev_chain2 ?_ ?_ ?_ ?_ ?_ | with_reducible refine' et_B ?_ | with_reducible refine' et_test ?_ | with_reducible refine' et_and2 ?_ ?_ | with_reducible refine' et_or2 ?_ ?_ | with_reducible refine' et_not ?_ | with_reducible refine' ev_call ?_ ?_ | with_reducible refine' ev_callS ?_ ?_ | with_reducible refine' ev_cb ?_ ?_ | with_reducible exact isi_bool (by assumption) | with_reducible exact isi_int (by assumption) | with_reducible exact isi_list (by assumption) | with_reducible exact rc_len (by assumption) | with_reducible exact rc_sum (by assumption) | with_reducible exact rc_abs | with_reducible exact isi_listL (by assumption) | with_reducible exact isi_intI | with_reducible exact isi_boolI | with_reducible exact rc_lenT (by assumption) | with_reducible exact isi_tup (by assumption) | with_reducible exact rv_eqL (by assumption) (by assumption) | with_reducible exact rv_neL (by assumption) (by assumption) | with_reducible exact rv_neT (by assumption) (by assumption) | with_reducible exact rv_ixL (by assumption) (by assumption) | with_reducible exact rv_ixT (by assumption) (by assumption) | with_reducible refine' ev_din ?_ ?_ (by assumption) | with_reducible refine' ev_dnotin ?_ ?_ (by assumption) | with_reducible refine' ev_dget ?_ ?_ (by assumption) (by assumption) | ((with_reducible show SpV _ _ _ _); assumption) | ((with_reducible show RV _ _ _ _ _); assumption) | ((with_reducible show RC _ _ _ _); assumption) | ((with_reducible show CDiv _ _); exact ⟨by omega, by omega⟩) | ((with_reducible show CMul _ _); first | exact .inl ⟨by omega, by omega⟩ | exact .inr ⟨by omega, by omega⟩) | ((with_reducible show CPow _ _); exact ⟨by omega, by omega, by decide⟩) | ((with_reducible show (0 : Int) < _); omega) | ((with_reducible show (0 : Int) ≤ _); omega) | ((with_reducible show scal _ _ = true); rfl)))) ?_) fun H3 e3 => q H3 ((e1.trans e2).trans e3)
        rw [half1, Int.one_mul, show (p - 1).toNat = p.toNat - 1 by omega]

def fsB (ns : List Int) (a j k : Nat) : Bool := (List.range 60).any fun d => decide ((d : Int) + 1 ≤ Pt ns (-1 - (d : Int)) ∧ Pt ns (-1 - (d : Int)) - ((d : Int) + 1) = (k : Int) ∧ (Pt ns (-1 - (d : Int)) ≤ (a : Int) ∨ (Pt ns (-1 - (d : Int)) = (a : Int) + 1 ∧ d < j)))
theorem fsB_iff {ns : List Int} {a j k : Nat} : fsB ns a j k = true ↔ ∃ d : Nat, d < 60 ∧ (d : Int) + 1 ≤ Pt ns (-1 - (d : Int)) ∧ Pt ns (-1 - (d : Int)) - ((d : Int) + 1) = (k : Int) ∧ (Pt ns (-1 - (d : Int)) ≤ (a : Int) ∨ (Pt ns (-1 - (d : Int)) = (a : Int) + 1 ∧ d < j)) := by
  unfold fsB
  rw [List.any_eq_true]
  constructor
  · rintro ⟨d, hd, e⟩
    exact ⟨d, List.mem_range.mp hd, of_decide_eq_true e⟩
  · rintro ⟨d, hd, e⟩
    exact ⟨d, List.mem_range.mpr hd, decide_eq_true e⟩
theorem bool_iff {b c : Bool} (h : b = true ↔ c = true) : b = c := by
  rw [Bool.eq_iff_iff]
  exact h
theorem fsB_zero {ns : List Int} {k : Nat} (h : Plain ns) : fsB ns 0 0 k = false := by
  cases e : fsB ns 0 0 k with
  | false => rfl
  | true =>
    obtain ⟨d, _, h1, _, h3⟩ := fsB_iff.mp e
    rcases h3 with z | z <;> omega
theorem fsB_next {ns : List Int} {a k : Nat} : fsB ns a (a + 1) k = fsB ns (a + 1) 0 k := bool_iff (by
  rw [fsB_iff, fsB_iff]
  constructor
  · rintro ⟨d, h0, h1, h2, h3⟩
    exact ⟨d, h0, h1, h2, .inl (by omega)⟩
  · rintro ⟨d, h0, h1, h2, h3⟩
    refine ⟨d, h0, h1, h2, ?_⟩
    rcases h3 with z | z
    · rcases Int.lt_or_le (a : Int) (Pt ns (-1 - (d : Int))) with c | c
      · exact .inr (by omega)
      · exact .inl c
    · omega)
theorem fsB_no {ns : List Int} {a j k : Nat} (h : Pt ns (-1 - (j : Int)) ≠ (a : Int) + 1) : fsB ns a (j + 1) k = fsB ns a j k := bool_iff (by
  rw [fsB_iff, fsB_iff]
  constructor
  · rintro ⟨d, h0, h1, h2, h3⟩
    refine ⟨d, h0, h1, h2, ?_⟩
    rcases h3 with z | ⟨z1, z2⟩
    · exact .inl z
    · refine .inr ⟨z1, ?_⟩
      rcases Nat.lt_or_ge d j with c | c
      · exact c
      · have : d = j := by omega
        subst this
        exact absurd z1 h
  · rintro ⟨d, h0, h1, h2, h3⟩
    refine ⟨d, h0, h1, h2, ?_⟩
    rcases h3 with z | ⟨z1, z2⟩
    · exact .inl z
    · exact .inr ⟨z1, by omega⟩)
theorem fsB_yes {ns : List Int} {a j k : Nat} (h : Pt ns (-1 - (j : Int)) = (a : Int) + 1) (hj : j ≤ a) (ha : a < 60) : fsB ns a (j + 1) k = (fsB ns a j k || decide (k = a - j)) := bool_iff (by
  rw [Bool.or_eq_true, decide_eq_true_iff, fsB_iff, fsB_iff]
  constructor
  · rintro ⟨d, h0, h1, h2, h3⟩
    rcases h3 with z | ⟨z1, z2⟩
    · exact .inl ⟨d, h0, h1, h2, .inl z⟩
    · rcases Nat.lt_or_ge d j with c | c
      · exact .inl ⟨d, h0, h1, h2, .inr ⟨z1, c⟩⟩
      · have : d = j := by omega
        subst this
        exact .inr (by omega)
  · rintro (⟨d, h0, h1, h2, h3⟩ | e)
    · refine ⟨d, h0, h1, h2, ?_⟩
      rcases h3 with z | ⟨z1, z2⟩
      · exact .inl z
      · exact .inr ⟨z1, by omega⟩
    · exact ⟨j, by omega, by omega, by omega, .inr ⟨h, by omega⟩⟩)
theorem fsB_free {ns : List Int} {a j : Nat} (pl : Plain ns) (h : Pt ns (-1 - (j : Int)) = (a : Int) + 1) (hj : j ≤ a) : fsB ns a j (a - j) = false := by
  cases e : fsB ns a j (a - j) with
  | false => rfl
  | true =>
    obtain ⟨d, h0, h1, h2, h3⟩ := fsB_iff.mp e
    have := pt_inj pl.row.1 pl.no (t := -1 - (d : Int)) (u := -1 - (j : Int)) (by omega)
    have : d = j := by omega
    subst this
    omega
theorem fsB_all {ns : List Int} (pl : Plain ns) {k : Nat} : fsB ns 60 0 k = hit ns 0 60 k := bool_iff (by
  rw [fsB_iff, hit_all pl]
  constructor
  · rintro ⟨d, h0, h1, h2, h3⟩
    exact ⟨-1 - (d : Int), by omega, by omega⟩
  · rintro ⟨t, ht, e⟩
    have pb := pt_b pl t
    refine ⟨(-1 - t).toNat, by omega, ?_⟩
    rw [show -1 - (((-1 - t).toNat : Nat) : Int) = t by omega]
    exact ⟨by omega, by omega, .inl (by omega)⟩)
def sp_first_state (K : PySem.W.Frag) : Sp := fun vs H Q E => ∃ (a : Addr) (ns : List Int), vs = [.ref a] ∧ H a = some (.lst (ns.map V.int)) ∧ Plain ns ∧ RetV (.int (st ns 0)) H Q
theorem sc__law_first_state : FnScope ["_law_pattern", "_law_size", "_law_found", "_law_throw", "_law_beats"] ["_law_pattern"] (defScope s__law_first_state) := ⟨rfl, rfl, rfl, by decide +kernel, rfl, by decide +kernel, by decide +kernel⟩
theorem ok__law_first_state {P : Program} {w : World} {K : PySem.W.Frag} {mg : Str → Option Value} {base : Heap} (T : TXT K mg) : OK P w K mg base "_law_first_state" ["_law_pattern"] 1 (sp_first_state K) := by
  obtain ⟨fd, F⟩ := T.def_ 16
  refine ⟨_, fd, T.glo 15, F.kp, F.bindsN (fun _ _ _ _ _ _ us hl => match us, hl with | [_], _ => rfl), F.ok sc__law_first_state (fun vs H Q E h => ?_) (fun cdv A outer s H vs Q E hr h => ?_), F.bindsA (fun _ _ _ _ _ _ us hl => match us, hl with | [_], _ => rfl)⟩
  · first | (obtain ⟨rfl, _⟩ := h; rfl) | (obtain ⟨_, rfl, _⟩ := h; rfl) | (obtain ⟨_, _, rfl, _⟩ := h; rfl) | (obtain ⟨_, _, _, rfl, _⟩ := h; rfl) | (obtain ⟨_, _, _, _, rfl, _⟩ := h; rfl) | (obtain ⟨_, _, _, _, _, rfl, _⟩ := h; rfl) | (obtain ⟨_, _, _, _, _, _, rfl, _⟩ := h; rfl) | (obtain ⟨_, _, _, _, _, _, _, rfl, _⟩ := h; rfl) | (obtain ⟨_, _, _, _, _, _, _, _, rfl, _⟩ := h; rfl)
  · replace F : FunD K "_law_first_state" "_law_first_state" (defArgs s__law_first_state) (defBody s__law_first_state) (defScope s__law_first_state) [] [] (He.ga K "_law_first_state") fd := F
    refine ⟨_, (pss_cons (ps_set (i := 1) sc__law_first_state.nd rfl (Or.inl rfl) (pe_callB (id := "len") (k_len K) (by rfl) (T.free 28) (by decide +kernel) (pa_cons (pv 0) pa_nil)))
      (pss_cons (ps_set (i := 2) sc__law_first_state.nd rfl (Or.inl rfl) pe_int)
      (pss_cons (ps_for (passes_of rfl) rfl (pi_range2 (by rfl) (T.free 32) (pa_cons pe_int (pa_cons pe_int pa_nil))) (pg_name (i := 3) sc__law_first_state.nd rfl (Or.inl rfl))
        (pss_one (ps_for (passes_of rfl) rfl (pi_range2 (by rfl) (T.free 32) (pa_cons pe_int (pa_cons (pe_op op_add (pv 3) pe_int) pa_nil))) (pg_name (i := 4) sc__law_first_state.nd rfl (Or.inl rfl))
        (pss_one (ps_if (pt_cmpR op_eq (pe_ix (k_ixL K) (pv 0) (pe_op op_mod (pe_un un_neg (pv 4)) (pv 1)) (fun _ _ => rfl)) (pv 3) (nomark _))
        (pss_one (ps_set (i := 2) sc__law_first_state.nd rfl (Or.inl rfl) (pe_op op_add (pv 2) (pe_op op_shl pe_int (pe_op op_sub (pv 3) (pv 4))))))
        pss_nil)))))
      (pss_one (ps_ret (pv 2)))))), ?_⟩
    obtain ⟨a, ns, rfl, ha, pl, q⟩ := h
    dsimp only [cxOf, L2.start, List.map_cons, List.map_nil, List.length_cons, List.length_nil, Nat.reduceAdd, Nat.reduceSub, List.replicate_succ, List.replicate_zero, List.cons_append, List.nil_append, Nat.zero_add, List.reduceReplicate, List.map]
    have h1 := pl.row.1
    have h60 := pl.row.2.1
    have s0 : SqL K H a (ns.map V.int) := sq_of ha
    refine q_asg (v := .int (ns.length : Int)) (by rw [← List.length_map (as := ns) (f := V.int)]; (repeat' (first | with_reducible exact ev_c | ((with_reducible show Ev (tVar _) _ _ _); exact ev_var rfl) | with_reducible exact ea_nil | with_reducible exact eo_none | with_reducible refine' ea_cons ?_ ?_ | with_reducible refine' eo_some ?_ | with_reducible refine' ev_and2 ?_ ?_ | with_reducible refine' ev_or2 ?_ ?_ | with_reducible refine' ev_notV ?_ | with_reducible exact ru_I | with_reducible refine' ev_un ?_ ?_ | with_reducible exact rv_I0 | with_reducible exact rv_isN | with_reducible exact rv_notN | with_reducible refine' rv_I ?_ | with_reducible refine' rv_eq ?_ | with_reducible refine' rv_ne ?_ | with_reducible refine' ev_op ?_ ?_ ?_ | with_reducible refine' ev_chain2 ?_ ?_ ?_ ?_ ?_ | with_reducible refine' et_B ?_ | with_reducible refine' et_test ?_ | with_reducible refine' et_and2 ?_ ?_ | with_reducible refine' et_or2 ?_ ?_ | with_reducible refine' et_not ?_ | with_reducible refine' ev_call ?_ ?_ | with_reducible refine' ev_callS ?_ ?_ | with_reducible refine' ev_cb ?_ ?_ | with_reducible exact isi_bool (by assumption) | with_reducible exact isi_int (by assumption) | with_reducible exact isi_list (by assumption) | with_reducible exact rc_len (by assumption) | with_reducible exact rc_sum (by assumption) | with_reducible exact rc_abs | with_reducible exact isi_listL (by assumption) | with_reducible exact isi_intI | with_reducible exact isi_boolI | with_reducible exact rc_lenT (by assumption) | with_reducible exact isi_tup (by assumption) | with_reducible exact rv_eqL (by assumption) (by assumption) | with_reducible exact rv_neL (by assumption) (by assumption) | with_reducible exact rv_neT (by assumption) (by assumption) | with_reducible exact rv_ixL (by assumption) (by assumption) | with_reducible exact rv_ixT (by assumption) (by assumption) | with_reducible refine' ev_din ?_ ?_ (by assumption) | with_reducible refine' ev_dnotin ?_ ?_ (by assumption) | with_reducible refine' ev_dget ?_ ?_ (by assumption) (by assumption) | ((with_reducible show SpV _ _ _ _); assumption) | ((with_reducible show RV _ _ _ _ _); assumption) | ((with_reducible show RC _ _ _ _); assumption) | ((with_reducible show CDiv _ _); exact ⟨by omega, by omega⟩) | ((with_reducible show CMul _ _); first | exact .inl ⟨by omega, by omega⟩ | exact .inr ⟨by omega, by omega⟩) | ((with_reducible show CPow _ _); exact ⟨by omega, by omega, by decide⟩) | ((with_reducible show (0 : Int) < _); omega) | ((with_reducible show (0 : Int) ≤ _); omega) | ((with_reducible show scal _ _ = true); rfl)))) fun H1 e1 => ?_
    refine q_asg (v := .int 0) (by (repeat' (first | with_reducible exact ev_c | ((with_reducible show Ev (tVar _) _ _ _); exact ev_var rfl) | with_reducible exact ea_nil | with_reducible exact eo_none | with_reducible refine' ea_cons ?_ ?_ | with_reducible refine' eo_some ?_ | with_reducible refine' ev_and2 ?_ ?_ | with_reducible refine' ev_or2 ?_ ?_ | with_reducible refine' ev_notV ?_ | with_reducible exact ru_I | with_reducible refine' ev_un ?_ ?_ | with_reducible exact rv_I0 | with_reducible exact rv_isN | with_reducible exact rv_notN | with_reducible refine' rv_I ?_ | with_reducible refine' rv_eq ?_ | with_reducible refine' rv_ne ?_ | with_reducible refine' ev_op ?_ ?_ ?_ | with_reducible refine' ev_chain2 ?_ ?_ ?_ ?_ ?_ | with_reducible refine' et_B ?_ | with_reducible refine' et_test ?_ | with_reducible refine' et_and2 ?_ ?_ | with_reducible refine' et_or2 ?_ ?_ | with_reducible refine' et_not ?_ | with_reducible refine' ev_call ?_ ?_ | with_reducible refine' ev_callS ?_ ?_ | with_reducible refine' ev_cb ?_ ?_ | with_reducible exact isi_bool (by assumption) | with_reducible exact isi_int (by assumption) | with_reducible exact isi_list (by assumption) | with_reducible exact rc_len (by assumption) | with_reducible exact rc_sum (by assumption) | with_reducible exact rc_abs | with_reducible exact isi_listL (by assumption) | with_reducible exact isi_intI | with_reducible exact isi_boolI | with_reducible exact rc_lenT (by assumption) | with_reducible exact isi_tup (by assumption) | with_reducible exact rv_eqL (by assumption) (by assumption) | with_reducible exact rv_neL (by assumption) (by assumption) | with_reducible exact rv_neT (by assumption) (by assumption) | with_reducible exact rv_ixL (by assumption) (by assumption) | with_reducible exact rv_ixT (by assumption) (by assumption) | with_reducible refine' ev_din ?_ ?_ (by assumption) | with_reducible refine' ev_dnotin ?_ ?_ (by assumption) | with_reducible refine' ev_dget ?_ ?_ (by assumption) (by assumption) | ((with_reducible show SpV _ _ _ _); assumption) | ((with_reducible show RV _ _ _ _ _); assumption) | ((with_reducible show RC _ _ _ _); assumption) | ((with_reducible show CDiv _ _); exact ⟨by omega, by omega⟩) | ((with_reducible show CMul _ _); first | exact .inl ⟨by omega, by omega⟩ | exact .inr ⟨by omega, by omega⟩) | ((with_reducible show CPow _ _); exact ⟨by omega, by omega, by decide⟩) | ((with_reducible show (0 : Int) < _); omega) | ((with_reducible show (0 : Int) ≤ _); omega) | ((with_reducible show scal _ _ = true); rfl)))) fun H2 e2 => ?_
    have e12 := e1.trans e2
    have z0 : bS 60 (fsB ns 0 0) = 0 := by
      have : bS 60 (fsB ns 0 0) = bS 60 fun _ => false := bS_congr fun k _ => fsB_zero pl
      rw [this]
      rfl
    refine q_forR2 (lo := 1) (n := 61) (by (repeat' (first | with_reducible exact ev_c | ((with_reducible show Ev (tVar _) _ _ _); exact ev_var rfl) | with_reducible exact ea_nil | with_reducible exact eo_none | with_reducible refine' ea_cons ?_ ?_ | with_reducible refine' eo_some ?_ | with_reducible refine' ev_and2 ?_ ?_ | with_reducible refine' ev_or2 ?_ ?_ | with_reducible refine' ev_notV ?_ | with_reducible exact ru_I | with_reducible refine' ev_un ?_ ?_ | with_reducible exact rv_I0 | with_reducible exact rv_isN | with_reducible exact rv_notN | with_reducible refine' rv_I ?_ | with_reducible refine' rv_eq ?_ | with_reducible refine' rv_ne ?_ | with_reducible refine' ev_op ?_ ?_ ?_ | with_reducible refine' ev_chain2 ?_ ?_ ?_ ?_ ?_ | with_reducible refine' et_B ?_ | with_reducible refine' et_test ?_ | with_reducible refine' et_and2 ?_ ?_ | with_reducible refine' et_or2 ?_ ?_ | with_reducible refine' et_not ?_ | with_reducible refine' ev_call ?_ ?_ | with_reducible refine' ev_callS ?_ ?_ | with_reducible refine' ev_cb ?_ ?_ | with_reducible exact isi_bool (by assumption) | with_reducible exact isi_int (by assumption) | with_reducible exact isi_list (by assumption) | with_reducible exact rc_len (by assumption) | with_reducible exact rc_sum (by assumption) | with_reducible exact rc_abs | with_reducible exact isi_listL (by assumption) | with_reducible exact isi_intI | with_reducible exact isi_boolI | with_reducible exact rc_lenT (by assumption) | with_reducible exact isi_tup (by assumption) | with_reducible exact rv_eqL (by assumption) (by assumption) | with_reducible exact rv_neL (by assumption) (by assumption) | with_reducible exact rv_neT (by assumption) (by assumption) | with_reducible exact rv_ixL (by assumption) (by assumption) | with_reducible exact rv_ixT (by assumption) (by assumption) | with_reducible refine' ev_din ?_ ?_ (by assumption) | with_reducible refine' ev_dnotin ?_ ?_ (by assumption) | with_reducible refine' ev_dget ?_ ?_ (by assumption) (by assumption) | ((with_reducible show SpV _ _ _ _); assumption) | ((with_reducible show RV _ _ _ _ _); assumption) | ((with_reducible show RC _ _ _ _); assumption) | ((with_reducible show CDiv _ _); exact ⟨by omega, by omega⟩) | ((with_reducible show CMul _ _); first | exact .inl ⟨by omega, by omega⟩ | exact .inr ⟨by omega, by omega⟩) | ((with_reducible show CPow _ _); exact ⟨by omega, by omega, by decide⟩) | ((with_reducible show (0 : Int) < _); omega) | ((with_reducible show (0 : Int) ≤ _); omega) | ((with_reducible show scal _ _ = true); rfl)))) (by omega) (fun i σ' H' => ∃ (y3 y4 : Option V), σ' = [some (V.ref a), some (V.int (ns.length : Int)), some (V.int (bS 60 (fsB ns i 0))), y3, y4] ∧ Ex H2 H') (fun H4 e4 => ⟨_, _, by rw [z0]; rfl, e4⟩) ?_ ?_
    · rintro i σ' H' hi ⟨y3, y4, rfl, e4⟩
      have hi' : i < 60 := by omega
      refine s_forR2 (lo := 1) (n := 1 + (i : Int) + 1) (by (repeat' (first | with_reducible exact ev_c | ((with_reducible show Ev (tVar _) _ _ _); exact ev_var rfl) | with_reducible exact ea_nil | with_reducible exact eo_none | with_reducible refine' ea_cons ?_ ?_ | with_reducible refine' eo_some ?_ | with_reducible refine' ev_and2 ?_ ?_ | with_reducible refine' ev_or2 ?_ ?_ | with_reducible refine' ev_notV ?_ | with_reducible exact ru_I | with_reducible refine' ev_un ?_ ?_ | with_reducible exact rv_I0 | with_reducible exact rv_isN | with_reducible exact rv_notN | with_reducible refine' rv_I ?_ | with_reducible refine' rv_eq ?_ | with_reducible refine' rv_ne ?_ | with_reducible refine' ev_op ?_ ?_ ?_ | with_reducible refine' ev_chain2 ?_ ?_ ?_ ?_ ?_ | with_reducible refine' et_B ?_ | with_reducible refine' et_test ?_ | with_reducible refine' et_and2 ?_ ?_ | with_reducible refine' et_or2 ?_ ?_ | with_reducible refine' et_not ?_ | with_reducible refine' ev_call ?_ ?_ | with_reducible refine' ev_callS ?_ ?_ | with_reducible refine' ev_cb ?_ ?_ | with_reducible exact isi_bool (by assumption) | with_reducible exact isi_int (by assumption) | with_reducible exact isi_list (by assumption) | with_reducible exact rc_len (by assumption) | with_reducible exact rc_sum (by assumption) | with_reducible exact rc_abs | with_reducible exact isi_listL (by assumption) | with_reducible exact isi_intI | with_reducible exact isi_boolI | with_reducible exact rc_lenT (by assumption) | with_reducible exact isi_tup (by assumption) | with_reducible exact rv_eqL (by assumption) (by assumption) | with_reducible exact rv_neL (by assumption) (by assumption) | with_reducible exact rv_neT (by assumption) (by assumption) | with_reducible exact rv_ixL (by assumption) (by assumption) | with_reducible exact rv_ixT (by assumption) (by assumption) | with_reducible refine' ev_din ?_ ?_ (by assumption) | with_reducible refine' ev_dnotin ?_ ?_ (by assumption) | with_reducible refine' ev_dget ?_ ?_ (by assumption) (by assumption) | ((with_reducible show SpV _ _ _ _); assumption) | ((with_reducible show RV _ _ _ _ _); assumption) | ((with_reducible show RC _ _ _ _); assumption) | ((with_reducible show CDiv _ _); exact ⟨by omega, by omega⟩) | ((with_reducible show CMul _ _); first | exact .inl ⟨by omega, by omega⟩ | exact .inr ⟨by omega, by omega⟩) | ((with_reducible show CPow _ _); exact ⟨by omega, by omega, by decide⟩) | ((with_reducible show (0 : Int) < _); omega) | ((with_reducible show (0 : Int) ≤ _); omega) | ((with_reducible show scal _ _ = true); rfl)))) (by omega) (fun j σ' H' => ∃ (y4 : Option V), σ' = [some (V.ref a), some (V.int (ns.length : Int)), some (V.int (bS 60 (fsB ns i j))), some (V.int (1 + (i : Int))), y4] ∧ Ex H2 H') (fun H5 e5 => ⟨_, rfl, e4.trans e5⟩) ?_ ?_
      · rintro j σ' H' hj ⟨y4, rfl, e5⟩
        have hj' : j ≤ i := by omega
        have sa : SqL K H' a (ns.map V.int) := ex_l (e12.trans e5) s0
        have gp : atI (ns.map V.int) ((-(1 + (j : Int))) % (ns.length : Int)) = some (.int (Pt ns (-1 - (j : Int)))) := by
          obtain ⟨m, hm, em, ep⟩ := pt_ix h1 (-1 - (j : Int))
          rw [show -(1 + (j : Int)) = -1 - (j : Int) by omega, em, ep]
          exact atI_int hm
        refine s_when (b := decide (Pt ns (-1 - (j : Int)) = 1 + (i : Int))) ?_ (fun hb H6 e6 => ?_) (fun hb H6 e6 => ?_)
        · apply et_is
          · (repeat' (first | with_reducible exact ev_c | ((with_reducible show Ev (tVar _) _ _ _); exact ev_var rfl) | with_reducible exact ea_nil | with_reducible exact eo_none | with_reducible refine' ea_cons ?_ ?_ | with_reducible refine' eo_some ?_ | with_reducible refine' ev_and2 ?_ ?_ | with_reducible refine' ev_or2 ?_ ?_ | with_reducible refine' ev_notV ?_ | with_reducible exact ru_I | with_reducible refine' ev_un ?_ ?_ | with_reducible exact rv_I0 | with_reducible exact rv_isN | with_reducible exact rv_notN | with_reducible refine' rv_I ?_ | with_reducible refine' rv_eq ?_ | with_reducible refine' rv_ne ?_ | with_reducible refine' ev_op ?_ ?_ ?_ | with_reducible refine' ev_chain2 ?_ ?_ ?_ ?_ ?_ | with_reducible refine' et_B ?_ | with_reducible refine' et_test ?_ | with_reducible refine' et_and2 ?_ ?_ | with_reducible refine' et_or2 ?_ ?_ | with_reducible refine' et_not ?_ | with_reducible refine' ev_call ?_ ?_ | with_reducible refine' ev_callS ?_ ?_ | with_reducible refine' ev_cb ?_ ?_ | with_reducible exact isi_bool (by assumption) | with_reducible exact isi_int (by assumption) | with_reducible exact isi_list (by assumption) | with_reducible exact rc_len (by assumption) | with_reducible exact rc_sum (by assumption) | with_reducible exact rc_abs | with_reducible exact isi_listL (by assumption) | with_reducible exact isi_intI | with_reducible exact isi_boolI | with_reducible exact rc_lenT (by assumption) | with_reducible exact isi_tup (by assumption) | with_reducible exact rv_eqL (by assumption) (by assumption) | with_reducible exact rv_neL (by assumption) (by assumption) | with_reducible exact rv_neT (by assumption) (by assumption) | with_reducible exact rv_ixL (by assumption) (by assumption) | with_reducible exact rv_ixT (by assumption) (by assumption) | with_reducible refine' ev_din ?_ ?_ (by assumption) | with_reducible refine' ev_dnotin ?_ ?_ (by assumption) | with_reducible refine' ev_dget ?_ ?_ (by assumption) (by assumption) | ((with_reducible show SpV _ _ _ _); assumption) | ((with_reducible show RV _ _ _ _ _); assumption) | ((with_reducible show RC _ _ _ _); assumption) | ((with_reducible show CDiv _ _); exact ⟨by omega, by omega⟩) | ((with_reducible show CMul _ _); first | exact .inl ⟨by omega, by omega⟩ | exact .inr ⟨by omega, by omega⟩) | ((with_reducible show CPow _ _); exact ⟨by omega, by omega, by decide⟩) | ((with_reducible show (0 : Int) < _); omega) | ((with_reducible show (0 : Int) ≤ _); omega) | ((with_reducible show scal _ _ = true); rfl)))
          · exact dec_int.trans (by rw [Bool.eq_iff_iff]; simp)
        · have hb := of_decide_eq_true hb
          have hb2 : Pt ns (-1 - (j : Int)) = (i : Int) + 1 := by omega
          have e2 : bS 60 (fsB ns i (j + 1)) = bS 60 (fsB ns i j) + 2 ^ (i - j) := by
            rw [← bS_put (n := 60) (m := i - j) (f := fsB ns i j) (by omega) (fsB_free pl hb2 hj')]
            exact bS_congr fun k _ => fsB_yes hb2 hj' hi'
          rw [e2]
          refine s_asg (v := .int (bS 60 (fsB ns i j) + 1 * 2 ^ (1 + (i : Int) - (1 + (j : Int))).toNat)) (by (repeat' (first | with_reducible exact ev_c | ((with_reducible show Ev (tVar _) _ _ _); exact ev_var rfl) | with_reducible exact ea_nil | with_reducible exact eo_none | with_reducible refine' ea_cons ?_ ?_ | with_reducible refine' eo_some ?_ | with_reducible refine' ev_and2 ?_ ?_ | with_reducible refine' ev_or2 ?_ ?_ | with_reducible refine' ev_notV ?_ | with_reducible exact ru_I | with_reducible refine' ev_un ?_ ?_ | with_reducible exact rv_I0 | with_reducible exact rv_isN | with_reducible exact rv_notN | with_reducible refine' rv_I ?_ | with_reducible refine' rv_eq ?_ | with_reducible refine' rv_ne ?_ | with_reducible refine' ev_op ?_ ?_ ?_ | with_reducible refine' ev_chain2 ?_ ?_ ?_ ?_ ?_ | with_reducible refine' et_B ?_ | with_reducible refine' et_test ?_ | with_reducible refine' et_and2 ?_ ?_ | with_reducible refine' et_or2 ?_ ?_ | with_reducible refine' et_not ?_ | with_reducible refine' ev_call ?_ ?_ | with_reducible refine' ev_callS ?_ ?_ | with_reducible refine' ev_cb ?_ ?_ | with_reducible exact isi_bool (by assumption) | with_reducible exact isi_int (by assumption) | with_reducible exact isi_list (by assumption) | with_reducible exact rc_len (by assumption) | with_reducible exact rc_sum (by assumption) | with_reducible exact rc_abs | with_reducible exact isi_listL (by assumption) | with_reducible exact isi_intI | with_reducible exact isi_boolI | with_reducible exact rc_lenT (by assumption) | with_reducible exact isi_tup (by assumption) | with_reducible exact rv_eqL (by assumption) (by assumption) | with_reducible exact rv_neL (by assumption) (by assumption) | with_reducible exact rv_neT (by assumption) (by assumption) | with_reducible exact rv_ixL (by assumption) (by assumption) | with_reducible exact rv_ixT (by assumption) (by assumption) | with_reducible refine' ev_din ?_ ?_ (by assumption) | with_reducible refine' ev_dnotin ?_ ?_ (by assumption) | with_reducible refine' ev_dget ?_ ?_ (by assumption) (by assumption) | ((with_reducible show SpV _ _ _ _); assumption) | ((with_reducible show RV _ _ _ _ _); assumption) | ((with_reducible show RC _ _ _ _); assumption) | ((with_reducible show CDiv _ _); exact ⟨by omega, by omega⟩) | ((with_reducible show CMul _ _); first | exact .inl ⟨by omega, by omega⟩ | exact .inr ⟨by omega, by omega⟩) | ((with_reducible show CPow _ _); exact ⟨by omega, by omega, by decide⟩) | ((with_reducible show (0 : Int) < _); omega) | ((with_reducible show (0 : Int) ≤ _); omega) | ((with_reducible show scal _ _ = true); rfl)))) fun H7 e7 => ⟨some (V.int (1 + (j : Int))), ?_, (e5.trans e6).trans e7⟩
          rw [Int.one_mul, show (1 + (i : Int) - (1 + (j : Int))).toNat = i - j by omega]
          rfl
        · have hb := of_decide_eq_false hb
          have e2 : bS 60 (fsB ns i (j + 1)) = bS 60 (fsB ns i j) := bS_congr fun k _ => fsB_no (by omega)
          rw [e2]
          exact ⟨some (V.int (1 + (j : Int))), rfl, e5.trans e6⟩
      · rintro σ' H' ⟨y4, rfl, e5⟩
        refine ⟨some (V.int (1 + (i : Int))), y4, ?_, e5⟩
        rw [show ((1 + (i : Int) + 1) - 1).toNat = i + 1 by omega, bS_congr (f := fsB ns i (i + 1)) (g := fsB ns (i + 1) 0) fun k _ => fsB_next]
    · rintro σ' H' ⟨y3, y4, rfl, e4⟩
      refine s_ret (v := .int (st ns 0)) (ev_is (v := .int (bS 60 (fsB ns 60 0))) (ev_var rfl) (congrArg V.int (bS_congr fun k _ => fsB_all pl))) fun H5 e5 => q H5 ((e12.trans e4).trans e5)

end TB

/-! ### lists of two lists; a slice of a new list -/
namespace TB
open PySem PySem.Spec PyProof.Rows L2 Evl
section
variable {K : PySem.W.Frag} {σ : L2.St} {H H' : Hp} {t1 t2 te : TE} {ta : TE} {tb : TA} {tz : TS} {D : Ends} {xs ys : List V}
theorem el_slL {tl th : TO} {xs : List V} {lo hi : Option Int} (h : EvL te σ H xs) (h1 : ∀ H1, Ex H H1 → EvO tl σ H1 lo) (h2 : ∀ H1, Ex H H1 → EvO th σ H1 hi) : EvL (tSl (rSlL K) te tl th) σ H (cutV xs lo hi) := fun H1 e _ q =>
  h H1 e _ fun a H2 ha e2 g2 => h1 H2 (e.trans e2) H2 (Ex.refl H2) _ fun H3 e3 => h2 H3 ((e.trans e2).trans e3) H3 (Ex.refl H3) _ fun H4 e4 =>
    ⟨a, xs, rfl, sq_of ((e3.trans e4) _ _ g2), fun p hp => q p _ (fresh_back ((e2.trans e3).trans e4) hp) (((e2.trans e3).trans e4).trans (Ex.new hp)) upd_same⟩
theorem q_asgLL {i : Nat} (h1 : EvL t1 σ H xs) (h2 : EvL t2 σ H ys) (k : ∀ p a b H1, H p = none → H a = none → H b = none → Ex H H1 → H1 a = some (.lst xs) → H1 b = some (.lst ys) → H1 p = some (.lst [.ref a, .ref b]) → tz D (σ.set i (some (.ref p))) H1) : tSeq (tAsg (tLst (tCons t1 (tCons t2 tNil))) (gName i)) tz D σ H :=
  h1 H (Ex.refl H) _ fun a H1 ha e1 g1 => h2 H1 e1 _ fun b H2 hb e2 g2 => ⟨sz_of (by simp), fun p hp => k p a b _ (fresh_back (e1.trans e2) hp) ha (fresh_back e1 hb) ((e1.trans e2).trans (Ex.new hp)) ((Ex.new hp) _ _ (e2 _ _ g1)) ((Ex.new hp) _ _ g2) upd_same⟩
theorem eqv_LL (a b : List Int) : PyData.eqv (.list [.list (dInts a), .list (dInts b)]) (.list [.list (dInts a), .list (dInts b)]) = true := by
  rw [PyData.eqv]
  show (PyData.eqv (.list (dInts a)) (.list (dInts a)) && (PyData.eqv (.list (dInts b)) (.list (dInts b)) && true)) = true
  rw [eqv_list, eqv_list, decide_eq_true rfl, decide_eq_true rfl]
  rfl
theorem shaped_LL (a b : List Int) : SeqAt.shaped (.list [.list (dInts a), .list (dInts b)]) = true := by
  simp [SeqAt.shaped, PyData.canLay0, PyData.canLayAll0, lay_ints, dep_ints, PyData.depth, PyData.depthAll]
theorem dp_LL {p a b : Addr} {ns ms : List Int} (hp : SqL K H p [.ref a, .ref b]) (ha : SqL K H a (ns.map V.int)) (hb : SqL K H b (ms.map V.int)) : ∀ H1, Ex H H1 → Dp K H1 (.ref p) (.list [.list (dInts ns), .list (dInts ms)]) := fun H1 e => .lst (ex_l e hp) (.cons (dp_list ha H1 e) (.cons (dp_list hb H1 e) .nil))
theorem ev_eqLL {p a b c d : Addr} {ns ms : List Int} (h : Ev ta σ H (.ref p)) (hx : EvA tb σ H [.ref c, .ref d]) (hp : SqL K H p [.ref a, .ref b]) (ha : SqL K H a (ns.map V.int)) (hb : SqL K H b (ms.map V.int)) (hc : SqL K H c (ns.map V.int)) (hd : SqL K H d (ms.map V.int)) : Ev (tOp (rEqD K) ta (tLst tb)) σ H (.bl true) :=
  ev_opL h (el_lst hx (by simp)) fun u H1 hu e => by
    have z := rv_eqD (K := K) (H := H1) (dp_LL (ex_l e hp) (ex_l e ha) (ex_l e hb)) (dp_LL (sq_of hu) (ex_l e hc) (ex_l e hd)) (shaped_LL ns ms) (shaped_LL ns ms)
    rw [eqv_LL] at z
    exact z
theorem ev_neLL {p a b c d : Addr} {ns ms : List Int} (h : Ev ta σ H (.ref p)) (hx : EvA tb σ H [.ref c, .ref d]) (hp : SqL K H p [.ref a, .ref b]) (ha : SqL K H a (ns.map V.int)) (hb : SqL K H b (ms.map V.int)) (hc : SqL K H c (ns.map V.int)) (hd : SqL K H d (ms.map V.int)) : Ev (tOp (rNeD K) ta (tLst tb)) σ H (.bl false) :=
  ev_opL h (el_lst hx (by simp)) fun u H1 hu e => by
    have z := rv_neD (K := K) (H := H1) (dp_LL (ex_l e hp) (ex_l e ha) (ex_l e hb)) (dp_LL (sq_of hu) (ex_l e hc) (ex_l e hd)) (shaped_LL ns ms) (shaped_LL ns ms)
    rw [eqv_LL] at z
    exact z
end
end TB

/-! ### the law k11: loops looked at, rows repeated, pairs sorted -/
namespace TB
open PySem PySem.Spec PyProof.Rows L2 Evl
/-! rows repeated -/
theorem rep_flat (xs : List Int) : ∀ m : Nat, (List.replicate m xs).flatten = (List.range (m * xs.length)).map fun i => xs.getD (i % xs.length) 0
  | 0 => by simp
  | m + 1 => by
    rw [List.replicate_succ, List.flatten_cons, rep_flat xs m, Nat.succ_mul, Nat.add_comm, List.range_add, List.map_append, List.map_map]
    congr 1
    · have z := getD_map_range xs
      refine Eq.trans z.symm ?_
      apply List.map_congr_left
      intro i hi
      rw [Nat.mod_eq_of_lt (List.mem_range.mp hi)]
    · apply List.map_congr_left
      intro i _
      show _ = xs.getD ((xs.length + i) % xs.length) 0
      rw [Nat.add_mod_left]
def repI (xs : List Int) (L : Nat) : List Int := (List.range L).map fun i => xs.getD (i % xs.length) 0
theorem rep_take (xs : List Int) (m k : Nat) : ((List.replicate m xs).flatten).take k = repI xs (min k (m * xs.length)) := by
  rw [rep_flat, ← List.map_take, List.take_range]
  rfl
theorem rep_len (xs : List Int) (L : Nat) : (repI xs L).length = L := by simp [repI]
theorem rep_at {xs : List Int} {L i : Nat} (h : i < L) : (repI xs L).getD i 0 = xs.getD (i % xs.length) 0 := getD_rng _ h
theorem rep_plain {xs : List Int} {L r : Nat} (h : Plain xs) (hL : L = r * xs.length) (h1 : 1 ≤ L) (h60 : L ≤ 60) : Plain (repI xs L) := by
  have n1 := h.row.1
  have lo : ∀ x ∈ repI xs L, 0 ≤ x ∧ x ≤ 60 := fun x hx => by
    unfold repI at hx
    obtain ⟨i, _, rfl⟩ := List.mem_map.mp hx
    exact h.low _ (getD_mem (Nat.mod_lt _ (by omega)))
  refine ⟨⟨by rw [rep_len]; exact h1, by rw [rep_len]; exact h60, fun x hx => by
    have := lo x hx
    omega⟩, ?_, lo⟩
  refine clash_none_of fun i j hi hj e => ?_
  rw [rep_len] at hi hj
  unfold land at e
  rw [rep_len, rep_at hi, rep_at hj] at e
  have hd : (xs.length : Int) ∣ (L : Int) := ⟨(r : Int), by rw [hL, Int.natCast_mul, Int.mul_comm]⟩
  have e2 : ((i : Int) + xs.getD (i % xs.length) 0) % (xs.length : Int) = ((j : Int) + xs.getD (j % xs.length) 0) % (xs.length : Int) := by
    rw [← Int.emod_emod_of_dvd _ hd, e, Int.emod_emod_of_dvd _ hd]
  have e3 : land xs (i % xs.length) = land xs (j % xs.length) := by
    unfold land
    rw [Int.natCast_emod, Int.natCast_emod, Int.emod_add_emod, Int.emod_add_emod]
    exact e2
  have ij := land_inj h.no (Nat.mod_lt _ (by omega)) (Nat.mod_lt _ (by omega)) e3
  rw [ij] at e
  have e4 := (Int.emod_add_cancel_right (xs.getD (j % xs.length) 0)).mp e
  rw [Int.emod_eq_of_lt (by omega) (by omega), Int.emod_eq_of_lt (by omega) (by omega)] at e4
  omega
section
variable {K : PySem.W.Frag} {σ : L2.St} {H H' : Hp} {t1 t2 te tl : TE} {tz : TS} {D : Ends}
theorem el_rep {l : Addr} {xs : List V} {k : Int} (h1 : Ev t1 σ H (.ref l)) (h2 : Ev t2 σ H (.int k)) (hl : H l = some (.lst xs)) (hk : 0 ≤ k ∧ k ≤ 1000) (hz : xs.length * k.toNat ≤ 100000) : EvL (tOp rRep t1 t2) σ H (List.replicate k.toNat xs).flatten := fun H1 e Q q =>
  h1 H1 e _ fun H2 e2 => h2 H2 (e.trans e2) _ fun H3 e3 => ⟨l, k, xs, rfl, rfl, ((e.trans e2).trans e3) _ _ hl, by omega, by omega, sz_of hz, fun p hp => q p _ (fresh_back (e2.trans e3) hp) ((e2.trans e3).trans (Ex.new hp)) upd_same⟩
theorem q_relX {sp : Sp} {dvs vs : List V} {E : XK} {t : TA} {i : Nat} (h : EvA t σ H vs) (k : ∀ H1, Ex H H1 → sp (vs ++ dvs) H1 (fun v H2 => tz D (σ.set i (some v)) H2) E) : tSeq (tAsg (tCall sp dvs E t) (gName i)) tz D σ H := h H (Ex.refl H) _ fun H1 e1 => k H1 e1
theorem el_catV {a b : Addr} {xs ys : List V} (h1 : Ev t1 σ H (.ref a)) (h2 : Ev t2 σ H (.ref b)) (ha : H a = some (.lst xs)) (hb : H b = some (.lst ys)) (hl : xs.length + ys.length ≤ 100000) : EvL (tOp rCat t1 t2) σ H (xs ++ ys) := fun H1 e Q q =>
  h1 H1 e _ fun H2 e2 => h2 H2 (e.trans e2) _ fun H3 e3 => ⟨a, b, xs, ys, rfl, rfl, ((e.trans e2).trans e3) _ _ ha, ((e.trans e2).trans e3) _ _ hb, sz_of hl, fun u hu => q u _ (fresh_back (e2.trans e3) hu) ((e2.trans e3).trans (Ex.new hu)) upd_same⟩
theorem s_clearE {l : Addr} {xs : List V} (h : Ev te σ H (.ref l)) (hl : H l = some (.lst xs)) (k : ∀ H1, Ex H H1 → D.nx σ (upd H1 l (.lst []))) : tDrop (tBM0 K "list" rClear te) D σ H :=
  h H (Ex.refl H) _ fun H1 e1 => ⟨.inl ⟨rfl, _, sq_of (e1 _ _ hl)⟩, l, _, rfl, rfl, e1 _ _ hl, k H1 e1⟩
end
theorem k_sortedPO {X : Cx} (K : PySem.W.Frag) (h : X.K = K := by rfl) : CallR X (.builtin "sorted") (rSortedPO K) := by
  subst h
  exact cr_sortedPO
/-! pairs as data -/
def dP (l : List Stp) : List PyData := l.map fun s => .tuple [.int s.1, .int s.2]
theorem dP_lay : ∀ l, PyData.canLayAll0 (dP l) = true ∧ PyData.depthAll (dP l) ≤ 1
  | [] => ⟨rfl, Nat.zero_le _⟩
  | w :: r => by
    obtain ⟨h1, h2⟩ := dP_lay r
    unfold dP at h1 h2 ⊢
    rw [List.map_cons]
    constructor
    · simp [PyData.canLayAll0, PyData.canLay0] at h1 ⊢
      exact h1
    · simp [PyData.depthAll, PyData.depth] at h2 ⊢
      omega
theorem dP_shaped (l : List Stp) : SeqAt.shaped (.list (dP l)) = true := by
  show (PyData.canLayAll0 (dP l) && decide (PyData.depthAll (dP l) + 1 ≤ 64)) = true
  obtain ⟨h1, h2⟩ := dP_lay l
  rw [h1, decide_eq_true (by omega)]
  rfl
theorem dP_eq : ∀ l, PyData.eqvAll (dP l) (dP l) = true
  | [] => rfl
  | w :: r => by
    have h := dP_eq r
    unfold dP at h ⊢
    rw [List.map_cons]
    show (PyData.eqv (.tuple [.int w.1, .int w.2]) (.tuple [.int w.1, .int w.2]) && _) = true
    rw [h, PyData.eqv]
    simp [PyData.eqv, PyData.eqvAll]
def decP (H : Hp) : V → Int × Int
  | .ref t => match H t with
    | some (.tup [.int i, .int j]) => (i, j)
    | _ => (0, 0)
  | _ => (0, 0)
theorem held_dec {H : Hp} : ∀ {ps : List Addr} {l : List Stp}, HeldP H ps l → (ps.map V.ref).map (decP H) = l ∧ ∀ x ∈ ps.map V.ref, ∃ t, x = V.ref t ∧ H t = some (.tup [.int (decP H x).1, .int (decP H x).2])
  | [], [], _ => ⟨rfl, fun x hx => nomatch hx⟩
  | [], _ :: _, h => absurd h.1 (by simp)
  | _ :: _, [], h => absurd h.1 (by simp)
  | p :: ps, s :: l, h => by
    have h0 := h.2 0 p s rfl rfl
    obtain ⟨i1, i2⟩ := held_dec (ps := ps) (l := l) ⟨by simpa using h.1, fun i q t hq ht => h.2 (i + 1) q t hq ht⟩
    have e : decP H (.ref p) = s := by
      show (match H p with
        | some (.tup [.int i, .int j]) => (i, j)
        | _ => (0, 0)) = s
      rw [h0]
    refine ⟨?_, fun x hx => ?_⟩
    · rw [List.map_cons, List.map_cons, i1, e]
    · rw [List.map_cons] at hx
      rcases List.mem_cons.mp hx with z | z
      · rw [z, e]
        exact ⟨p, rfl, h0⟩
      · exact i2 x z
theorem dpAll_pairs {K : PySem.W.Frag} {H : Hp} {k : V → Int × Int} : ∀ {ys : List V}, (∀ x ∈ ys, ∃ t, x = V.ref t ∧ H t = some (.tup [.int (k x).1, .int (k x).2])) → DpAll K H ys (dP (ys.map k))
  | [], _ => .nil
  | y :: ys, h => by
    obtain ⟨t, e, ht⟩ := h y List.mem_cons_self
    have ih := dpAll_pairs (K := K) (ys := ys) fun x hx => h x (List.mem_cons_of_mem _ hx)
    unfold dP at ih ⊢
    rw [List.map_cons, List.map_cons]
    refine .cons ?_ ih
    rw [e] at ht ⊢
    exact .tup (st_of ht) (.cons (.int _) (.cons (.int _) .nil))
theorem ev_sortNe {K : PySem.W.Frag} {σ : L2.St} {H : Hp} {t1 t2 : TE} {a b : Addr} {ps qs : List Addr} {l m : List Stp} (h1 : Ev t1 σ H (.ref a)) (h2 : Ev t2 σ H (.ref b)) (ha : H a = some (.lst (ps.map V.ref))) (hb : H b = some (.lst (qs.map V.ref))) (hp : HeldP H ps l) (hq : HeldP H qs m) (pm : l.Perm m) :
    Ev (tOp (rNeD K) (tCB (rSortedPO K) (tCons t1 tNil)) (tCB (rSortedPO K) (tCons t2 tNil))) σ H (.bl false) := fun H1 e Q q => by
  obtain ⟨d1, d2⟩ := held_dec hp
  obtain ⟨d3, d4⟩ := held_dec hq
  refine h1 H1 e _ fun H2 e2 => ⟨a, ps.map V.ref, decP H, rfl, sq_of ((e.trans e2) _ _ ha), fun x hx => ?_, fun ys u s1 s2 hu => ?_⟩
  · obtain ⟨t, e1, e3⟩ := d2 x hx
    exact ⟨t, e1, (e.trans e2) _ _ e3⟩
  have e12 := (e.trans e2).trans (Ex.new (o := .lst ys) hu)
  refine h2 _ e12 _ fun H3 e3 => ⟨b, qs.map V.ref, decP H, rfl, sq_of ((e12.trans e3) _ _ hb), fun x hx => ?_, fun zs w s3 s4 hw => ?_⟩
  · obtain ⟨t, e1, e4⟩ := d4 x hx
    exact ⟨t, e1, (e12.trans e3) _ _ e4⟩
  have e4 := e3.trans (Ex.new (o := .lst zs) hw)
  have y1 : SrtO.Srtd SrtO.lexB (ys.map (decP H)) := SrtO.srtd_map s1
  have y2 : SrtO.Srtd SrtO.lexB (zs.map (decP H)) := SrtO.srtd_map s3
  have p1 : (ys.map (decP H)).Perm l := by
    rw [← d1]
    exact s2.perm.map _
  have p2 : (zs.map (decP H)).Perm m := by
    rw [← d3]
    exact s4.perm.map _
  have ee : ys.map (decP H) = zs.map (decP H) := srt_uniq y1 y2 ((p1.trans pm).trans p2.symm)
  refine ⟨.list (dP (ys.map (decP H))), .list (dP (zs.map (decP H))), .lst (sq_of (e4 _ _ upd_same)) (dpAll_pairs fun x hx => ?_), .lst (sq_of upd_same) (dpAll_pairs fun x hx => ?_), dP_shaped _, dP_shaped _, ?_⟩
  · obtain ⟨t, e1, e5⟩ := d2 x (s2.perm.mem_iff.mp hx)
    exact ⟨t, e1, (e12.trans e4) _ _ e5⟩
  · obtain ⟨t, e1, e5⟩ := d4 x (s4.perm.mem_iff.mp hx)
    exact ⟨t, e1, (e12.trans e4) _ _ e5⟩
  · rw [ee, PyData.eqv, dP_eq]
    exact q _ ((e2.trans (Ex.new hu)).trans e4)
/-! a loop looked at -/
theorem expand_len : ∀ (ts : List Int) (s : Int), (expand s ts).length = ts.length
  | [], _ => rfl
  | p :: r, s => by
    rw [expand, List.length_cons, List.length_cons, expand_len r]
theorem expand_at : ∀ {ts : List Int} {s : Int} {i : Nat} {p : Int}, ts[i]? = some p → (expand s ts)[i]? = some ((ts.take i).foldl ledI s, p)
  | [], _, _, _, h => by simp at h
  | t :: r, s, 0, p, h => by
    injection h with h
    rw [expand, ← h]
    rfl
  | t :: r, s, i + 1, p, h => by
    have ih := expand_at (ts := r) (s := ledI s t) (i := i) (p := p) h
    rw [expand]
    exact ih
theorem follow_end : ∀ {ts : List Int} {s t : Int}, follow s (expand s ts) t → ts.foldl ledI s = t
  | [], _, _, h => h
  | p :: r, s, t, h => by
    rw [expand] at h
    exact follow_end (ts := r) h.2
theorem of_steps {ns : List Int} {x : Stp} (h : x ∈ stepsI ns) : ∃ b : Nat, b < ns.length ∧ x.1 = st ns (b : Int) ∧ x.2 = ns.getD b 0 := by
  unfold stepsI at h
  obtain ⟨b, hb, rfl⟩ := List.mem_map.mp h
  exact ⟨b, List.mem_range.mp hb, rfl, rfl⟩
def RetS (l : List Stp) (H : Hp) (Q : VK) : Prop := ∀ p ps H2, H p = none → Ex H H2 → H2 p = some (.lst (ps.map V.ref)) → HeldP H2 ps l → Q (.ref p) H2
def sp_loop_steps (K : PySem.W.Frag) : Sp := fun vs H Q E => ∃ (t e : Addr) (l : Int × List Int) (ns : List Int), vs = [.ref t] ∧ H t = some (.tup [.int l.1, .ref e]) ∧ H e = some (.lst (l.2.map V.int)) ∧ Plain ns ∧ LoopOk ns l ∧ l.2.length ≤ 60 ∧ RetS (expand l.1 l.2) H Q
theorem sc__law_loop_steps : FnScope ["_law_loop", "_law_state", "_law_steps", "_law_throw", "_law_step"] ["_law_loop"] (defScope s__law_loop_steps) := ⟨rfl, rfl, rfl, by decide +kernel, rfl, by decide +kernel, by decide +kernel⟩
theorem ok__law_loop_steps {P : Program} {w : World} {K : PySem.W.Frag} {mg : Str → Option Value} {base : Heap} (T : TXT K mg) : OK P w K mg base "_law_loop_steps" ["_law_loop"] 2 (sp_loop_steps K) := by
  have O__law_led := ok__law_led (P := P) (w := w) (base := base) T
  obtain ⟨fd, F⟩ := T.def_ 17
  refine ⟨_, fd, T.glo 16, F.kp, F.bindsN (fun _ _ _ _ _ _ us hl => match us, hl with | [_], _ => rfl), F.ok sc__law_loop_steps (fun vs H Q E h => ?_) (fun cdv A outer s H vs Q E hr h => ?_), F.bindsA (fun _ _ _ _ _ _ us hl => match us, hl with | [_], _ => rfl)⟩
  · first | (obtain ⟨rfl, _⟩ := h; rfl) | (obtain ⟨_, rfl, _⟩ := h; rfl) | (obtain ⟨_, _, rfl, _⟩ := h; rfl) | (obtain ⟨_, _, _, rfl, _⟩ := h; rfl) | (obtain ⟨_, _, _, _, rfl, _⟩ := h; rfl) | (obtain ⟨_, _, _, _, _, rfl, _⟩ := h; rfl) | (obtain ⟨_, _, _, _, _, _, rfl, _⟩ := h; rfl) | (obtain ⟨_, _, _, _, _, _, _, rfl, _⟩ := h; rfl) | (obtain ⟨_, _, _, _, _, _, _, _, rfl, _⟩ := h; rfl)
  · replace F : FunD K "_law_loop_steps" "_law_loop_steps" (defArgs s__law_loop_steps) (defBody s__law_loop_steps) (defScope s__law_loop_steps) [] [] (He.ga K "_law_loop_steps") fd := F
    refine ⟨_, (pss_cons (ps_if (PW.pt (pw_or (pt_not (pt_val (pe_callB (id := "isinstance") (k_isi K) (by rfl) (T.free 27) (by decide +kernel) (pa_cons (pv 0) (pa_cons (pe_ty (T := "tuple") (T.free 34) (by decide +kernel)) pa_nil))))) (pw_or (pt_cmpR op_ne (pe_callB (id := "len") (k_len K) (by rfl) (T.free 28) (by decide +kernel) (pa_cons (pv 0) pa_nil)) pe_int (nomark _)) (pw_or (pt_not (pt_val (pe_callB (id := "isinstance") (k_isi K) (by rfl) (T.free 27) (by decide +kernel) (pa_cons (pe_ix (k_ixT K) (pv 0) pe_int (fun _ _ => rfl)) (pa_cons (pe_ty (T := "list") (T.free 29) (by decide +kernel)) pa_nil))))) (pw_or1 (pt_not (pt_truth (pe_ix (k_ixT K) (pv 0) pe_int (fun _ _ => rfl)) (by intro _; rfl))))))))
        (pss_one (ps_ret pe_non))
        pss_nil)
      (pss_cons (ps_set (i := 1) sc__law_loop_steps.nd rfl (Or.inl rfl) (pe_ix (k_ixT K) (pv 0) pe_int (fun _ _ => rfl)))
      (pss_cons (ps_if (PW.pt (pw_or (pt_not (pt_val (pe_callB (id := "isinstance") (k_isi K) (by rfl) (T.free 27) (by decide +kernel) (pa_cons (pv 1) (pa_cons (pe_ty (T := "int") (T.free 26) (by decide +kernel)) pa_nil))))) (pw_or (pt_val (pe_callB (id := "isinstance") (k_isi K) (by rfl) (T.free 27) (by decide +kernel) (pa_cons (pv 1) (pa_cons (pe_ty (T := "bool") (T.free 25) (by decide +kernel)) pa_nil)))) (pw_or1 (pt_not (pt_chain op_le op_lt pe_int (pv 1) (pe_op op_pow pe_int pe_int)))))))
        (pss_one (ps_ret pe_non))
        pss_nil)
      (pss_cons (ps_set (i := 2) sc__law_loop_steps.nd rfl (Or.inl rfl) (pe_lst pa_nil))
      (pss_cons (ps_for (passes_of rfl) rfl (k_piL K (pe_ix (k_ixT K) (pv 0) pe_int (fun _ _ => rfl))) (pg_name (i := 3) sc__law_loop_steps.nd rfl (Or.inl rfl))
        (pss_cons (ps_if (PW.pt (pw_or (pt_cmpR op_lt (pv 1) pe_int (nomark _)) (pw_or1 (pt_cmpR (k_in K) (pv 1) (pe_lc (own := [("_law_step", 4)]) (g := gName 4) (tt := tYes) rfl sc__law_loop_steps.nd (k_piL K (pv 2)) (blkOk_by (N := ["_law_loop", "_law_state", "_law_steps", "_law_throw", "_law_step"]) (sc := defScope s__law_loop_steps) (by decide +kernel)) (fun _ _ _ _ _ => pg_name (i := 4) sc__law_loop_steps.nd rfl (Or.inl rfl)) (fun _ _ _ _ _ => pts_nil) (fun _ _ _ _ _ => (pe_ix (k_ixT K) (pv 4) pe_int (fun _ _ => rfl)))) (by rfl)))))
        (pss_one (ps_ret pe_non))
        pss_nil)
      (pss_cons (ps_expr (pe_bm PySem.F.plainAttrs_list PySem.F.slot_list_append PySem.F.type_list_append mt_append (pv 2) (pa_cons (pe_tup (pa_cons (pv 1) (pa_cons (pv 3) pa_nil))) pa_nil)))
      (pss_one (ps_set (i := 1) sc__law_loop_steps.nd rfl (Or.inl rfl) (pe_own O__law_led (hr.mono (by decide)) (by rfl) (passes_call (takes_of rfl rfl rfl rfl) (fun _ _ _ _ h => h)) (pa_cons (pv 1) (pa_cons (pv 3) pa_nil))))))))
      (pss_cons (ps_if (pt_cmpR op_ne (pv 1) (pe_ix (k_ixT K) (pv 0) pe_int (fun _ _ => rfl)) (nomark _))
        (pss_one (ps_ret pe_non))
        pss_nil)
      (pss_one (ps_ret (pv 2))))))))), ?_⟩
    obtain ⟨t, e, l, ns, rfl, ht, he, pl, lo, l60, q⟩ := h
    dsimp only [cxOf, L2.start, List.map_cons, List.map_nil, List.length_cons, List.length_nil, Nat.reduceAdd, Nat.reduceSub, List.replicate_succ, List.replicate_zero, List.cons_append, List.nil_append, Nat.zero_add, List.reduceReplicate, List.map]
    have st0 : SqT K H t [.int l.1, .ref e] := st_of ht
    have at0 : atI [V.int l.1, V.ref e] 0 = some (V.int l.1) := rfl
    have at1 : atI [V.int l.1, V.ref e] 1 = some (V.ref e) := rfl
    have hne := lo.ne
    have hpos : 0 < l.2.length := List.length_pos_iff.mpr hne
    obtain ⟨s0, ts⟩ := l
    dsimp only at *
    have mem0 : ∀ i p, ts[i]? = some p → ∃ b : Nat, b < ns.length ∧ (ts.take i).foldl ledI s0 = st ns (b : Int) ∧ p = ns.getD b 0 := fun i p hp => of_steps (lo.of _ (List.mem_of_getElem? (expand_at (s := s0) hp)))
    have lst0 : ∀ {H1 : Hp}, Ex H H1 → EvT (fun σ H Q => (tOp (rIxT K) (tVar 0) (tC (V.int 1))) σ H fun x H' => ∃ k, TruV K x H' k ∧ Q k H') [some (V.ref t), none, none, none, none] H1 true := fun {H1} e1 => et_tru (K := K) (v := .ref e) (ev_op (ev_var rfl) ev_c (rv_ixT (ex_t e1 st0) at1)) fun H5 e5 => .inl ⟨ts.map V.int, sq_of ((e1.trans e5) _ _ he), by
      cases ts with
      | nil => exact absurd rfl hne
      | cons a r => rfl⟩
    refine q_when (b := !true || (!decide (V.int (([V.int s0, V.ref e] : List V).length : Int) = V.int 2) || (!true || !true))) (et_or2 (by (repeat' (first | with_reducible exact ev_c | ((with_reducible show Ev (tVar _) _ _ _); exact ev_var rfl) | with_reducible exact ea_nil | with_reducible exact eo_none | with_reducible refine' ea_cons ?_ ?_ | with_reducible refine' eo_some ?_ | with_reducible refine' ev_and2 ?_ ?_ | with_reducible refine' ev_or2 ?_ ?_ | with_reducible refine' ev_notV ?_ | with_reducible exact ru_I | with_reducible refine' ev_un ?_ ?_ | with_reducible exact rv_I0 | with_reducible exact rv_isN | with_reducible exact rv_notN | with_reducible refine' rv_I ?_ | with_reducible refine' rv_eq ?_ | with_reducible refine' rv_ne ?_ | with_reducible refine' ev_op ?_ ?_ ?_ | with_reducible refine' ev_chain2 ?_ ?_ ?_ ?_ ?_ | with_reducible refine' et_B ?_ | with_reducible refine' et_test ?_ | with_reducible refine' et_and2 ?_ ?_ | with_reducible refine' et_or2 ?_ ?_ | with_reducible refine' et_not ?_ | with_reducible refine' ev_call ?_ ?_ | with_reducible refine' ev_callS ?_ ?_ | with_reducible refine' ev_cb ?_ ?_ | with_reducible exact isi_bool (by assumption) | with_reducible exact isi_int (by assumption) | with_reducible exact isi_list (by assumption) | with_reducible exact rc_len (by assumption) | with_reducible exact rc_sum (by assumption) | with_reducible exact rc_abs | with_reducible exact isi_listL (by assumption) | with_reducible exact isi_intI | with_reducible exact isi_boolI | with_reducible exact rc_lenT (by assumption) | with_reducible exact isi_tup (by assumption) | with_reducible exact rv_eqL (by assumption) (by assumption) | with_reducible exact rv_neL (by assumption) (by assumption) | with_reducible exact rv_neT (by assumption) (by assumption) | with_reducible exact rv_ixL (by assumption) (by assumption) | with_reducible exact rv_ixT (by assumption) (by assumption) | with_reducible refine' ev_din ?_ ?_ (by assumption) | with_reducible refine' ev_dnotin ?_ ?_ (by assumption) | with_reducible refine' ev_dget ?_ ?_ (by assumption) (by assumption) | ((with_reducible show SpV _ _ _ _); assumption) | ((with_reducible show RV _ _ _ _ _); assumption) | ((with_reducible show RC _ _ _ _); assumption) | ((with_reducible show CDiv _ _); exact ⟨by omega, by omega⟩) | ((with_reducible show CMul _ _); first | exact .inl ⟨by omega, by omega⟩ | exact .inr ⟨by omega, by omega⟩) | ((with_reducible show CPow _ _); exact ⟨by omega, by omega, by decide⟩) | ((with_reducible show (0 : Int) < _); omega) | ((with_reducible show (0 : Int) ≤ _); omega) | ((with_reducible show scal _ _ = true); rfl)))) (et_or2 (by (repeat' (first | with_reducible exact ev_c | ((with_reducible show Ev (tVar _) _ _ _); exact ev_var rfl) | with_reducible exact ea_nil | with_reducible exact eo_none | with_reducible refine' ea_cons ?_ ?_ | with_reducible refine' eo_some ?_ | with_reducible refine' ev_and2 ?_ ?_ | with_reducible refine' ev_or2 ?_ ?_ | with_reducible refine' ev_notV ?_ | with_reducible exact ru_I | with_reducible refine' ev_un ?_ ?_ | with_reducible exact rv_I0 | with_reducible exact rv_isN | with_reducible exact rv_notN | with_reducible refine' rv_I ?_ | with_reducible refine' rv_eq ?_ | with_reducible refine' rv_ne ?_ | with_reducible refine' ev_op ?_ ?_ ?_ | with_reducible refine' ev_chain2 ?_ ?_ ?_ ?_ ?_ | with_reducible refine' et_B ?_ | with_reducible refine' et_test ?_ | with_reducible refine' et_and2 ?_ ?_ | with_reducible refine' et_or2 ?_ ?_ | with_reducible refine' et_not ?_ | with_reducible refine' ev_call ?_ ?_ | with_reducible refine' ev_callS ?_ ?_ | with_reducible refine' ev_cb ?_ ?_ | with_reducible exact isi_bool (by assumption) | with_reducible exact isi_int (by assumption) | with_reducible exact isi_list (by assumption) | with_reducible exact rc_len (by assumption) | with_reducible exact rc_sum (by assumption) | with_reducible exact rc_abs | with_reducible exact isi_listL (by assumption) | with_reducible exact isi_intI | with_reducible exact isi_boolI | with_reducible exact rc_lenT (by assumption) | with_reducible exact isi_tup (by assumption) | with_reducible exact rv_eqL (by assumption) (by assumption) | with_reducible exact rv_neL (by assumption) (by assumption) | with_reducible exact rv_neT (by assumption) (by assumption) | with_reducible exact rv_ixL (by assumption) (by assumption) | with_reducible exact rv_ixT (by assumption) (by assumption) | with_reducible refine' ev_din ?_ ?_ (by assumption) | with_reducible refine' ev_dnotin ?_ ?_ (by assumption) | with_reducible refine' ev_dget ?_ ?_ (by assumption) (by assumption) | ((with_reducible show SpV _ _ _ _); assumption) | ((with_reducible show RV _ _ _ _ _); assumption) | ((with_reducible show RC _ _ _ _); assumption) | ((with_reducible show CDiv _ _); exact ⟨by omega, by omega⟩) | ((with_reducible show CMul _ _); first | exact .inl ⟨by omega, by omega⟩ | exact .inr ⟨by omega, by omega⟩) | ((with_reducible show CPow _ _); exact ⟨by omega, by omega, by decide⟩) | ((with_reducible show (0 : Int) < _); omega) | ((with_reducible show (0 : Int) ≤ _); omega) | ((with_reducible show scal _ _ = true); rfl)))) (et_or2 (by (repeat' (first | with_reducible exact ev_c | ((with_reducible show Ev (tVar _) _ _ _); exact ev_var rfl) | with_reducible exact ea_nil | with_reducible exact eo_none | with_reducible refine' ea_cons ?_ ?_ | with_reducible refine' eo_some ?_ | with_reducible refine' ev_and2 ?_ ?_ | with_reducible refine' ev_or2 ?_ ?_ | with_reducible refine' ev_notV ?_ | with_reducible exact ru_I | with_reducible refine' ev_un ?_ ?_ | with_reducible exact rv_I0 | with_reducible exact rv_isN | with_reducible exact rv_notN | with_reducible refine' rv_I ?_ | with_reducible refine' rv_eq ?_ | with_reducible refine' rv_ne ?_ | with_reducible refine' ev_op ?_ ?_ ?_ | with_reducible refine' ev_chain2 ?_ ?_ ?_ ?_ ?_ | with_reducible refine' et_B ?_ | with_reducible refine' et_test ?_ | with_reducible refine' et_and2 ?_ ?_ | with_reducible refine' et_or2 ?_ ?_ | with_reducible refine' et_not ?_ | with_reducible refine' ev_call ?_ ?_ | with_reducible refine' ev_callS ?_ ?_ | with_reducible refine' ev_cb ?_ ?_ | with_reducible exact isi_bool (by assumption) | with_reducible exact isi_int (by assumption) | with_reducible exact isi_list (by assumption) | with_reducible exact rc_len (by assumption) | with_reducible exact rc_sum (by assumption) | with_reducible exact rc_abs | with_reducible exact isi_listL (by assumption) | with_reducible exact isi_intI | with_reducible exact isi_boolI | with_reducible exact rc_lenT (by assumption) | with_reducible exact isi_tup (by assumption) | with_reducible exact rv_eqL (by assumption) (by assumption) | with_reducible exact rv_neL (by assumption) (by assumption) | with_reducible exact rv_neT (by assumption) (by assumption) | with_reducible exact rv_ixL (by assumption) (by assumption) | with_reducible exact rv_ixT (by assumption) (by assumption) | with_reducible refine' ev_din ?_ ?_ (by assumption) | with_reducible refine' ev_dnotin ?_ ?_ (by assumption) | with_reducible refine' ev_dget ?_ ?_ (by assumption) (by assumption) | ((with_reducible show SpV _ _ _ _); assumption) | ((with_reducible show RV _ _ _ _ _); assumption) | ((with_reducible show RC _ _ _ _); assumption) | ((with_reducible show CDiv _ _); exact ⟨by omega, by omega⟩) | ((with_reducible show CMul _ _); first | exact .inl ⟨by omega, by omega⟩ | exact .inr ⟨by omega, by omega⟩) | ((with_reducible show CPow _ _); exact ⟨by omega, by omega, by decide⟩) | ((with_reducible show (0 : Int) < _); omega) | ((with_reducible show (0 : Int) ≤ _); omega) | ((with_reducible show scal _ _ = true); rfl)))) (et_not (lst0 (Ex.refl H)))))) (fun h => by simp at h) (fun _ H1 e1 => ?_)
    have st1 := ex_t e1 st0
    refine q_asg (v := .int s0) (by (repeat' (first | with_reducible exact ev_c | ((with_reducible show Ev (tVar _) _ _ _); exact ev_var rfl) | with_reducible exact ea_nil | with_reducible exact eo_none | with_reducible refine' ea_cons ?_ ?_ | with_reducible refine' eo_some ?_ | with_reducible refine' ev_and2 ?_ ?_ | with_reducible refine' ev_or2 ?_ ?_ | with_reducible refine' ev_notV ?_ | with_reducible exact ru_I | with_reducible refine' ev_un ?_ ?_ | with_reducible exact rv_I0 | with_reducible exact rv_isN | with_reducible exact rv_notN | with_reducible refine' rv_I ?_ | with_reducible refine' rv_eq ?_ | with_reducible refine' rv_ne ?_ | with_reducible refine' ev_op ?_ ?_ ?_ | with_reducible refine' ev_chain2 ?_ ?_ ?_ ?_ ?_ | with_reducible refine' et_B ?_ | with_reducible refine' et_test ?_ | with_reducible refine' et_and2 ?_ ?_ | with_reducible refine' et_or2 ?_ ?_ | with_reducible refine' et_not ?_ | with_reducible refine' ev_call ?_ ?_ | with_reducible refine' ev_callS ?_ ?_ | with_reducible refine' ev_cb ?_ ?_ | with_reducible exact isi_bool (by assumption) | with_reducible exact isi_int (by assumption) | with_reducible exact isi_list (by assumption) | with_reducible exact rc_len (by assumption) | with_reducible exact rc_sum (by assumption) | with_reducible exact rc_abs | with_reducible exact isi_listL (by assumption) | with_reducible exact isi_intI | with_reducible exact isi_boolI | with_reducible exact rc_lenT (by assumption) | with_reducible exact isi_tup (by assumption) | with_reducible exact rv_eqL (by assumption) (by assumption) | with_reducible exact rv_neL (by assumption) (by assumption) | with_reducible exact rv_neT (by assumption) (by assumption) | with_reducible exact rv_ixL (by assumption) (by assumption) | with_reducible exact rv_ixT (by assumption) (by assumption) | with_reducible refine' ev_din ?_ ?_ (by assumption) | with_reducible refine' ev_dnotin ?_ ?_ (by assumption) | with_reducible refine' ev_dget ?_ ?_ (by assumption) (by assumption) | ((with_reducible show SpV _ _ _ _); assumption) | ((with_reducible show RV _ _ _ _ _); assumption) | ((with_reducible show RC _ _ _ _); assumption) | ((with_reducible show CDiv _ _); exact ⟨by omega, by omega⟩) | ((with_reducible show CMul _ _); first | exact .inl ⟨by omega, by omega⟩ | exact .inr ⟨by omega, by omega⟩) | ((with_reducible show CPow _ _); exact ⟨by omega, by omega, by decide⟩) | ((with_reducible show (0 : Int) < _); omega) | ((with_reducible show (0 : Int) ≤ _); omega) | ((with_reducible show scal _ _ = true); rfl)))) fun H2 e2 => ?_
    have sb : 0 ≤ s0 ∧ s0 < 1152921504606846976 := by
      obtain ⟨b, _, e3, _⟩ := mem0 0 _ (List.getElem?_eq_getElem hpos)
      have e3 : s0 = st ns (b : Int) := e3
      rw [e3]
      exact st_is _
    refine q_when (b := !true || (false || !(decide ((0 : Int) ≤ s0) && decide (s0 < 2 ^ (60 : Int).toNat)))) (by (repeat' (first | with_reducible exact ev_c | ((with_reducible show Ev (tVar _) _ _ _); exact ev_var rfl) | with_reducible exact ea_nil | with_reducible exact eo_none | with_reducible refine' ea_cons ?_ ?_ | with_reducible refine' eo_some ?_ | with_reducible refine' ev_and2 ?_ ?_ | with_reducible refine' ev_or2 ?_ ?_ | with_reducible refine' ev_notV ?_ | with_reducible exact ru_I | with_reducible refine' ev_un ?_ ?_ | with_reducible exact rv_I0 | with_reducible exact rv_isN | with_reducible exact rv_notN | with_reducible refine' rv_I ?_ | with_reducible refine' rv_eq ?_ | with_reducible refine' rv_ne ?_ | with_reducible refine' ev_op ?_ ?_ ?_ | with_reducible refine' ev_chain2 ?_ ?_ ?_ ?_ ?_ | with_reducible refine' et_B ?_ | with_reducible refine' et_test ?_ | with_reducible refine' et_and2 ?_ ?_ | with_reducible refine' et_or2 ?_ ?_ | with_reducible refine' et_not ?_ | with_reducible refine' ev_call ?_ ?_ | with_reducible refine' ev_callS ?_ ?_ | with_reducible refine' ev_cb ?_ ?_ | with_reducible exact isi_bool (by assumption) | with_reducible exact isi_int (by assumption) | with_reducible exact isi_list (by assumption) | with_reducible exact rc_len (by assumption) | with_reducible exact rc_sum (by assumption) | with_reducible exact rc_abs | with_reducible exact isi_listL (by assumption) | with_reducible exact isi_intI | with_reducible exact isi_boolI | with_reducible exact rc_lenT (by assumption) | with_reducible exact isi_tup (by assumption) | with_reducible exact rv_eqL (by assumption) (by assumption) | with_reducible exact rv_neL (by assumption) (by assumption) | with_reducible exact rv_neT (by assumption) (by assumption) | with_reducible exact rv_ixL (by assumption) (by assumption) | with_reducible exact rv_ixT (by assumption) (by assumption) | with_reducible refine' ev_din ?_ ?_ (by assumption) | with_reducible refine' ev_dnotin ?_ ?_ (by assumption) | with_reducible refine' ev_dget ?_ ?_ (by assumption) (by assumption) | ((with_reducible show SpV _ _ _ _); assumption) | ((with_reducible show RV _ _ _ _ _); assumption) | ((with_reducible show RC _ _ _ _); assumption) | ((with_reducible show CDiv _ _); exact ⟨by omega, by omega⟩) | ((with_reducible show CMul _ _); first | exact .inl ⟨by omega, by omega⟩ | exact .inr ⟨by omega, by omega⟩) | ((with_reducible show CPow _ _); exact ⟨by omega, by omega, by decide⟩) | ((with_reducible show (0 : Int) < _); omega) | ((with_reducible show (0 : Int) ≤ _); omega) | ((with_reducible show scal _ _ = true); rfl)))) (fun h => by
      rw [decide_eq_true sb.1, decide_eq_true (show s0 < 2 ^ (60 : Int).toNat from sb.2)] at h
      simp at h) (fun _ H3 e3 => ?_)
    refine q_asgL (xs := []) (el_lst ea_nil (by decide)) fun sl H4 hsl e4 h4 => ?_
    have e14 := ((e1.trans e2).trans e3)
    have slH : H sl = none := fresh_back e14 hsl
    have he4 := (e14.trans e4) _ _ he
    have st4 := ex_t (e14.trans e4) st0
    refine q_forLn (a := e) (xs := ts.map V.int) (by (repeat' (first | with_reducible exact ev_c | ((with_reducible show Ev (tVar _) _ _ _); exact ev_var rfl) | with_reducible exact ea_nil | with_reducible exact eo_none | with_reducible refine' ea_cons ?_ ?_ | with_reducible refine' eo_some ?_ | with_reducible refine' ev_and2 ?_ ?_ | with_reducible refine' ev_or2 ?_ ?_ | with_reducible refine' ev_notV ?_ | with_reducible exact ru_I | with_reducible refine' ev_un ?_ ?_ | with_reducible exact rv_I0 | with_reducible exact rv_isN | with_reducible exact rv_notN | with_reducible refine' rv_I ?_ | with_reducible refine' rv_eq ?_ | with_reducible refine' rv_ne ?_ | with_reducible refine' ev_op ?_ ?_ ?_ | with_reducible refine' ev_chain2 ?_ ?_ ?_ ?_ ?_ | with_reducible refine' et_B ?_ | with_reducible refine' et_test ?_ | with_reducible refine' et_and2 ?_ ?_ | with_reducible refine' et_or2 ?_ ?_ | with_reducible refine' et_not ?_ | with_reducible refine' ev_call ?_ ?_ | with_reducible refine' ev_callS ?_ ?_ | with_reducible refine' ev_cb ?_ ?_ | with_reducible exact isi_bool (by assumption) | with_reducible exact isi_int (by assumption) | with_reducible exact isi_list (by assumption) | with_reducible exact rc_len (by assumption) | with_reducible exact rc_sum (by assumption) | with_reducible exact rc_abs | with_reducible exact isi_listL (by assumption) | with_reducible exact isi_intI | with_reducible exact isi_boolI | with_reducible exact rc_lenT (by assumption) | with_reducible exact isi_tup (by assumption) | with_reducible exact rv_eqL (by assumption) (by assumption) | with_reducible exact rv_neL (by assumption) (by assumption) | with_reducible exact rv_neT (by assumption) (by assumption) | with_reducible exact rv_ixL (by assumption) (by assumption) | with_reducible exact rv_ixT (by assumption) (by assumption) | with_reducible refine' ev_din ?_ ?_ (by assumption) | with_reducible refine' ev_dnotin ?_ ?_ (by assumption) | with_reducible refine' ev_dget ?_ ?_ (by assumption) (by assumption) | ((with_reducible show SpV _ _ _ _); assumption) | ((with_reducible show RV _ _ _ _ _); assumption) | ((with_reducible show RC _ _ _ _); assumption) | ((with_reducible show CDiv _ _); exact ⟨by omega, by omega⟩) | ((with_reducible show CMul _ _); first | exact .inl ⟨by omega, by omega⟩ | exact .inr ⟨by omega, by omega⟩) | ((with_reducible show CPow _ _); exact ⟨by omega, by omega, by decide⟩) | ((with_reducible show (0 : Int) < _); omega) | ((with_reducible show (0 : Int) ≤ _); omega) | ((with_reducible show scal _ _ = true); rfl)))) (sq_of he4) (fun i σ' H' => ∃ (y3 : Option V) (ps : List Addr), σ' = [some (V.ref t), some (V.int ((ts.take i).foldl ledI s0)), some (V.ref sl), y3, none] ∧ Ex H H' ∧ H' sl = some (.lst (ps.map V.ref)) ∧ HeldP H' ps ((expand s0 ts).take i)) (fun H5 e5 => ⟨_, [], rfl, (e14.trans e4).trans e5, e5 _ _ h4, ⟨by simp, fun i p s h => by simp at h⟩⟩) (fun i σ' H' _ ⟨_, _, _, e5, _⟩ => sq_of (e5 _ _ he)) ?_ ?_
    · rintro i x σ' H' hx ⟨y3, ps, rfl, e5, h5, hP⟩
      rw [List.getElem?_map] at hx
      obtain ⟨p, hp, rfl⟩ := Option.map_eq_some_iff.mp hx
      have hi : i < ts.length := (List.getElem?_eq_some_iff.mp hp).1
      obtain ⟨b, hb, es, ep⟩ := mem0 i p hp
      have ex := expand_at (s := s0) hp
      have sbb := st_is (ns := ns) (b : Int)
      have ht1 : (expand s0 ts).take (i + 1) = (expand s0 ts).take i ++ [((ts.take i).foldl ledI s0, p)] := by
        rw [List.take_add_one, ex]
        rfl
      have hf : (ts.take (i + 1)).foldl ledI s0 = ledI ((ts.take i).foldl ledI s0) p := by
        rw [List.take_add_one, hp, List.foldl_append]
        rfl
      have plen : ps.length ≤ 60 := by
        rw [hP.1, List.length_take, expand_len]
        omega
      have hno : (ts.take i).foldl ledI s0 ∉ ((expand s0 ts).take i).map Prod.fst := fun hm => by
        have nd := lo.nd
        rw [List.map_take] at hm
        obtain ⟨m, hm1, hm2⟩ := List.mem_iff_getElem.mp hm
        rw [List.length_take] at hm1
        rw [List.getElem_take] at hm2
        have h2 : ((expand s0 ts).map Prod.fst)[i]? = some ((ts.take i).foldl ledI s0) := by
          rw [List.getElem?_map, ex]
          rfl
        obtain ⟨h3, h4⟩ := List.getElem?_eq_some_iff.mp h2
        have := (List.getElem_inj nd).mp (hm2.trans h4.symm)
        omega
      rw [hf, ht1]
      generalize (ts.take i).foldl ledI s0 = s at *
      generalize (expand s0 ts).take i = pre at *
      refine q_when (b := decide (s < 0) || decide (s ∈ pre.map Prod.fst)) (et_or2 (by (repeat' (first | with_reducible exact ev_c | ((with_reducible show Ev (tVar _) _ _ _); exact ev_var rfl) | with_reducible exact ea_nil | with_reducible exact eo_none | with_reducible refine' ea_cons ?_ ?_ | with_reducible refine' eo_some ?_ | with_reducible refine' ev_and2 ?_ ?_ | with_reducible refine' ev_or2 ?_ ?_ | with_reducible refine' ev_notV ?_ | with_reducible exact ru_I | with_reducible refine' ev_un ?_ ?_ | with_reducible exact rv_I0 | with_reducible exact rv_isN | with_reducible exact rv_notN | with_reducible refine' rv_I ?_ | with_reducible refine' rv_eq ?_ | with_reducible refine' rv_ne ?_ | with_reducible refine' ev_op ?_ ?_ ?_ | with_reducible refine' ev_chain2 ?_ ?_ ?_ ?_ ?_ | with_reducible refine' et_B ?_ | with_reducible refine' et_test ?_ | with_reducible refine' et_and2 ?_ ?_ | with_reducible refine' et_or2 ?_ ?_ | with_reducible refine' et_not ?_ | with_reducible refine' ev_call ?_ ?_ | with_reducible refine' ev_callS ?_ ?_ | with_reducible refine' ev_cb ?_ ?_ | with_reducible exact isi_bool (by assumption) | with_reducible exact isi_int (by assumption) | with_reducible exact isi_list (by assumption) | with_reducible exact rc_len (by assumption) | with_reducible exact rc_sum (by assumption) | with_reducible exact rc_abs | with_reducible exact isi_listL (by assumption) | with_reducible exact isi_intI | with_reducible exact isi_boolI | with_reducible exact rc_lenT (by assumption) | with_reducible exact isi_tup (by assumption) | with_reducible exact rv_eqL (by assumption) (by assumption) | with_reducible exact rv_neL (by assumption) (by assumption) | with_reducible exact rv_neT (by assumption) (by assumption) | with_reducible exact rv_ixL (by assumption) (by assumption) | with_reducible exact rv_ixT (by assumption) (by assumption) | with_reducible refine' ev_din ?_ ?_ (by assumption) | with_reducible refine' ev_dnotin ?_ ?_ (by assumption) | with_reducible refine' ev_dget ?_ ?_ (by assumption) (by assumption) | ((with_reducible show SpV _ _ _ _); assumption) | ((with_reducible show RV _ _ _ _ _); assumption) | ((with_reducible show RC _ _ _ _); assumption) | ((with_reducible show CDiv _ _); exact ⟨by omega, by omega⟩) | ((with_reducible show CMul _ _); first | exact .inl ⟨by omega, by omega⟩ | exact .inr ⟨by omega, by omega⟩) | ((with_reducible show CPow _ _); exact ⟨by omega, by omega, by decide⟩) | ((with_reducible show (0 : Int) < _); omega) | ((with_reducible show (0 : Int) ≤ _); omega) | ((with_reducible show scal _ _ = true); rfl)))) (et_is (et_test (ev_opL (xs := (pre.map Prod.fst).map V.int) (ev_var rfl) (el_fld (c := 0) Prod.fst (ev_var rfl) (sq_of h5) hP (by omega) (fun _ => rfl) (fun _ => rfl) (fun _ => rfl)) fun u H6 h6 e6 => rv_inL (neg := false) (sq_of h6) rfl (flat_ints _))) inV_int)) (fun h => ?_) (fun _ H6 e6 => ?_)
      · rw [decide_eq_false (show ¬ s < 0 by omega), decide_eq_false hno] at h
        simp at h
      have h6 := e6 _ _ h5
      refine q_appU (ys := [.int s, .int p]) h6 (ev_var rfl) (eu_tup (ea_cons (ev_var rfl) (ea_cons (ev_var rfl) ea_nil)) (by simp)) (by rw [List.length_map]; omega) fun T H7 hT e7 h7 => ?_
      have hP7 : HeldP H7 (ps ++ [T]) (pre ++ [(s, p)]) := HeldP.snoc (hP.mono fun x u hu => (e6.trans e7) _ _ hu) h7
      have h57 := (e6.trans e7) _ _ h5
      have e8 : Ex H (upd H7 sl (.lst (ps.map V.ref ++ [.ref T]))) := Ex.mut ((e5.trans e6).trans e7) slH
      have h8 : (upd H7 sl (.lst (ps.map V.ref ++ [.ref T]))) sl = some (.lst ((ps ++ [T]).map V.ref)) := by
        rw [upd_same, List.map_append]
        rfl
      have hP8 : HeldP (upd H7 sl (.lst (ps.map V.ref ++ [.ref T]))) (ps ++ [T]) (pre ++ [(s, p)]) := hP7.mono fun x u hu => by
        rw [upd_ne fun z => by rw [z, h57] at hu; cases hu]
        exact hu
      generalize upd H7 sl (.lst (ps.map V.ref ++ [.ref T])) = H8 at *
      have ep2 : p = Pt ns (b : Int) := by rw [pt_at hb]; exact ep
      have ln := led_next pl (b : Int)
      rw [← es, ← ep2] at ln
      have lv : SpV sp_led [.int s, .int p] H8 (.int (ledI s p)) := spv_of fun H9 e9 Q E q => ⟨ns, (b : Int), p, by rw [es], pl, ep2, by rw [ln]; exact q⟩
      exact s_asg (v := .int (ledI s p)) (by (repeat' (first | with_reducible exact ev_c | ((with_reducible show Ev (tVar _) _ _ _); exact ev_var rfl) | with_reducible exact ea_nil | with_reducible exact eo_none | with_reducible refine' ea_cons ?_ ?_ | with_reducible refine' eo_some ?_ | with_reducible refine' ev_and2 ?_ ?_ | with_reducible refine' ev_or2 ?_ ?_ | with_reducible refine' ev_notV ?_ | with_reducible exact ru_I | with_reducible refine' ev_un ?_ ?_ | with_reducible exact rv_I0 | with_reducible exact rv_isN | with_reducible exact rv_notN | with_reducible refine' rv_I ?_ | with_reducible refine' rv_eq ?_ | with_reducible refine' rv_ne ?_ | with_reducible refine' ev_op ?_ ?_ ?_ | with_reducible refine' ev_chain2 ?_ ?_ ?_ ?_ ?_ | with_reducible refine' et_B ?_ | with_reducible refine' et_test ?_ | with_reducible refine' et_and2 ?_ ?_ | with_reducible refine' et_or2 ?_ ?_ | with_reducible refine' et_not ?_ | with_reducible refine' ev_call ?_ ?_ | with_reducible refine' ev_callS ?_ ?_ | with_reducible refine' ev_cb ?_ ?_ | with_reducible exact isi_bool (by assumption) | with_reducible exact isi_int (by assumption) | with_reducible exact isi_list (by assumption) | with_reducible exact rc_len (by assumption) | with_reducible exact rc_sum (by assumption) | with_reducible exact rc_abs | with_reducible exact isi_listL (by assumption) | with_reducible exact isi_intI | with_reducible exact isi_boolI | with_reducible exact rc_lenT (by assumption) | with_reducible exact isi_tup (by assumption) | with_reducible exact rv_eqL (by assumption) (by assumption) | with_reducible exact rv_neL (by assumption) (by assumption) | with_reducible exact rv_neT (by assumption) (by assumption) | with_reducible exact rv_ixL (by assumption) (by assumption) | with_reducible exact rv_ixT (by assumption) (by assumption) | with_reducible refine' ev_din ?_ ?_ (by assumption) | with_reducible refine' ev_dnotin ?_ ?_ (by assumption) | with_reducible refine' ev_dget ?_ ?_ (by assumption) (by assumption) | ((with_reducible show SpV _ _ _ _); assumption) | ((with_reducible show RV _ _ _ _ _); assumption) | ((with_reducible show RC _ _ _ _); assumption) | ((with_reducible show CDiv _ _); exact ⟨by omega, by omega⟩) | ((with_reducible show CMul _ _); first | exact .inl ⟨by omega, by omega⟩ | exact .inr ⟨by omega, by omega⟩) | ((with_reducible show CPow _ _); exact ⟨by omega, by omega, by decide⟩) | ((with_reducible show (0 : Int) < _); omega) | ((with_reducible show (0 : Int) ≤ _); omega) | ((with_reducible show scal _ _ = true); rfl)))) fun H9 e9 => ⟨some (V.int p), ps ++ [T], rfl, e8.trans e9, e9 _ _ h8, hP8.mono fun x u hu => e9 _ _ hu⟩
    · rintro σ' H' ⟨y3, ps, rfl, e5, h5, hP⟩
      rw [List.length_map] at hP ⊢
      rw [show (expand s0 ts).take ts.length = expand s0 ts by rw [← expand_len ts s0, List.take_length]] at hP
      have hend := follow_end lo.back
      rw [List.take_length, hend]
      have st5 := ex_t e5 st0
      refine q_when (b := !decide (V.int s0 = V.int s0)) (by (repeat' (first | with_reducible exact ev_c | ((with_reducible show Ev (tVar _) _ _ _); exact ev_var rfl) | with_reducible exact ea_nil | with_reducible exact eo_none | with_reducible refine' ea_cons ?_ ?_ | with_reducible refine' eo_some ?_ | with_reducible refine' ev_and2 ?_ ?_ | with_reducible refine' ev_or2 ?_ ?_ | with_reducible refine' ev_notV ?_ | with_reducible exact ru_I | with_reducible refine' ev_un ?_ ?_ | with_reducible exact rv_I0 | with_reducible exact rv_isN | with_reducible exact rv_notN | with_reducible refine' rv_I ?_ | with_reducible refine' rv_eq ?_ | with_reducible refine' rv_ne ?_ | with_reducible refine' ev_op ?_ ?_ ?_ | with_reducible refine' ev_chain2 ?_ ?_ ?_ ?_ ?_ | with_reducible refine' et_B ?_ | with_reducible refine' et_test ?_ | with_reducible refine' et_and2 ?_ ?_ | with_reducible refine' et_or2 ?_ ?_ | with_reducible refine' et_not ?_ | with_reducible refine' ev_call ?_ ?_ | with_reducible refine' ev_callS ?_ ?_ | with_reducible refine' ev_cb ?_ ?_ | with_reducible exact isi_bool (by assumption) | with_reducible exact isi_int (by assumption) | with_reducible exact isi_list (by assumption) | with_reducible exact rc_len (by assumption) | with_reducible exact rc_sum (by assumption) | with_reducible exact rc_abs | with_reducible exact isi_listL (by assumption) | with_reducible exact isi_intI | with_reducible exact isi_boolI | with_reducible exact rc_lenT (by assumption) | with_reducible exact isi_tup (by assumption) | with_reducible exact rv_eqL (by assumption) (by assumption) | with_reducible exact rv_neL (by assumption) (by assumption) | with_reducible exact rv_neT (by assumption) (by assumption) | with_reducible exact rv_ixL (by assumption) (by assumption) | with_reducible exact rv_ixT (by assumption) (by assumption) | with_reducible refine' ev_din ?_ ?_ (by assumption) | with_reducible refine' ev_dnotin ?_ ?_ (by assumption) | with_reducible refine' ev_dget ?_ ?_ (by assumption) (by assumption) | ((with_reducible show SpV _ _ _ _); assumption) | ((with_reducible show RV _ _ _ _ _); assumption) | ((with_reducible show RC _ _ _ _); assumption) | ((with_reducible show CDiv _ _); exact ⟨by omega, by omega⟩) | ((with_reducible show CMul _ _); first | exact .inl ⟨by omega, by omega⟩ | exact .inr ⟨by omega, by omega⟩) | ((with_reducible show CPow _ _); exact ⟨by omega, by omega, by decide⟩) | ((with_reducible show (0 : Int) < _); omega) | ((with_reducible show (0 : Int) ≤ _); omega) | ((with_reducible show scal _ _ = true); rfl)))) (fun h => by simp at h) (fun _ H6 e6 => ?_)
      exact s_ret (v := .ref sl) (by (repeat' (first | with_reducible exact ev_c | ((with_reducible show Ev (tVar _) _ _ _); exact ev_var rfl) | with_reducible exact ea_nil | with_reducible exact eo_none | with_reducible refine' ea_cons ?_ ?_ | with_reducible refine' eo_some ?_ | with_reducible refine' ev_and2 ?_ ?_ | with_reducible refine' ev_or2 ?_ ?_ | with_reducible refine' ev_notV ?_ | with_reducible exact ru_I | with_reducible refine' ev_un ?_ ?_ | with_reducible exact rv_I0 | with_reducible exact rv_isN | with_reducible exact rv_notN | with_reducible refine' rv_I ?_ | with_reducible refine' rv_eq ?_ | with_reducible refine' rv_ne ?_ | with_reducible refine' ev_op ?_ ?_ ?_ | with_reducible refine' ev_chain2 ?_ ?_ ?_ ?_ ?_ | with_reducible refine' et_B ?_ | with_reducible refine' et_test ?_ | with_reducible refine' et_and2 ?_ ?_ | with_reducible refine' et_or2 ?_ ?_ | with_reducible refine' et_not ?_ | with_reducible refine' ev_call ?_ ?_ | with_reducible refine' ev_callS ?_ ?_ | with_reducible refine' ev_cb ?_ ?_ | with_reducible exact isi_bool (by assumption) | with_reducible exact isi_int (by assumption) | with_reducible exact isi_list (by assumption) | with_reducible exact rc_len (by assumption) | with_reducible exact rc_sum (by assumption) | with_reducible exact rc_abs | with_reducible exact isi_listL (by assumption) | with_reducible exact isi_intI | with_reducible exact isi_boolI | with_reducible exact rc_lenT (by assumption) | with_reducible exact isi_tup (by assumption) | with_reducible exact rv_eqL (by assumption) (by assumption) | with_reducible exact rv_neL (by assumption) (by assumption) | with_reducible exact rv_neT (by assumption) (by assumption) | with_reducible exact rv_ixL (by assumption) (by assumption) | with_reducible exact rv_ixT (by assumption) (by assumption) | with_reducible refine' ev_din ?_ ?_ (by assumption) | with_reducible refine' ev_dnotin ?_ ?_ (by assumption) | with_reducible refine' ev_dget ?_ ?_ (by assumption) (by assumption) | ((with_reducible show SpV _ _ _ _); assumption) | ((with_reducible show RV _ _ _ _ _); assumption) | ((with_reducible show RC _ _ _ _); assumption) | ((with_reducible show CDiv _ _); exact ⟨by omega, by omega⟩) | ((with_reducible show CMul _ _); first | exact .inl ⟨by omega, by omega⟩ | exact .inr ⟨by omega, by omega⟩) | ((with_reducible show CPow _ _); exact ⟨by omega, by omega, by decide⟩) | ((with_reducible show (0 : Int) < _); omega) | ((with_reducible show (0 : Int) ≤ _); omega) | ((with_reducible show scal _ _ = true); rfl)))) fun H7 e7 => q sl ps H7 slH ((e5.trans e6).trans e7) ((e6.trans e7) _ _ h5) (hP.mono fun x u hu => (e6.trans e7) _ _ hu)

end TB

/-! ### the law k11, itself -/
namespace TB
open PySem PySem.Spec PyProof.Rows L2 Evl
def ExB (l : List Addr) (H H' : Hp) : Prop := ∀ a u, a ∉ l → H a = some u → H' a = some u
theorem ExB.refl {l : List Addr} {H : Hp} : ExB l H H := fun _ _ _ h => h
theorem ExB.ex {l : List Addr} {H H' H2 : Hp} (h : ExB l H H') (e : Ex H' H2) : ExB l H H2 := fun a u n z => e _ _ (h a u n z)
theorem ExB.upd {l : List Addr} {H H' : Hp} {x : Addr} {o : HO} (h : ExB l H H') (hx : x ∈ l) : ExB l H (upd H' x o) := fun a u n z => by
  rw [upd_ne (fun e => n (by rw [e]; exact hx))]
  exact h a u n z
theorem viaB {l : List Addr} {H H1 H2 : Hp} (e : Ex H H1) (h : ExB l H1 H2) (hl : ∀ a ∈ l, H a = none) : Ex H H2 := fun a u z => h a u (fun m => by
  rw [hl a m] at z
  cases z) (e a u z)
/-- a dict whose keys are beats -/
theorem ints_inj {l m : List Int} (h : l.map V.int = m.map V.int) : l = m := (List.map_inj_right (f := V.int) fun x y e => by injection e).mp h
theorem flat_len {α β : Type} (f : α → List β) : ∀ (l : List α) (i : Nat), ((l.take i).flatMap f).length ≤ (l.flatMap f).length
  | [], i => by simp
  | a :: r, 0 => by simp
  | a :: r, i + 1 => by
    rw [List.take_succ_cons, List.flatMap_cons, List.flatMap_cons, List.length_append, List.length_append]
    have := flat_len f r i
    omega
theorem flat_mem {α β : Type} (f : α → List β) : ∀ {l : List α} {a : α}, a ∈ l → (f a).length ≤ (l.flatMap f).length
  | [], _, h => nomatch h
  | b :: r, a, h => by
    rw [List.flatMap_cons, List.length_append]
    rcases List.mem_cons.mp h with rfl | h
    · omega
    · have := flat_mem f h
      omega
theorem min_mul (a b n : Nat) : min (a * n) (b * n) = min a b * n := by
  rcases Nat.le_total a b with c | c
  · rw [Nat.min_eq_left c, Nat.min_eq_left (Nat.mul_le_mul_right n c)]
  · rw [Nat.min_eq_right c, Nat.min_eq_right (Nat.mul_le_mul_right n c)]
theorem s_relX {σ : L2.St} {H : Hp} {D : Ends} {sp : Sp} {dvs vs : List V} {E : XK} {t : TA} {i : Nat} (h : EvA t σ H vs) (k : ∀ H1, Ex H H1 → sp (vs ++ dvs) H1 (fun v H2 => D.nx (σ.set i (some v)) H2) E) : tAsg (tCall sp dvs E t) (gName i) D σ H := h H (Ex.refl H) _ fun H1 e1 => k H1 e1
theorem HeldP.app {H : Hp} {ps qs : List Addr} {l m : List Stp} (h : HeldP H ps l) (h2 : HeldP H qs m) : HeldP H (ps ++ qs) (l ++ m) := by
  refine ⟨by rw [List.length_append, List.length_append, h.1, h2.1], fun i q t hq ht => ?_⟩
  rcases Nat.lt_or_ge i ps.length with c | c
  · rw [List.getElem?_append_left c] at hq
    rw [List.getElem?_append_left (by rw [← h.1]; exact c)] at ht
    exact h.2 i q t hq ht
  · rw [List.getElem?_append_right c] at hq
    rw [List.getElem?_append_right (by rw [← h.1]; exact c), ← h.1] at ht
    exact h2.2 _ q t hq ht
def lawLevel : Nat := 10
theorem sc_law : FnScope ["_law_script", "_law_size", "_law_most", "_law_pattern", "_law_due", "_law_state", "_law_throw", "_law_handed", "_law_again", "_law_found", "_law_steps", "_law_loop", "_law_more"] ["_law_script"] (defScope s_law) := ⟨rfl, rfl, rfl, by decide +kernel, rfl, by decide +kernel, by decide +kernel⟩
theorem ok_law {P : Program} {w : World} {K : PySem.W.Frag} {mg : Str → Option Value} (T : TXT K mg) : OKL P w K mg "law" ["_law_script"] 10 (sp_law K) := by
  obtain ⟨fd, F⟩ := T.def_ 18
  refine ⟨_, fd, T.glo 17, F.bindsA (fun _ _ _ _ _ _ us hl => match us, hl with | [_], _ => rfl), fun base => ?_⟩
  have O__law_size_by := ok__law_size_by (P := P) (w := w) (base := base) T
  have O__law_cell_at := ok__law_cell_at (P := P) (w := w) (base := base) T
  have O__law_plain_by := ok__law_plain_by (P := P) (w := w) (base := base) T
  have O__law_near_even := ok__law_near_even (P := P) (w := w) (base := base) T
  have O__law_first_state := ok__law_first_state (P := P) (w := w) (base := base) T
  have O__law_led := ok__law_led (P := P) (w := w) (base := base) T
  have O_parted := ok_parted (P := P) (w := w) (base := base) T
  have O__law_loop_steps := ok__law_loop_steps (P := P) (w := w) (base := base) T
  refine F.ok sc_law (fun vs H Q E h => ?_) (fun cdv A outer s H vs Q E hr h => ?_)
  · first | (obtain ⟨rfl, _⟩ := h; rfl) | (obtain ⟨_, rfl, _⟩ := h; rfl) | (obtain ⟨_, _, rfl, _⟩ := h; rfl) | (obtain ⟨_, _, _, rfl, _⟩ := h; rfl) | (obtain ⟨_, _, _, _, rfl, _⟩ := h; rfl) | (obtain ⟨_, _, _, _, _, rfl, _⟩ := h; rfl) | (obtain ⟨_, _, _, _, _, _, rfl, _⟩ := h; rfl) | (obtain ⟨_, _, _, _, _, _, _, rfl, _⟩ := h; rfl) | (obtain ⟨_, _, _, _, _, _, _, _, rfl, _⟩ := h; rfl)
  · replace F : FunD K "law" "law" (defArgs s_law) (defBody s_law) (defScope s_law) [] [] (He.ga K "law") fd := F
    refine ⟨_, (pss_cons (ps_set (i := 1) sc_law.nd rfl (Or.inl rfl) (pe_own O__law_size_by (hr.mono (by decide)) (by rfl) (passes_call (takes_of rfl rfl rfl rfl) (fun _ _ _ _ h => h)) (pa_cons (pe_own O__law_cell_at (hr.mono (by decide)) (by rfl) (passes_call (takes_of rfl rfl rfl rfl) (fun _ _ _ _ h => h)) (pa_cons (pv 0) (pa_cons pe_int pa_nil))) pa_nil)))
      (pss_cons (ps_set (i := 2) sc_law.nd rfl (Or.inl rfl) pe_int)
      (pss_cons (ps_if (pt_cmpR op_eq (pe_op op_mod (pe_own O__law_cell_at (hr.mono (by decide)) (by rfl) (passes_call (takes_of rfl rfl rfl rfl) (fun _ _ _ _ h => h)) (pa_cons (pv 0) (pa_cons pe_int pa_nil))) pe_int) pe_int (nomark _))
        (pss_one (ps_set (i := 2) sc_law.nd rfl (Or.inl rfl) pe_int))
        pss_nil)
      (pss_cons (ps_set (i := 3) sc_law.nd rfl (Or.inl rfl) (pe_own O__law_plain_by (hr.mono (by decide)) (by rfl) (passes_call (takes_of rfl rfl rfl rfl) (fun _ _ _ _ h => h)) (pa_cons (pv 1) (pa_cons (pe_own O__law_cell_at (hr.mono (by decide)) (by rfl) (passes_call (takes_of rfl rfl rfl rfl) (fun _ _ _ _ h => h)) (pa_cons (pv 0) (pa_cons pe_int pa_nil))) (pa_cons (pv 2) pa_nil)))))
      (pss_cons (ps_if (pt_cmpR op_eq (pe_op op_mod (pe_own O__law_cell_at (hr.mono (by decide)) (by rfl) (passes_call (takes_of rfl rfl rfl rfl) (fun _ _ _ _ h => h)) (pa_cons (pv 0) (pa_cons pe_int pa_nil))) pe_int) pe_int (nomark _))
        (pss_cons (ps_set (i := 1) sc_law.nd rfl (Or.inl rfl) (pe_op op_add pe_int (pe_op op_mod (pe_own O__law_cell_at (hr.mono (by decide)) (by rfl) (passes_call (takes_of rfl rfl rfl rfl) (fun _ _ _ _ h => h)) (pa_cons (pv 0) (pa_cons pe_int pa_nil))) pe_int)))
      (pss_one (ps_set (i := 3) sc_law.nd rfl (Or.inl rfl) (pe_own O__law_near_even (hr.mono (by decide)) (by rfl) (passes_call (takes_of rfl rfl rfl rfl) (fun _ _ _ _ h => h)) (pa_cons (pv 1) (pa_cons (pe_own O__law_cell_at (hr.mono (by decide)) (by rfl) (passes_call (takes_of rfl rfl rfl rfl) (fun _ _ _ _ h => h)) (pa_cons (pv 0) (pa_cons pe_int pa_nil))) pa_nil))))))
        pss_nil)
      (pss_cons (ps_if (pt_cmpR op_eq (pe_op op_mod (pe_op op_fdiv (pe_own O__law_cell_at (hr.mono (by decide)) (by rfl) (passes_call (takes_of rfl rfl rfl rfl) (fun _ _ _ _ h => h)) (pa_cons (pv 0) (pa_cons pe_int pa_nil))) pe_int) pe_int) pe_int (nomark _))
        (pss_one (ps_set (i := 3) sc_law.nd rfl (Or.inl rfl) (pe_slice (k_slL K) (pe_op op_rep (pv 3) (pe_op op_add pe_int (pe_op op_mod (pe_op op_fdiv (pe_own O__law_cell_at (hr.mono (by decide)) (by rfl) (passes_call (takes_of rfl rfl rfl rfl) (fun _ _ _ _ h => h)) (pa_cons (pv 0) (pa_cons pe_int pa_nil))) pe_int) pe_int))) po_none (po_some (pe_op op_mul (pe_op op_fdiv pe_int (pv 1)) (pv 1))))))
        pss_nil)
      (pss_cons (ps_set (i := 4) sc_law.nd rfl (Or.inl rfl) (pe_lst pa_nil))
      (pss_cons (ps_set (i := 5) sc_law.nd rfl (Or.inl rfl) (pe_own O__law_first_state (hr.mono (by decide)) (by rfl) (passes_call (takes_of rfl rfl rfl rfl) (fun _ _ _ _ h => h)) (pa_cons (pv 3) pa_nil)))
      (pss_cons (ps_for (passes_of rfl) rfl (k_piL K (pv 3)) (pg_name (i := 6) sc_law.nd rfl (Or.inl rfl))
        (pss_cons (ps_expr (pe_bm PySem.F.plainAttrs_list PySem.F.slot_list_append PySem.F.type_list_append mt_append (pv 4) (pa_cons (pe_tup (pa_cons (pv 5) (pa_cons (pv 6) pa_nil))) pa_nil)))
      (pss_one (ps_set (i := 5) sc_law.nd rfl (Or.inl rfl) (pe_own O__law_led (hr.mono (by decide)) (by rfl) (passes_call (takes_of rfl rfl rfl rfl) (fun _ _ _ _ h => h)) (pa_cons (pv 5) (pa_cons (pv 6) pa_nil)))))))
      (pss_cons (ps_set (i := 7) sc_law.nd rfl (Or.inl rfl) (pe_callTy (T := "list") (k_list K) (by rfl) (T.free 29) (by decide +kernel) (pa_cons (pv 3) pa_nil)))
      (pss_cons (ps_for (passes_of rfl) rfl (pi_range1 (by rfl) (T.free 32) (pa_cons pe_int pa_nil)) (pg_name (i := 8) sc_law.nd rfl (Or.inl rfl))
        (pss_cons (ps_set (i := 9) sc_law.nd rfl (Or.inl rfl) (pe_own O_parted (hr.mono (by decide)) (by rfl) (passes_call (takes_of rfl rfl rfl rfl) (fun _ _ _ _ h => h)) (pa_cons (pv 7) pa_nil)))
      (pss_cons (ps_if (PW.pt (pw_or (pt_not (pt_val (pe_callB (id := "isinstance") (k_isi K) (by rfl) (T.free 27) (by decide +kernel) (pa_cons (pv 9) (pa_cons (pe_ty (T := "list") (T.free 29) (by decide +kernel)) pa_nil))))) (pw_or1 (pt_cmpR (k_neD K (units_of hr)) (pv 7) (pv 3) (nomark _)))))
        (pss_one (ps_ret pe_bl))
        pss_nil)
      (pss_cons (ps_set (i := 10) sc_law.nd rfl (Or.inl rfl) (pe_lst pa_nil))
      (pss_cons (ps_for (passes_of rfl) rfl (k_piL K (pv 9)) (pg_name (i := 11) sc_law.nd rfl (Or.inl rfl))
        (pss_cons (ps_set (i := 12) sc_law.nd rfl (Or.inl rfl) (pe_own O__law_loop_steps (hr.mono (by decide)) (by rfl) (passes_call (takes_of rfl rfl rfl rfl) (fun _ _ _ _ h => h)) (pa_cons (pv 11) pa_nil)))
      (pss_cons (ps_if (pt_cmpR op_isN (pv 12) pe_non (nomark _))
        (pss_one (ps_ret pe_bl))
        pss_nil)
      (pss_one (ps_set (i := 10) sc_law.nd rfl (Or.inl rfl) (pe_op op_cat (pv 10) (pv 12)))))))
      (pss_cons (ps_if (pt_cmpR (k_neD K (units_of hr)) (pe_callB (id := "sorted") (k_sortedPO K) (by rfl) (T.free 33) (by decide +kernel) (pa_cons (pv 10) pa_nil)) (pe_callB (id := "sorted") (k_sortedPO K) (by rfl) (T.free 33) (by decide +kernel) (pa_cons (pv 4) pa_nil)) (nomark _))
        (pss_one (ps_ret pe_bl))
        pss_nil)
      (pss_cons (ps_for (passes_of rfl) rfl (k_piL K (pv 9)) (pg_name (i := 11) sc_law.nd rfl (Or.inl rfl))
        (pss_one (ps_expr (pe_bm0 PySem.F.plainAttrs_list PySem.F.slot_list_clear PySem.F.type_list_clear mt_clear (pe_ix (k_ixT K) (pv 11) pe_int (fun _ _ => rfl))))))
      (pss_one (ps_expr (pe_bm0 PySem.F.plainAttrs_list PySem.F.slot_list_clear PySem.F.type_list_clear mt_clear (pv 9)))))))))))
      (pss_one (ps_ret pe_bl))))))))))))), ?_⟩
    obtain ⟨a, cs, rfl, hs, q⟩ := h
    dsimp only [cxOf, L2.start, List.map_cons, List.map_nil, List.length_cons, List.length_nil, Nat.reduceAdd, Nat.reduceSub, List.replicate_succ, List.replicate_zero, List.cons_append, List.nil_append, Nat.zero_add, List.reduceReplicate, List.map]
    obtain ⟨n, hn, hn1, hn2⟩ := size_nat (cs.getD 0 0)
    have c0 := sv_cell (k := 0) hs
    have z1 := sv_size (H := H) (c := cs.getD 0 0)
    rw [hn] at z1
    refine q_asg (v := .int (n : Int)) (by (repeat' (first | with_reducible exact ev_c | ((with_reducible show Ev (tVar _) _ _ _); exact ev_var rfl) | with_reducible exact ea_nil | with_reducible exact eo_none | with_reducible refine' ea_cons ?_ ?_ | with_reducible refine' eo_some ?_ | with_reducible refine' ev_and2 ?_ ?_ | with_reducible refine' ev_or2 ?_ ?_ | with_reducible refine' ev_notV ?_ | with_reducible exact ru_I | with_reducible refine' ev_un ?_ ?_ | with_reducible exact rv_I0 | with_reducible exact rv_isN | with_reducible exact rv_notN | with_reducible refine' rv_I ?_ | with_reducible refine' rv_eq ?_ | with_reducible refine' rv_ne ?_ | with_reducible refine' ev_op ?_ ?_ ?_ | with_reducible refine' ev_chain2 ?_ ?_ ?_ ?_ ?_ | with_reducible refine' et_B ?_ | with_reducible refine' et_test ?_ | with_reducible refine' et_and2 ?_ ?_ | with_reducible refine' et_or2 ?_ ?_ | with_reducible refine' et_not ?_ | with_reducible refine' ev_call ?_ ?_ | with_reducible refine' ev_callS ?_ ?_ | with_reducible refine' ev_cb ?_ ?_ | with_reducible exact isi_bool (by assumption) | with_reducible exact isi_int (by assumption) | with_reducible exact isi_list (by assumption) | with_reducible exact rc_len (by assumption) | with_reducible exact rc_sum (by assumption) | with_reducible exact rc_abs | with_reducible exact isi_listL (by assumption) | with_reducible exact isi_intI | with_reducible exact isi_boolI | with_reducible exact rc_lenT (by assumption) | with_reducible exact isi_tup (by assumption) | with_reducible exact rv_eqL (by assumption) (by assumption) | with_reducible exact rv_neL (by assumption) (by assumption) | with_reducible exact rv_neT (by assumption) (by assumption) | with_reducible exact rv_ixL (by assumption) (by assumption) | with_reducible exact rv_ixT (by assumption) (by assumption) | with_reducible refine' ev_din ?_ ?_ (by assumption) | with_reducible refine' ev_dnotin ?_ ?_ (by assumption) | with_reducible refine' ev_dget ?_ ?_ (by assumption) (by assumption) | ((with_reducible show SpV _ _ _ _); assumption) | ((with_reducible show RV _ _ _ _ _); assumption) | ((with_reducible show RC _ _ _ _); assumption) | ((with_reducible show CDiv _ _); exact ⟨by omega, by omega⟩) | ((with_reducible show CMul _ _); first | exact .inl ⟨by omega, by omega⟩ | exact .inr ⟨by omega, by omega⟩) | ((with_reducible show CPow _ _); exact ⟨by omega, by omega, by decide⟩) | ((with_reducible show (0 : Int) < _); omega) | ((with_reducible show (0 : Int) ≤ _); omega) | ((with_reducible show scal _ _ = true); rfl)))) fun H1 e1 => ?_
    refine q_asg (v := .int 2) (by (repeat' (first | with_reducible exact ev_c | ((with_reducible show Ev (tVar _) _ _ _); exact ev_var rfl) | with_reducible exact ea_nil | with_reducible exact eo_none | with_reducible refine' ea_cons ?_ ?_ | with_reducible refine' eo_some ?_ | with_reducible refine' ev_and2 ?_ ?_ | with_reducible refine' ev_or2 ?_ ?_ | with_reducible refine' ev_notV ?_ | with_reducible exact ru_I | with_reducible refine' ev_un ?_ ?_ | with_reducible exact rv_I0 | with_reducible exact rv_isN | with_reducible exact rv_notN | with_reducible refine' rv_I ?_ | with_reducible refine' rv_eq ?_ | with_reducible refine' rv_ne ?_ | with_reducible refine' ev_op ?_ ?_ ?_ | with_reducible refine' ev_chain2 ?_ ?_ ?_ ?_ ?_ | with_reducible refine' et_B ?_ | with_reducible refine' et_test ?_ | with_reducible refine' et_and2 ?_ ?_ | with_reducible refine' et_or2 ?_ ?_ | with_reducible refine' et_not ?_ | with_reducible refine' ev_call ?_ ?_ | with_reducible refine' ev_callS ?_ ?_ | with_reducible refine' ev_cb ?_ ?_ | with_reducible exact isi_bool (by assumption) | with_reducible exact isi_int (by assumption) | with_reducible exact isi_list (by assumption) | with_reducible exact rc_len (by assumption) | with_reducible exact rc_sum (by assumption) | with_reducible exact rc_abs | with_reducible exact isi_listL (by assumption) | with_reducible exact isi_intI | with_reducible exact isi_boolI | with_reducible exact rc_lenT (by assumption) | with_reducible exact isi_tup (by assumption) | with_reducible exact rv_eqL (by assumption) (by assumption) | with_reducible exact rv_neL (by assumption) (by assumption) | with_reducible exact rv_neT (by assumption) (by assumption) | with_reducible exact rv_ixL (by assumption) (by assumption) | with_reducible exact rv_ixT (by assumption) (by assumption) | with_reducible refine' ev_din ?_ ?_ (by assumption) | with_reducible refine' ev_dnotin ?_ ?_ (by assumption) | with_reducible refine' ev_dget ?_ ?_ (by assumption) (by assumption) | ((with_reducible show SpV _ _ _ _); assumption) | ((with_reducible show RV _ _ _ _ _); assumption) | ((with_reducible show RC _ _ _ _); assumption) | ((with_reducible show CDiv _ _); exact ⟨by omega, by omega⟩) | ((with_reducible show CMul _ _); first | exact .inl ⟨by omega, by omega⟩ | exact .inr ⟨by omega, by omega⟩) | ((with_reducible show CPow _ _); exact ⟨by omega, by omega, by decide⟩) | ((with_reducible show (0 : Int) < _); omega) | ((with_reducible show (0 : Int) ≤ _); omega) | ((with_reducible show scal _ _ = true); rfl)))) fun H2 e2 => ?_
    have hs2 := ex_l (e1.trans e2) hs
    have c2 := sv_cell (k := 2) hs2
    refine q_ifAsg (b := decide (V.int (cs.getD 2 0 % 4) = V.int 1)) (v := .int (if cs.getD 2 0 % 4 = 1 then 61 else 2)) (by (repeat' (first | with_reducible exact ev_c | ((with_reducible show Ev (tVar _) _ _ _); exact ev_var rfl) | with_reducible exact ea_nil | with_reducible exact eo_none | with_reducible refine' ea_cons ?_ ?_ | with_reducible refine' eo_some ?_ | with_reducible refine' ev_and2 ?_ ?_ | with_reducible refine' ev_or2 ?_ ?_ | with_reducible refine' ev_notV ?_ | with_reducible exact ru_I | with_reducible refine' ev_un ?_ ?_ | with_reducible exact rv_I0 | with_reducible exact rv_isN | with_reducible exact rv_notN | with_reducible refine' rv_I ?_ | with_reducible refine' rv_eq ?_ | with_reducible refine' rv_ne ?_ | with_reducible refine' ev_op ?_ ?_ ?_ | with_reducible refine' ev_chain2 ?_ ?_ ?_ ?_ ?_ | with_reducible refine' et_B ?_ | with_reducible refine' et_test ?_ | with_reducible refine' et_and2 ?_ ?_ | with_reducible refine' et_or2 ?_ ?_ | with_reducible refine' et_not ?_ | with_reducible refine' ev_call ?_ ?_ | with_reducible refine' ev_callS ?_ ?_ | with_reducible refine' ev_cb ?_ ?_ | with_reducible exact isi_bool (by assumption) | with_reducible exact isi_int (by assumption) | with_reducible exact isi_list (by assumption) | with_reducible exact rc_len (by assumption) | with_reducible exact rc_sum (by assumption) | with_reducible exact rc_abs | with_reducible exact isi_listL (by assumption) | with_reducible exact isi_intI | with_reducible exact isi_boolI | with_reducible exact rc_lenT (by assumption) | with_reducible exact isi_tup (by assumption) | with_reducible exact rv_eqL (by assumption) (by assumption) | with_reducible exact rv_neL (by assumption) (by assumption) | with_reducible exact rv_neT (by assumption) (by assumption) | with_reducible exact rv_ixL (by assumption) (by assumption) | with_reducible exact rv_ixT (by assumption) (by assumption) | with_reducible refine' ev_din ?_ ?_ (by assumption) | with_reducible refine' ev_dnotin ?_ ?_ (by assumption) | with_reducible refine' ev_dget ?_ ?_ (by assumption) (by assumption) | ((with_reducible show SpV _ _ _ _); assumption) | ((with_reducible show RV _ _ _ _ _); assumption) | ((with_reducible show RC _ _ _ _); assumption) | ((with_reducible show CDiv _ _); exact ⟨by omega, by omega⟩) | ((with_reducible show CMul _ _); first | exact .inl ⟨by omega, by omega⟩ | exact .inr ⟨by omega, by omega⟩) | ((with_reducible show CPow _ _); exact ⟨by omega, by omega, by decide⟩) | ((with_reducible show (0 : Int) < _); omega) | ((with_reducible show (0 : Int) ≤ _); omega) | ((with_reducible show scal _ _ = true); rfl)))) (fun hb => ?_) (fun hb => ?_) fun H3 e3 => ?_
    · have hb : cs.getD 2 0 % 4 = 1 := by
        have := of_decide_eq_true hb
        injection this
      rw [if_pos hb]
      (repeat' (first | with_reducible exact ev_c | ((with_reducible show Ev (tVar _) _ _ _); exact ev_var rfl) | with_reducible exact ea_nil | with_reducible exact eo_none | with_reducible refine' ea_cons ?_ ?_ | with_reducible refine' eo_some ?_ | with_reducible refine' ev_and2 ?_ ?_ | with_reducible refine' ev_or2 ?_ ?_ | with_reducible refine' ev_notV ?_ | with_reducible exact ru_I | with_reducible refine' ev_un ?_ ?_ | with_reducible exact rv_I0 | with_reducible exact rv_isN | with_reducible exact rv_notN | with_reducible refine' rv_I ?_ | with_reducible refine' rv_eq ?_ | with_reducible refine' rv_ne ?_ | with_reducible refine' ev_op ?_ ?_ ?_ | with_reducible refine' ev_chain2 ?_ ?_ ?_ ?_ ?_ | with_reducible refine' et_B ?_ | with_reducible refine' et_test ?_ | with_reducible refine' et_and2 ?_ ?_ | with_reducible refine' et_or2 ?_ ?_ | with_reducible refine' et_not ?_ | with_reducible refine' ev_call ?_ ?_ | with_reducible refine' ev_callS ?_ ?_ | with_reducible refine' ev_cb ?_ ?_ | with_reducible exact isi_bool (by assumption) | with_reducible exact isi_int (by assumption) | with_reducible exact isi_list (by assumption) | with_reducible exact rc_len (by assumption) | with_reducible exact rc_sum (by assumption) | with_reducible exact rc_abs | with_reducible exact isi_listL (by assumption) | with_reducible exact isi_intI | with_reducible exact isi_boolI | with_reducible exact rc_lenT (by assumption) | with_reducible exact isi_tup (by assumption) | with_reducible exact rv_eqL (by assumption) (by assumption) | with_reducible exact rv_neL (by assumption) (by assumption) | with_reducible exact rv_neT (by assumption) (by assumption) | with_reducible exact rv_ixL (by assumption) (by assumption) | with_reducible exact rv_ixT (by assumption) (by assumption) | with_reducible refine' ev_din ?_ ?_ (by assumption) | with_reducible refine' ev_dnotin ?_ ?_ (by assumption) | with_reducible refine' ev_dget ?_ ?_ (by assumption) (by assumption) | ((with_reducible show SpV _ _ _ _); assumption) | ((with_reducible show RV _ _ _ _ _); assumption) | ((with_reducible show RC _ _ _ _); assumption) | ((with_reducible show CDiv _ _); exact ⟨by omega, by omega⟩) | ((with_reducible show CMul _ _); first | exact .inl ⟨by omega, by omega⟩ | exact .inr ⟨by omega, by omega⟩) | ((with_reducible show CPow _ _); exact ⟨by omega, by omega, by decide⟩) | ((with_reducible show (0 : Int) < _); omega) | ((with_reducible show (0 : Int) ≤ _); omega) | ((with_reducible show scal _ _ = true); rfl)))
    · have hb : ¬ cs.getD 2 0 % 4 = 1 := fun h => of_decide_eq_false hb (congrArg V.int h)
      rw [if_neg hb]
      rfl
    have hmo : (1 : Int) ≤ if cs.getD 2 0 % 4 = 1 then 61 else 2 := by split <;> omega
    generalize (if cs.getD 2 0 % 4 = 1 then (61 : Int) else 2) = mo at *
    have hs3 := ex_l e3 hs2
    have c1 := sv_cell (k := 1) hs3
    refine q_relL (vs := [.int (n : Int), .int (cs.getD 1 0), .int mo]) (P := fun ts => ts.length = n ∧ Plain ts) (by (repeat' (first | with_reducible exact ev_c | ((with_reducible show Ev (tVar _) _ _ _); exact ev_var rfl) | with_reducible exact ea_nil | with_reducible exact eo_none | with_reducible refine' ea_cons ?_ ?_ | with_reducible refine' eo_some ?_ | with_reducible refine' ev_and2 ?_ ?_ | with_reducible refine' ev_or2 ?_ ?_ | with_reducible refine' ev_notV ?_ | with_reducible exact ru_I | with_reducible refine' ev_un ?_ ?_ | with_reducible exact rv_I0 | with_reducible exact rv_isN | with_reducible exact rv_notN | with_reducible refine' rv_I ?_ | with_reducible refine' rv_eq ?_ | with_reducible refine' rv_ne ?_ | with_reducible refine' ev_op ?_ ?_ ?_ | with_reducible refine' ev_chain2 ?_ ?_ ?_ ?_ ?_ | with_reducible refine' et_B ?_ | with_reducible refine' et_test ?_ | with_reducible refine' et_and2 ?_ ?_ | with_reducible refine' et_or2 ?_ ?_ | with_reducible refine' et_not ?_ | with_reducible refine' ev_call ?_ ?_ | with_reducible refine' ev_callS ?_ ?_ | with_reducible refine' ev_cb ?_ ?_ | with_reducible exact isi_bool (by assumption) | with_reducible exact isi_int (by assumption) | with_reducible exact isi_list (by assumption) | with_reducible exact rc_len (by assumption) | with_reducible exact rc_sum (by assumption) | with_reducible exact rc_abs | with_reducible exact isi_listL (by assumption) | with_reducible exact isi_intI | with_reducible exact isi_boolI | with_reducible exact rc_lenT (by assumption) | with_reducible exact isi_tup (by assumption) | with_reducible exact rv_eqL (by assumption) (by assumption) | with_reducible exact rv_neL (by assumption) (by assumption) | with_reducible exact rv_neT (by assumption) (by assumption) | with_reducible exact rv_ixL (by assumption) (by assumption) | with_reducible exact rv_ixT (by assumption) (by assumption) | with_reducible refine' ev_din ?_ ?_ (by assumption) | with_reducible refine' ev_dnotin ?_ ?_ (by assumption) | with_reducible refine' ev_dget ?_ ?_ (by assumption) (by assumption) | ((with_reducible show SpV _ _ _ _); assumption) | ((with_reducible show RV _ _ _ _ _); assumption) | ((with_reducible show RC _ _ _ _); assumption) | ((with_reducible show CDiv _ _); exact ⟨by omega, by omega⟩) | ((with_reducible show CMul _ _); first | exact .inl ⟨by omega, by omega⟩ | exact .inr ⟨by omega, by omega⟩) | ((with_reducible show CPow _ _); exact ⟨by omega, by omega, by decide⟩) | ((with_reducible show (0 : Int) < _); omega) | ((with_reducible show (0 : Int) ≤ _); omega) | ((with_reducible show scal _ _ = true); rfl)))) (fun H1 e1 Q E k => ⟨n, cs.getD 1 0, mo, rfl, hn2, hn1, hmo, fun ts h1 h2 => k ts ⟨h1, h2⟩⟩) fun ts p H4 pat hp e4 h4 => ?_
    have hs4 := ex_l e4 hs3
    refine q_key (M := fun σ' H' => ∃ (n : Nat) (p : Addr) (ts : List Int), σ' = [some (V.ref a), some (V.int (n : Int)), some (V.int mo), some (V.ref p), none, none, none, none, none, none, none, none, none] ∧ Ex H3 H' ∧ H' p = some (.lst (ts.map V.int)) ∧ ts.length = n ∧ Plain ts) ?_ ?_
    case refine_2 =>
      intro key
      have c3 := sv_cell (k := 3) hs4
      refine q_when (b := decide (V.int (cs.getD 3 0 % 2) = V.int 0)) (by (repeat' (first | with_reducible exact ev_c | ((with_reducible show Ev (tVar _) _ _ _); exact ev_var rfl) | with_reducible exact ea_nil | with_reducible exact eo_none | with_reducible refine' ea_cons ?_ ?_ | with_reducible refine' eo_some ?_ | with_reducible refine' ev_and2 ?_ ?_ | with_reducible refine' ev_or2 ?_ ?_ | with_reducible refine' ev_notV ?_ | with_reducible exact ru_I | with_reducible refine' ev_un ?_ ?_ | with_reducible exact rv_I0 | with_reducible exact rv_isN | with_reducible exact rv_notN | with_reducible refine' rv_I ?_ | with_reducible refine' rv_eq ?_ | with_reducible refine' rv_ne ?_ | with_reducible refine' ev_op ?_ ?_ ?_ | with_reducible refine' ev_chain2 ?_ ?_ ?_ ?_ ?_ | with_reducible refine' et_B ?_ | with_reducible refine' et_test ?_ | with_reducible refine' et_and2 ?_ ?_ | with_reducible refine' et_or2 ?_ ?_ | with_reducible refine' et_not ?_ | with_reducible refine' ev_call ?_ ?_ | with_reducible refine' ev_callS ?_ ?_ | with_reducible refine' ev_cb ?_ ?_ | with_reducible exact isi_bool (by assumption) | with_reducible exact isi_int (by assumption) | with_reducible exact isi_list (by assumption) | with_reducible exact rc_len (by assumption) | with_reducible exact rc_sum (by assumption) | with_reducible exact rc_abs | with_reducible exact isi_listL (by assumption) | with_reducible exact isi_intI | with_reducible exact isi_boolI | with_reducible exact rc_lenT (by assumption) | with_reducible exact isi_tup (by assumption) | with_reducible exact rv_eqL (by assumption) (by assumption) | with_reducible exact rv_neL (by assumption) (by assumption) | with_reducible exact rv_neT (by assumption) (by assumption) | with_reducible exact rv_ixL (by assumption) (by assumption) | with_reducible exact rv_ixT (by assumption) (by assumption) | with_reducible refine' ev_din ?_ ?_ (by assumption) | with_reducible refine' ev_dnotin ?_ ?_ (by assumption) | with_reducible refine' ev_dget ?_ ?_ (by assumption) (by assumption) | ((with_reducible show SpV _ _ _ _); assumption) | ((with_reducible show RV _ _ _ _ _); assumption) | ((with_reducible show RC _ _ _ _); assumption) | ((with_reducible show CDiv _ _); exact ⟨by omega, by omega⟩) | ((with_reducible show CMul _ _); first | exact .inl ⟨by omega, by omega⟩ | exact .inr ⟨by omega, by omega⟩) | ((with_reducible show CPow _ _); exact ⟨by omega, by omega, by decide⟩) | ((with_reducible show (0 : Int) < _); omega) | ((with_reducible show (0 : Int) ≤ _); omega) | ((with_reducible show scal _ _ = true); rfl)))) (fun _ H5 e5 => ?_) (fun _ H5 e5 => key _ _ ⟨n, p, ts, rfl, e4.trans e5, e5 _ _ h4, pat.1, pat.2⟩)
      have hs5 := ex_l e5 hs4
      have c05 := sv_cell (k := 0) hs5
      obtain ⟨n2, hn2', hn3⟩ := mod_nat (cs.getD 0 0) (n := 60) (by omega)
      have hn2' : cs.getD 0 0 % 60 = (n2 : Int) := hn2'
      refine q_asg (v := .int ((n2 + 1 : Nat) : Int)) (ev_is (v := .int (1 + cs.getD 0 0 % 60)) (by (repeat' (first | with_reducible exact ev_c | ((with_reducible show Ev (tVar _) _ _ _); exact ev_var rfl) | with_reducible exact ea_nil | with_reducible exact eo_none | with_reducible refine' ea_cons ?_ ?_ | with_reducible refine' eo_some ?_ | with_reducible refine' ev_and2 ?_ ?_ | with_reducible refine' ev_or2 ?_ ?_ | with_reducible refine' ev_notV ?_ | with_reducible exact ru_I | with_reducible refine' ev_un ?_ ?_ | with_reducible exact rv_I0 | with_reducible exact rv_isN | with_reducible exact rv_notN | with_reducible refine' rv_I ?_ | with_reducible refine' rv_eq ?_ | with_reducible refine' rv_ne ?_ | with_reducible refine' ev_op ?_ ?_ ?_ | with_reducible refine' ev_chain2 ?_ ?_ ?_ ?_ ?_ | with_reducible refine' et_B ?_ | with_reducible refine' et_test ?_ | with_reducible refine' et_and2 ?_ ?_ | with_reducible refine' et_or2 ?_ ?_ | with_reducible refine' et_not ?_ | with_reducible refine' ev_call ?_ ?_ | with_reducible refine' ev_callS ?_ ?_ | with_reducible refine' ev_cb ?_ ?_ | with_reducible exact isi_bool (by assumption) | with_reducible exact isi_int (by assumption) | with_reducible exact isi_list (by assumption) | with_reducible exact rc_len (by assumption) | with_reducible exact rc_sum (by assumption) | with_reducible exact rc_abs | with_reducible exact isi_listL (by assumption) | with_reducible exact isi_intI | with_reducible exact isi_boolI | with_reducible exact rc_lenT (by assumption) | with_reducible exact isi_tup (by assumption) | with_reducible exact rv_eqL (by assumption) (by assumption) | with_reducible exact rv_neL (by assumption) (by assumption) | with_reducible exact rv_neT (by assumption) (by assumption) | with_reducible exact rv_ixL (by assumption) (by assumption) | with_reducible exact rv_ixT (by assumption) (by assumption) | with_reducible refine' ev_din ?_ ?_ (by assumption) | with_reducible refine' ev_dnotin ?_ ?_ (by assumption) | with_reducible refine' ev_dget ?_ ?_ (by assumption) (by assumption) | ((with_reducible show SpV _ _ _ _); assumption) | ((with_reducible show RV _ _ _ _ _); assumption) | ((with_reducible show RC _ _ _ _); assumption) | ((with_reducible show CDiv _ _); exact ⟨by omega, by omega⟩) | ((with_reducible show CMul _ _); first | exact .inl ⟨by omega, by omega⟩ | exact .inr ⟨by omega, by omega⟩) | ((with_reducible show CPow _ _); exact ⟨by omega, by omega, by decide⟩) | ((with_reducible show (0 : Int) < _); omega) | ((with_reducible show (0 : Int) ≤ _); omega) | ((with_reducible show scal _ _ = true); rfl)))) (congrArg V.int (by omega))) fun H6 e6 => ?_
      have c16 := sv_cell (k := 1) (ex_l e6 hs5)
      exact s_relX (vs := [.int ((n2 + 1 : Nat) : Int), .int (cs.getD 1 0)]) (by (repeat' (first | with_reducible exact ev_c | ((with_reducible show Ev (tVar _) _ _ _); exact ev_var rfl) | with_reducible exact ea_nil | with_reducible exact eo_none | with_reducible refine' ea_cons ?_ ?_ | with_reducible refine' eo_some ?_ | with_reducible refine' ev_and2 ?_ ?_ | with_reducible refine' ev_or2 ?_ ?_ | with_reducible refine' ev_notV ?_ | with_reducible exact ru_I | with_reducible refine' ev_un ?_ ?_ | with_reducible exact rv_I0 | with_reducible exact rv_isN | with_reducible exact rv_notN | with_reducible refine' rv_I ?_ | with_reducible refine' rv_eq ?_ | with_reducible refine' rv_ne ?_ | with_reducible refine' ev_op ?_ ?_ ?_ | with_reducible refine' ev_chain2 ?_ ?_ ?_ ?_ ?_ | with_reducible refine' et_B ?_ | with_reducible refine' et_test ?_ | with_reducible refine' et_and2 ?_ ?_ | with_reducible refine' et_or2 ?_ ?_ | with_reducible refine' et_not ?_ | with_reducible refine' ev_call ?_ ?_ | with_reducible refine' ev_callS ?_ ?_ | with_reducible refine' ev_cb ?_ ?_ | with_reducible exact isi_bool (by assumption) | with_reducible exact isi_int (by assumption) | with_reducible exact isi_list (by assumption) | with_reducible exact rc_len (by assumption) | with_reducible exact rc_sum (by assumption) | with_reducible exact rc_abs | with_reducible exact isi_listL (by assumption) | with_reducible exact isi_intI | with_reducible exact isi_boolI | with_reducible exact rc_lenT (by assumption) | with_reducible exact isi_tup (by assumption) | with_reducible exact rv_eqL (by assumption) (by assumption) | with_reducible exact rv_neL (by assumption) (by assumption) | with_reducible exact rv_neT (by assumption) (by assumption) | with_reducible exact rv_ixL (by assumption) (by assumption) | with_reducible exact rv_ixT (by assumption) (by assumption) | with_reducible refine' ev_din ?_ ?_ (by assumption) | with_reducible refine' ev_dnotin ?_ ?_ (by assumption) | with_reducible refine' ev_dget ?_ ?_ (by assumption) (by assumption) | ((with_reducible show SpV _ _ _ _); assumption) | ((with_reducible show RV _ _ _ _ _); assumption) | ((with_reducible show RC _ _ _ _); assumption) | ((with_reducible show CDiv _ _); exact ⟨by omega, by omega⟩) | ((with_reducible show CMul _ _); first | exact .inl ⟨by omega, by omega⟩ | exact .inr ⟨by omega, by omega⟩) | ((with_reducible show CPow _ _); exact ⟨by omega, by omega, by decide⟩) | ((with_reducible show (0 : Int) < _); omega) | ((with_reducible show (0 : Int) ≤ _); omega) | ((with_reducible show scal _ _ = true); rfl)))) fun H7 e7 => ⟨n2 + 1, cs.getD 1 0, rfl, by omega, by omega, fun ts2 l2 pl2 p2 H8 hp2 e8 h8 => key _ _ ⟨n2 + 1, p2, ts2, rfl, (((e4.trans e5).trans e6).trans e7).trans e8, h8, l2, pl2⟩⟩
    rintro σ' H' ⟨n, p, ts, rfl, e5, p5, tl, pl⟩
    have hs5 := ex_l e5 hs3
    have hn1 := pl.row.1
    have hn2 := pl.row.2.1
    rw [tl] at hn1 hn2
    refine q_key (M := fun σ' H' => ∃ (p : Addr) (ts : List Int), σ' = [some (V.ref a), some (V.int (n : Int)), some (V.int mo), some (V.ref p), none, none, none, none, none, none, none, none, none] ∧ Ex H3 H' ∧ H' p = some (.lst (ts.map V.int)) ∧ Plain ts) ?_ ?_
    case refine_2 =>
      intro key
      have c25 := sv_cell (k := 2) hs5
      refine q_when (b := decide (V.int (cs.getD 2 0 / 4 % 2) = V.int 0)) (by (repeat' (first | with_reducible exact ev_c | ((with_reducible show Ev (tVar _) _ _ _); exact ev_var rfl) | with_reducible exact ea_nil | with_reducible exact eo_none | with_reducible refine' ea_cons ?_ ?_ | with_reducible refine' eo_some ?_ | with_reducible refine' ev_and2 ?_ ?_ | with_reducible refine' ev_or2 ?_ ?_ | with_reducible refine' ev_notV ?_ | with_reducible exact ru_I | with_reducible refine' ev_un ?_ ?_ | with_reducible exact rv_I0 | with_reducible exact rv_isN | with_reducible exact rv_notN | with_reducible refine' rv_I ?_ | with_reducible refine' rv_eq ?_ | with_reducible refine' rv_ne ?_ | with_reducible refine' ev_op ?_ ?_ ?_ | with_reducible refine' ev_chain2 ?_ ?_ ?_ ?_ ?_ | with_reducible refine' et_B ?_ | with_reducible refine' et_test ?_ | with_reducible refine' et_and2 ?_ ?_ | with_reducible refine' et_or2 ?_ ?_ | with_reducible refine' et_not ?_ | with_reducible refine' ev_call ?_ ?_ | with_reducible refine' ev_callS ?_ ?_ | with_reducible refine' ev_cb ?_ ?_ | with_reducible exact isi_bool (by assumption) | with_reducible exact isi_int (by assumption) | with_reducible exact isi_list (by assumption) | with_reducible exact rc_len (by assumption) | with_reducible exact rc_sum (by assumption) | with_reducible exact rc_abs | with_reducible exact isi_listL (by assumption) | with_reducible exact isi_intI | with_reducible exact isi_boolI | with_reducible exact rc_lenT (by assumption) | with_reducible exact isi_tup (by assumption) | with_reducible exact rv_eqL (by assumption) (by assumption) | with_reducible exact rv_neL (by assumption) (by assumption) | with_reducible exact rv_neT (by assumption) (by assumption) | with_reducible exact rv_ixL (by assumption) (by assumption) | with_reducible exact rv_ixT (by assumption) (by assumption) | with_reducible refine' ev_din ?_ ?_ (by assumption) | with_reducible refine' ev_dnotin ?_ ?_ (by assumption) | with_reducible refine' ev_dget ?_ ?_ (by assumption) (by assumption) | ((with_reducible show SpV _ _ _ _); assumption) | ((with_reducible show RV _ _ _ _ _); assumption) | ((with_reducible show RC _ _ _ _); assumption) | ((with_reducible show CDiv _ _); exact ⟨by omega, by omega⟩) | ((with_reducible show CMul _ _); first | exact .inl ⟨by omega, by omega⟩ | exact .inr ⟨by omega, by omega⟩) | ((with_reducible show CPow _ _); exact ⟨by omega, by omega, by decide⟩) | ((with_reducible show (0 : Int) < _); omega) | ((with_reducible show (0 : Int) ≤ _); omega) | ((with_reducible show scal _ _ = true); rfl)))) (fun _ H6 e6 => ?_) (fun _ H6 e6 => key _ _ ⟨p, ts, rfl, e5.trans e6, e6 _ _ p5, pl⟩)
      have hs6 := ex_l e6 hs5
      have c26 := sv_cell (k := 2) hs6
      have p6 := e6 _ _ p5
      obtain ⟨m, hm, hm7⟩ := mod_nat (cs.getD 2 0 / 8) (n := 7) (by omega)
      have hm : cs.getD 2 0 / 8 % 7 = (m : Int) := hm
      have q1 : 1 ≤ 60 / n := Nat.div_pos hn2 (by omega)
      have q2 : 60 / n * n ≤ 60 := Nat.div_mul_le_self 60 n
      have qi : (60 : Int) / (n : Int) * (n : Int) = ((60 / n * n : Nat) : Int) := by
        rw [Int.natCast_mul, Int.natCast_ediv]
        rfl
      have d0 : 0 ≤ (60 : Int) / (n : Int) ∧ (60 : Int) / (n : Int) ≤ 60 := by
        have : (60 : Int) / (n : Int) = ((60 / n : Nat) : Int) := by
          rw [Int.natCast_ediv]
          rfl
        have := Nat.div_le_self 60 n
        omega
      have fl : (List.replicate (1 + (m : Int)).toNat (ts.map V.int)).flatten = ((List.replicate (m + 1) ts).flatten).map V.int := by
        rw [List.map_flatten, List.map_replicate, show (1 + (m : Int)).toNat = m + 1 by omega]
      have cu : cutV ((List.replicate (1 + (m : Int)).toNat (ts.map V.int)).flatten) none (some ((60 : Int) / (n : Int) * (n : Int))) = (repI ts (min (60 / n * n) ((m + 1) * ts.length))).map V.int := by
        rw [qi, cut_to, fl, ← List.map_take, rep_take]
      have hL : min (60 / n * n) ((m + 1) * ts.length) = min (60 / n) (m + 1) * ts.length := by rw [tl, min_mul]
      have hL1 : 1 ≤ min (60 / n * n) ((m + 1) * ts.length) := by
        rw [hL, tl]
        have : 1 * 1 ≤ min (60 / n) (m + 1) * n := Nat.mul_le_mul (by omega) hn1
        omega
      have plr := rep_plain pl hL hL1 (by omega)
      refine s_asgL (xs := (repI ts (min (60 / n * n) ((m + 1) * ts.length))).map V.int) ?_ fun p2 H7 hp2 e7 h7 => key _ _ ⟨p2, _, rfl, (e5.trans e6).trans e7, h7, plr⟩
      rw [← cu]
      refine el_slL (el_rep (k := 1 + (m : Int)) (ev_var rfl) (by rw [← hm]; (repeat' (first | with_reducible exact ev_c | ((with_reducible show Ev (tVar _) _ _ _); exact ev_var rfl) | with_reducible exact ea_nil | with_reducible exact eo_none | with_reducible refine' ea_cons ?_ ?_ | with_reducible refine' eo_some ?_ | with_reducible refine' ev_and2 ?_ ?_ | with_reducible refine' ev_or2 ?_ ?_ | with_reducible refine' ev_notV ?_ | with_reducible exact ru_I | with_reducible refine' ev_un ?_ ?_ | with_reducible exact rv_I0 | with_reducible exact rv_isN | with_reducible exact rv_notN | with_reducible refine' rv_I ?_ | with_reducible refine' rv_eq ?_ | with_reducible refine' rv_ne ?_ | with_reducible refine' ev_op ?_ ?_ ?_ | with_reducible refine' ev_chain2 ?_ ?_ ?_ ?_ ?_ | with_reducible refine' et_B ?_ | with_reducible refine' et_test ?_ | with_reducible refine' et_and2 ?_ ?_ | with_reducible refine' et_or2 ?_ ?_ | with_reducible refine' et_not ?_ | with_reducible refine' ev_call ?_ ?_ | with_reducible refine' ev_callS ?_ ?_ | with_reducible refine' ev_cb ?_ ?_ | with_reducible exact isi_bool (by assumption) | with_reducible exact isi_int (by assumption) | with_reducible exact isi_list (by assumption) | with_reducible exact rc_len (by assumption) | with_reducible exact rc_sum (by assumption) | with_reducible exact rc_abs | with_reducible exact isi_listL (by assumption) | with_reducible exact isi_intI | with_reducible exact isi_boolI | with_reducible exact rc_lenT (by assumption) | with_reducible exact isi_tup (by assumption) | with_reducible exact rv_eqL (by assumption) (by assumption) | with_reducible exact rv_neL (by assumption) (by assumption) | with_reducible exact rv_neT (by assumption) (by assumption) | with_reducible exact rv_ixL (by assumption) (by assumption) | with_reducible exact rv_ixT (by assumption) (by assumption) | with_reducible refine' ev_din ?_ ?_ (by assumption) | with_reducible refine' ev_dnotin ?_ ?_ (by assumption) | with_reducible refine' ev_dget ?_ ?_ (by assumption) (by assumption) | ((with_reducible show SpV _ _ _ _); assumption) | ((with_reducible show RV _ _ _ _ _); assumption) | ((with_reducible show RC _ _ _ _); assumption) | ((with_reducible show CDiv _ _); exact ⟨by omega, by omega⟩) | ((with_reducible show CMul _ _); first | exact .inl ⟨by omega, by omega⟩ | exact .inr ⟨by omega, by omega⟩) | ((with_reducible show CPow _ _); exact ⟨by omega, by omega, by decide⟩) | ((with_reducible show (0 : Int) < _); omega) | ((with_reducible show (0 : Int) ≤ _); omega) | ((with_reducible show scal _ _ = true); rfl)))) p6 (by omega) (by rw [List.length_map, tl, show (1 + (m : Int)).toNat = m + 1 by omega]; exact Nat.le_trans (Nat.mul_le_mul hn2 (show m + 1 ≤ 7 by omega)) (by omega))) (fun H8 e8 => eo_none) (fun H8 e8 => by (repeat' (first | with_reducible exact ev_c | ((with_reducible show Ev (tVar _) _ _ _); exact ev_var rfl) | with_reducible exact ea_nil | with_reducible exact eo_none | with_reducible refine' ea_cons ?_ ?_ | with_reducible refine' eo_some ?_ | with_reducible refine' ev_and2 ?_ ?_ | with_reducible refine' ev_or2 ?_ ?_ | with_reducible refine' ev_notV ?_ | with_reducible exact ru_I | with_reducible refine' ev_un ?_ ?_ | with_reducible exact rv_I0 | with_reducible exact rv_isN | with_reducible exact rv_notN | with_reducible refine' rv_I ?_ | with_reducible refine' rv_eq ?_ | with_reducible refine' rv_ne ?_ | with_reducible refine' ev_op ?_ ?_ ?_ | with_reducible refine' ev_chain2 ?_ ?_ ?_ ?_ ?_ | with_reducible refine' et_B ?_ | with_reducible refine' et_test ?_ | with_reducible refine' et_and2 ?_ ?_ | with_reducible refine' et_or2 ?_ ?_ | with_reducible refine' et_not ?_ | with_reducible refine' ev_call ?_ ?_ | with_reducible refine' ev_callS ?_ ?_ | with_reducible refine' ev_cb ?_ ?_ | with_reducible exact isi_bool (by assumption) | with_reducible exact isi_int (by assumption) | with_reducible exact isi_list (by assumption) | with_reducible exact rc_len (by assumption) | with_reducible exact rc_sum (by assumption) | with_reducible exact rc_abs | with_reducible exact isi_listL (by assumption) | with_reducible exact isi_intI | with_reducible exact isi_boolI | with_reducible exact rc_lenT (by assumption) | with_reducible exact isi_tup (by assumption) | with_reducible exact rv_eqL (by assumption) (by assumption) | with_reducible exact rv_neL (by assumption) (by assumption) | with_reducible exact rv_neT (by assumption) (by assumption) | with_reducible exact rv_ixL (by assumption) (by assumption) | with_reducible exact rv_ixT (by assumption) (by assumption) | with_reducible refine' ev_din ?_ ?_ (by assumption) | with_reducible refine' ev_dnotin ?_ ?_ (by assumption) | with_reducible refine' ev_dget ?_ ?_ (by assumption) (by assumption) | ((with_reducible show SpV _ _ _ _); assumption) | ((with_reducible show RV _ _ _ _ _); assumption) | ((with_reducible show RC _ _ _ _); assumption) | ((with_reducible show CDiv _ _); exact ⟨by omega, by omega⟩) | ((with_reducible show CMul _ _); first | exact .inl ⟨by omega, by omega⟩ | exact .inr ⟨by omega, by omega⟩) | ((with_reducible show CPow _ _); exact ⟨by omega, by omega, by decide⟩) | ((with_reducible show (0 : Int) < _); omega) | ((with_reducible show (0 : Int) ≤ _); omega) | ((with_reducible show scal _ _ = true); rfl))))
    rintro σ' H' ⟨p, ts, rfl, e6, p6, pl⟩
    clear e5 p5 tl hs5
    have n1 := pl.row.1
    have n60 := pl.row.2.1
    refine q_asgL (xs := []) (el_lst ea_nil (by decide)) fun du H7 hdu e7 h7 => ?_
    have p7 := e7 _ _ p6
    have fv : SpV (sp_first_state K) [.ref p] H7 (.int (st ts ((0 : Nat) : Int))) := spv_of fun H8 e8 Q E q => ⟨p, ts, rfl, e8 _ _ p7, pl, q⟩
    refine q_asg (v := .int (st ts ((0 : Nat) : Int))) (by (repeat' (first | with_reducible exact ev_c | ((with_reducible show Ev (tVar _) _ _ _); exact ev_var rfl) | with_reducible exact ea_nil | with_reducible exact eo_none | with_reducible refine' ea_cons ?_ ?_ | with_reducible refine' eo_some ?_ | with_reducible refine' ev_and2 ?_ ?_ | with_reducible refine' ev_or2 ?_ ?_ | with_reducible refine' ev_notV ?_ | with_reducible exact ru_I | with_reducible refine' ev_un ?_ ?_ | with_reducible exact rv_I0 | with_reducible exact rv_isN | with_reducible exact rv_notN | with_reducible refine' rv_I ?_ | with_reducible refine' rv_eq ?_ | with_reducible refine' rv_ne ?_ | with_reducible refine' ev_op ?_ ?_ ?_ | with_reducible refine' ev_chain2 ?_ ?_ ?_ ?_ ?_ | with_reducible refine' et_B ?_ | with_reducible refine' et_test ?_ | with_reducible refine' et_and2 ?_ ?_ | with_reducible refine' et_or2 ?_ ?_ | with_reducible refine' et_not ?_ | with_reducible refine' ev_call ?_ ?_ | with_reducible refine' ev_callS ?_ ?_ | with_reducible refine' ev_cb ?_ ?_ | with_reducible exact isi_bool (by assumption) | with_reducible exact isi_int (by assumption) | with_reducible exact isi_list (by assumption) | with_reducible exact rc_len (by assumption) | with_reducible exact rc_sum (by assumption) | with_reducible exact rc_abs | with_reducible exact isi_listL (by assumption) | with_reducible exact isi_intI | with_reducible exact isi_boolI | with_reducible exact rc_lenT (by assumption) | with_reducible exact isi_tup (by assumption) | with_reducible exact rv_eqL (by assumption) (by assumption) | with_reducible exact rv_neL (by assumption) (by assumption) | with_reducible exact rv_neT (by assumption) (by assumption) | with_reducible exact rv_ixL (by assumption) (by assumption) | with_reducible exact rv_ixT (by assumption) (by assumption) | with_reducible refine' ev_din ?_ ?_ (by assumption) | with_reducible refine' ev_dnotin ?_ ?_ (by assumption) | with_reducible refine' ev_dget ?_ ?_ (by assumption) (by assumption) | ((with_reducible show SpV _ _ _ _); assumption) | ((with_reducible show RV _ _ _ _ _); assumption) | ((with_reducible show RC _ _ _ _); assumption) | ((with_reducible show CDiv _ _); exact ⟨by omega, by omega⟩) | ((with_reducible show CMul _ _); first | exact .inl ⟨by omega, by omega⟩ | exact .inr ⟨by omega, by omega⟩) | ((with_reducible show CPow _ _); exact ⟨by omega, by omega, by decide⟩) | ((with_reducible show (0 : Int) < _); omega) | ((with_reducible show (0 : Int) ≤ _); omega) | ((with_reducible show scal _ _ = true); rfl)))) fun H8 e8 => ?_
    have p8 := e8 _ _ p7
    have duH : H' du = none := hdu
    refine q_forLn (a := p) (xs := ts.map V.int) (by (repeat' (first | with_reducible exact ev_c | ((with_reducible show Ev (tVar _) _ _ _); exact ev_var rfl) | with_reducible exact ea_nil | with_reducible exact eo_none | with_reducible refine' ea_cons ?_ ?_ | with_reducible refine' eo_some ?_ | with_reducible refine' ev_and2 ?_ ?_ | with_reducible refine' ev_or2 ?_ ?_ | with_reducible refine' ev_notV ?_ | with_reducible exact ru_I | with_reducible refine' ev_un ?_ ?_ | with_reducible exact rv_I0 | with_reducible exact rv_isN | with_reducible exact rv_notN | with_reducible refine' rv_I ?_ | with_reducible refine' rv_eq ?_ | with_reducible refine' rv_ne ?_ | with_reducible refine' ev_op ?_ ?_ ?_ | with_reducible refine' ev_chain2 ?_ ?_ ?_ ?_ ?_ | with_reducible refine' et_B ?_ | with_reducible refine' et_test ?_ | with_reducible refine' et_and2 ?_ ?_ | with_reducible refine' et_or2 ?_ ?_ | with_reducible refine' et_not ?_ | with_reducible refine' ev_call ?_ ?_ | with_reducible refine' ev_callS ?_ ?_ | with_reducible refine' ev_cb ?_ ?_ | with_reducible exact isi_bool (by assumption) | with_reducible exact isi_int (by assumption) | with_reducible exact isi_list (by assumption) | with_reducible exact rc_len (by assumption) | with_reducible exact rc_sum (by assumption) | with_reducible exact rc_abs | with_reducible exact isi_listL (by assumption) | with_reducible exact isi_intI | with_reducible exact isi_boolI | with_reducible exact rc_lenT (by assumption) | with_reducible exact isi_tup (by assumption) | with_reducible exact rv_eqL (by assumption) (by assumption) | with_reducible exact rv_neL (by assumption) (by assumption) | with_reducible exact rv_neT (by assumption) (by assumption) | with_reducible exact rv_ixL (by assumption) (by assumption) | with_reducible exact rv_ixT (by assumption) (by assumption) | with_reducible refine' ev_din ?_ ?_ (by assumption) | with_reducible refine' ev_dnotin ?_ ?_ (by assumption) | with_reducible refine' ev_dget ?_ ?_ (by assumption) (by assumption) | ((with_reducible show SpV _ _ _ _); assumption) | ((with_reducible show RV _ _ _ _ _); assumption) | ((with_reducible show RC _ _ _ _); assumption) | ((with_reducible show CDiv _ _); exact ⟨by omega, by omega⟩) | ((with_reducible show CMul _ _); first | exact .inl ⟨by omega, by omega⟩ | exact .inr ⟨by omega, by omega⟩) | ((with_reducible show CPow _ _); exact ⟨by omega, by omega, by decide⟩) | ((with_reducible show (0 : Int) < _); omega) | ((with_reducible show (0 : Int) ≤ _); omega) | ((with_reducible show scal _ _ = true); rfl)))) (sq_of p8) (fun i σ'' H'' => ∃ (y6 : Option V) (ps : List Addr), σ'' = [some (V.ref a), some (V.int (n : Int)), some (V.int mo), some (V.ref p), some (V.ref du), some (V.int (st ts (i : Int))), y6, none, none, none, none, none, none] ∧ Ex H' H'' ∧ H'' du = some (.lst (ps.map V.ref)) ∧ HeldP H'' ps ((stepsI ts).take i)) (fun H9 e9 => ⟨_, [], rfl, (e7.trans e8).trans e9, (e8.trans e9) _ _ h7, ⟨by simp, fun i p s h => by simp at h⟩⟩) (fun i σ'' H'' _ ⟨_, _, _, e9, _⟩ => sq_of (e9 _ _ p6)) ?_ ?_
    · rintro i x σ'' H'' hx ⟨y6, ps, rfl, e9, h9, hP⟩
      rw [List.getElem?_map] at hx
      obtain ⟨t, ht, rfl⟩ := Option.map_eq_some_iff.mp hx
      have hi : i < ts.length := (List.getElem?_eq_some_iff.mp ht).1
      have et : t = ts.getD i 0 := by
        rw [List.getD_eq_getElem?_getD, ht]
        rfl
      have ht1 : (stepsI ts).take (i + 1) = (stepsI ts).take i ++ [(st ts (i : Int), t)] := by
        rw [List.take_add_one, steps_at hi, et]
        rfl
      have plen : ps.length ≤ 60 := by
        rw [hP.1, List.length_take, stepsI_len]
        omega
      refine q_appU (ys := [.int (st ts (i : Int)), .int t]) h9 (ev_var rfl) (eu_tup (ea_cons (ev_var rfl) (ea_cons (ev_var rfl) ea_nil)) (by simp)) (by rw [List.length_map]; omega) fun T H10 hT e10 h10 => ?_
      have hP10 : HeldP H10 (ps ++ [T]) ((stepsI ts).take i ++ [(st ts (i : Int), t)]) := HeldP.snoc (hP.mono fun x u hu => e10 _ _ hu) h10
      have h910 := e10 _ _ h9
      have e11 : Ex H' (upd H10 du (.lst (ps.map V.ref ++ [.ref T]))) := Ex.mut (e9.trans e10) duH
      have h11 : (upd H10 du (.lst (ps.map V.ref ++ [.ref T]))) du = some (.lst ((ps ++ [T]).map V.ref)) := by
        rw [upd_same, List.map_append]
        rfl
      have hP11 : HeldP (upd H10 du (.lst (ps.map V.ref ++ [.ref T]))) (ps ++ [T]) ((stepsI ts).take i ++ [(st ts (i : Int), t)]) := hP10.mono fun x u hu => by
        rw [upd_ne fun z => by rw [z, h910] at hu; cases hu]
        exact hu
      generalize upd H10 du (.lst (ps.map V.ref ++ [.ref T])) = H11 at *
      have lv : SpV sp_led [.int (st ts (i : Int)), .int t] H11 (.int (st ts ((i : Int) + 1))) := spv_of fun H9 e9 Q E q => ⟨ts, (i : Int), t, rfl, pl, by rw [pt_at hi]; exact et, q⟩
      refine s_asg (v := .int (st ts ((i : Int) + 1))) (by (repeat' (first | with_reducible exact ev_c | ((with_reducible show Ev (tVar _) _ _ _); exact ev_var rfl) | with_reducible exact ea_nil | with_reducible exact eo_none | with_reducible refine' ea_cons ?_ ?_ | with_reducible refine' eo_some ?_ | with_reducible refine' ev_and2 ?_ ?_ | with_reducible refine' ev_or2 ?_ ?_ | with_reducible refine' ev_notV ?_ | with_reducible exact ru_I | with_reducible refine' ev_un ?_ ?_ | with_reducible exact rv_I0 | with_reducible exact rv_isN | with_reducible exact rv_notN | with_reducible refine' rv_I ?_ | with_reducible refine' rv_eq ?_ | with_reducible refine' rv_ne ?_ | with_reducible refine' ev_op ?_ ?_ ?_ | with_reducible refine' ev_chain2 ?_ ?_ ?_ ?_ ?_ | with_reducible refine' et_B ?_ | with_reducible refine' et_test ?_ | with_reducible refine' et_and2 ?_ ?_ | with_reducible refine' et_or2 ?_ ?_ | with_reducible refine' et_not ?_ | with_reducible refine' ev_call ?_ ?_ | with_reducible refine' ev_callS ?_ ?_ | with_reducible refine' ev_cb ?_ ?_ | with_reducible exact isi_bool (by assumption) | with_reducible exact isi_int (by assumption) | with_reducible exact isi_list (by assumption) | with_reducible exact rc_len (by assumption) | with_reducible exact rc_sum (by assumption) | with_reducible exact rc_abs | with_reducible exact isi_listL (by assumption) | with_reducible exact isi_intI | with_reducible exact isi_boolI | with_reducible exact rc_lenT (by assumption) | with_reducible exact isi_tup (by assumption) | with_reducible exact rv_eqL (by assumption) (by assumption) | with_reducible exact rv_neL (by assumption) (by assumption) | with_reducible exact rv_neT (by assumption) (by assumption) | with_reducible exact rv_ixL (by assumption) (by assumption) | with_reducible exact rv_ixT (by assumption) (by assumption) | with_reducible refine' ev_din ?_ ?_ (by assumption) | with_reducible refine' ev_dnotin ?_ ?_ (by assumption) | with_reducible refine' ev_dget ?_ ?_ (by assumption) (by assumption) | ((with_reducible show SpV _ _ _ _); assumption) | ((with_reducible show RV _ _ _ _ _); assumption) | ((with_reducible show RC _ _ _ _); assumption) | ((with_reducible show CDiv _ _); exact ⟨by omega, by omega⟩) | ((with_reducible show CMul _ _); first | exact .inl ⟨by omega, by omega⟩ | exact .inr ⟨by omega, by omega⟩) | ((with_reducible show CPow _ _); exact ⟨by omega, by omega, by decide⟩) | ((with_reducible show (0 : Int) < _); omega) | ((with_reducible show (0 : Int) ≤ _); omega) | ((with_reducible show scal _ _ = true); rfl)))) fun H12 e12 => ⟨some (V.int t), ps ++ [T], ?_, e11.trans e12, e12 _ _ h11, ?_⟩
      · rw [show ((i + 1 : Nat) : Int) = (i : Int) + 1 by omega]
        rfl
      · rw [ht1]
        exact hP11.mono fun x u hu => e12 _ _ hu
    rintro σ'' H9 ⟨y6, ps, rfl, e9, h9, hP⟩
    rw [List.length_map, show (stepsI ts).take ts.length = stepsI ts by rw [← stepsI_len ts, List.take_length]] at hP
    have p9 := e9 _ _ p6
    have sp9 : SqL K H9 p (ts.map V.int) := sq_of p9
    refine q_asgL (xs := ts.map V.int) (el_cb (by (repeat' (first | with_reducible exact ev_c | ((with_reducible show Ev (tVar _) _ _ _); exact ev_var rfl) | with_reducible exact ea_nil | with_reducible exact eo_none | with_reducible refine' ea_cons ?_ ?_ | with_reducible refine' eo_some ?_ | with_reducible refine' ev_and2 ?_ ?_ | with_reducible refine' ev_or2 ?_ ?_ | with_reducible refine' ev_notV ?_ | with_reducible exact ru_I | with_reducible refine' ev_un ?_ ?_ | with_reducible exact rv_I0 | with_reducible exact rv_isN | with_reducible exact rv_notN | with_reducible refine' rv_I ?_ | with_reducible refine' rv_eq ?_ | with_reducible refine' rv_ne ?_ | with_reducible refine' ev_op ?_ ?_ ?_ | with_reducible refine' ev_chain2 ?_ ?_ ?_ ?_ ?_ | with_reducible refine' et_B ?_ | with_reducible refine' et_test ?_ | with_reducible refine' et_and2 ?_ ?_ | with_reducible refine' et_or2 ?_ ?_ | with_reducible refine' et_not ?_ | with_reducible refine' ev_call ?_ ?_ | with_reducible refine' ev_callS ?_ ?_ | with_reducible refine' ev_cb ?_ ?_ | with_reducible exact isi_bool (by assumption) | with_reducible exact isi_int (by assumption) | with_reducible exact isi_list (by assumption) | with_reducible exact rc_len (by assumption) | with_reducible exact rc_sum (by assumption) | with_reducible exact rc_abs | with_reducible exact isi_listL (by assumption) | with_reducible exact isi_intI | with_reducible exact isi_boolI | with_reducible exact rc_lenT (by assumption) | with_reducible exact isi_tup (by assumption) | with_reducible exact rv_eqL (by assumption) (by assumption) | with_reducible exact rv_neL (by assumption) (by assumption) | with_reducible exact rv_neT (by assumption) (by assumption) | with_reducible exact rv_ixL (by assumption) (by assumption) | with_reducible exact rv_ixT (by assumption) (by assumption) | with_reducible refine' ev_din ?_ ?_ (by assumption) | with_reducible refine' ev_dnotin ?_ ?_ (by assumption) | with_reducible refine' ev_dget ?_ ?_ (by assumption) (by assumption) | ((with_reducible show SpV _ _ _ _); assumption) | ((with_reducible show RV _ _ _ _ _); assumption) | ((with_reducible show RC _ _ _ _); assumption) | ((with_reducible show CDiv _ _); exact ⟨by omega, by omega⟩) | ((with_reducible show CMul _ _); first | exact .inl ⟨by omega, by omega⟩ | exact .inr ⟨by omega, by omega⟩) | ((with_reducible show CPow _ _); exact ⟨by omega, by omega, by decide⟩) | ((with_reducible show (0 : Int) < _); omega) | ((with_reducible show (0 : Int) ≤ _); omega) | ((with_reducible show scal _ _ = true); rfl)))) (rcl_list sp9)) fun g HX hg eX gX => ?_
    have pX := eX _ _ p9
    have duX := eX _ _ h9
    have hPX : HeldP HX ps (stepsI ts) := hP.mono fun x u hu => eX _ _ hu
    generalize V.int (st ts (((ts.map V.int).length : Nat) : Int)) = v5
    obtain ⟨lok, lperm⟩ := parted_ok pl
    have plen : ((partI ts).flatMap fun l => expand l.1 l.2).length ≤ 60 := by
      rw [lperm.length_eq, stepsI_len]
      exact n60
    refine q_forR1 (n := 2) (by (repeat' (first | with_reducible exact ev_c | ((with_reducible show Ev (tVar _) _ _ _); exact ev_var rfl) | with_reducible exact ea_nil | with_reducible exact eo_none | with_reducible refine' ea_cons ?_ ?_ | with_reducible refine' eo_some ?_ | with_reducible refine' ev_and2 ?_ ?_ | with_reducible refine' ev_or2 ?_ ?_ | with_reducible refine' ev_notV ?_ | with_reducible exact ru_I | with_reducible refine' ev_un ?_ ?_ | with_reducible exact rv_I0 | with_reducible exact rv_isN | with_reducible exact rv_notN | with_reducible refine' rv_I ?_ | with_reducible refine' rv_eq ?_ | with_reducible refine' rv_ne ?_ | with_reducible refine' ev_op ?_ ?_ ?_ | with_reducible refine' ev_chain2 ?_ ?_ ?_ ?_ ?_ | with_reducible refine' et_B ?_ | with_reducible refine' et_test ?_ | with_reducible refine' et_and2 ?_ ?_ | with_reducible refine' et_or2 ?_ ?_ | with_reducible refine' et_not ?_ | with_reducible refine' ev_call ?_ ?_ | with_reducible refine' ev_callS ?_ ?_ | with_reducible refine' ev_cb ?_ ?_ | with_reducible exact isi_bool (by assumption) | with_reducible exact isi_int (by assumption) | with_reducible exact isi_list (by assumption) | with_reducible exact rc_len (by assumption) | with_reducible exact rc_sum (by assumption) | with_reducible exact rc_abs | with_reducible exact isi_listL (by assumption) | with_reducible exact isi_intI | with_reducible exact isi_boolI | with_reducible exact rc_lenT (by assumption) | with_reducible exact isi_tup (by assumption) | with_reducible exact rv_eqL (by assumption) (by assumption) | with_reducible exact rv_neL (by assumption) (by assumption) | with_reducible exact rv_neT (by assumption) (by assumption) | with_reducible exact rv_ixL (by assumption) (by assumption) | with_reducible exact rv_ixT (by assumption) (by assumption) | with_reducible refine' ev_din ?_ ?_ (by assumption) | with_reducible refine' ev_dnotin ?_ ?_ (by assumption) | with_reducible refine' ev_dget ?_ ?_ (by assumption) (by assumption) | ((with_reducible show SpV _ _ _ _); assumption) | ((with_reducible show RV _ _ _ _ _); assumption) | ((with_reducible show RC _ _ _ _); assumption) | ((with_reducible show CDiv _ _); exact ⟨by omega, by omega⟩) | ((with_reducible show CMul _ _); first | exact .inl ⟨by omega, by omega⟩ | exact .inr ⟨by omega, by omega⟩) | ((with_reducible show CPow _ _); exact ⟨by omega, by omega, by decide⟩) | ((with_reducible show (0 : Int) < _); omega) | ((with_reducible show (0 : Int) ≤ _); omega) | ((with_reducible show scal _ _ = true); rfl)))) (by omega) (fun i σ'' H'' => ∃ (y8 y9 y10 y11 y12 : Option V), σ'' = [some (V.ref a), some (V.int (n : Int)), some (V.int mo), some (V.ref p), some (V.ref du), some v5, y6, some (V.ref g), y8, y9, y10, y11, y12] ∧ Ex HX H'') (fun H10 e10 => ⟨_, _, _, _, _, rfl, e10⟩) ?_ ?_
    · rintro i σ'' H0 hi ⟨y8, y9, y10, y11, y12, rfl, e0⟩
      refine q_relX (vs := [.ref g]) (by (repeat' (first | with_reducible exact ev_c | ((with_reducible show Ev (tVar _) _ _ _); exact ev_var rfl) | with_reducible exact ea_nil | with_reducible exact eo_none | with_reducible refine' ea_cons ?_ ?_ | with_reducible refine' eo_some ?_ | with_reducible refine' ev_and2 ?_ ?_ | with_reducible refine' ev_or2 ?_ ?_ | with_reducible refine' ev_notV ?_ | with_reducible exact ru_I | with_reducible refine' ev_un ?_ ?_ | with_reducible exact rv_I0 | with_reducible exact rv_isN | with_reducible exact rv_notN | with_reducible refine' rv_I ?_ | with_reducible refine' rv_eq ?_ | with_reducible refine' rv_ne ?_ | with_reducible refine' ev_op ?_ ?_ ?_ | with_reducible refine' ev_chain2 ?_ ?_ ?_ ?_ ?_ | with_reducible refine' et_B ?_ | with_reducible refine' et_test ?_ | with_reducible refine' et_and2 ?_ ?_ | with_reducible refine' et_or2 ?_ ?_ | with_reducible refine' et_not ?_ | with_reducible refine' ev_call ?_ ?_ | with_reducible refine' ev_callS ?_ ?_ | with_reducible refine' ev_cb ?_ ?_ | with_reducible exact isi_bool (by assumption) | with_reducible exact isi_int (by assumption) | with_reducible exact isi_list (by assumption) | with_reducible exact rc_len (by assumption) | with_reducible exact rc_sum (by assumption) | with_reducible exact rc_abs | with_reducible exact isi_listL (by assumption) | with_reducible exact isi_intI | with_reducible exact isi_boolI | with_reducible exact rc_lenT (by assumption) | with_reducible exact isi_tup (by assumption) | with_reducible exact rv_eqL (by assumption) (by assumption) | with_reducible exact rv_neL (by assumption) (by assumption) | with_reducible exact rv_neT (by assumption) (by assumption) | with_reducible exact rv_ixL (by assumption) (by assumption) | with_reducible exact rv_ixT (by assumption) (by assumption) | with_reducible refine' ev_din ?_ ?_ (by assumption) | with_reducible refine' ev_dnotin ?_ ?_ (by assumption) | with_reducible refine' ev_dget ?_ ?_ (by assumption) (by assumption) | ((with_reducible show SpV _ _ _ _); assumption) | ((with_reducible show RV _ _ _ _ _); assumption) | ((with_reducible show RC _ _ _ _); assumption) | ((with_reducible show CDiv _ _); exact ⟨by omega, by omega⟩) | ((with_reducible show CMul _ _); first | exact .inl ⟨by omega, by omega⟩ | exact .inr ⟨by omega, by omega⟩) | ((with_reducible show CPow _ _); exact ⟨by omega, by omega, by decide⟩) | ((with_reducible show (0 : Int) < _); omega) | ((with_reducible show (0 : Int) ≤ _); omega) | ((with_reducible show scal _ _ = true); rfl)))) fun H1 e1 => ⟨_, some (ts.map V.int), rfl, Row.of ((e0.trans e1) _ _ gX), fun hbad => absurd ⟨ts, rfl, pl⟩ hbad, fun ns2 en pl2 => ?_⟩
      injection en with en
      have en := ints_inj en
      subst en
      intro fo ds H2 hfo e2 h2 hh hd
      dsimp only
      have e02 := (e0.trans e1).trans e2
      have foX : HX fo = none := fresh_back (e0.trans e1) hfo
      have g2 := e02 _ _ gX
      have p2 := e02 _ _ pX
      have sg2 : SqL K H2 g (ts.map V.int) := sq_of g2
      have sp2 : SqL K H2 p (ts.map V.int) := sq_of p2
      refine q_when (b := !true || !decide (ts = ts)) (by (repeat' (first | with_reducible exact ev_c | ((with_reducible show Ev (tVar _) _ _ _); exact ev_var rfl) | with_reducible exact ea_nil | with_reducible exact eo_none | with_reducible refine' ea_cons ?_ ?_ | with_reducible refine' eo_some ?_ | with_reducible refine' ev_and2 ?_ ?_ | with_reducible refine' ev_or2 ?_ ?_ | with_reducible refine' ev_notV ?_ | with_reducible exact ru_I | with_reducible refine' ev_un ?_ ?_ | with_reducible exact rv_I0 | with_reducible exact rv_isN | with_reducible exact rv_notN | with_reducible refine' rv_I ?_ | with_reducible refine' rv_eq ?_ | with_reducible refine' rv_ne ?_ | with_reducible refine' ev_op ?_ ?_ ?_ | with_reducible refine' ev_chain2 ?_ ?_ ?_ ?_ ?_ | with_reducible refine' et_B ?_ | with_reducible refine' et_test ?_ | with_reducible refine' et_and2 ?_ ?_ | with_reducible refine' et_or2 ?_ ?_ | with_reducible refine' et_not ?_ | with_reducible refine' ev_call ?_ ?_ | with_reducible refine' ev_callS ?_ ?_ | with_reducible refine' ev_cb ?_ ?_ | with_reducible exact isi_bool (by assumption) | with_reducible exact isi_int (by assumption) | with_reducible exact isi_list (by assumption) | with_reducible exact rc_len (by assumption) | with_reducible exact rc_sum (by assumption) | with_reducible exact rc_abs | with_reducible exact isi_listL (by assumption) | with_reducible exact isi_intI | with_reducible exact isi_boolI | with_reducible exact rc_lenT (by assumption) | with_reducible exact isi_tup (by assumption) | with_reducible exact rv_eqL (by assumption) (by assumption) | with_reducible exact rv_neL (by assumption) (by assumption) | with_reducible exact rv_neT (by assumption) (by assumption) | with_reducible exact rv_ixL (by assumption) (by assumption) | with_reducible exact rv_ixT (by assumption) (by assumption) | with_reducible refine' ev_din ?_ ?_ (by assumption) | with_reducible refine' ev_dnotin ?_ ?_ (by assumption) | with_reducible refine' ev_dget ?_ ?_ (by assumption) (by assumption) | ((with_reducible show SpV _ _ _ _); assumption) | ((with_reducible show RV _ _ _ _ _); assumption) | ((with_reducible show RC _ _ _ _); assumption) | ((with_reducible show CDiv _ _); exact ⟨by omega, by omega⟩) | ((with_reducible show CMul _ _); first | exact .inl ⟨by omega, by omega⟩ | exact .inr ⟨by omega, by omega⟩) | ((with_reducible show CPow _ _); exact ⟨by omega, by omega, by decide⟩) | ((with_reducible show (0 : Int) < _); omega) | ((with_reducible show (0 : Int) ≤ _); omega) | ((with_reducible show scal _ _ = true); rfl)))) (fun h => by simp at h) (fun _ H3 e3 => ?_)
      refine q_asgL (xs := []) (el_lst ea_nil (by decide)) fun s0 H4 hs0 e4 h4 => ?_
      have e24 := e3.trans e4
      have e04 := e02.trans e24
      have dlen := hh.1
      refine q_forLn (a := fo) (xs := ds.map fun d => V.ref d.1) (by (repeat' (first | with_reducible exact ev_c | ((with_reducible show Ev (tVar _) _ _ _); exact ev_var rfl) | with_reducible exact ea_nil | with_reducible exact eo_none | with_reducible refine' ea_cons ?_ ?_ | with_reducible refine' eo_some ?_ | with_reducible refine' ev_and2 ?_ ?_ | with_reducible refine' ev_or2 ?_ ?_ | with_reducible refine' ev_notV ?_ | with_reducible exact ru_I | with_reducible refine' ev_un ?_ ?_ | with_reducible exact rv_I0 | with_reducible exact rv_isN | with_reducible exact rv_notN | with_reducible refine' rv_I ?_ | with_reducible refine' rv_eq ?_ | with_reducible refine' rv_ne ?_ | with_reducible refine' ev_op ?_ ?_ ?_ | with_reducible refine' ev_chain2 ?_ ?_ ?_ ?_ ?_ | with_reducible refine' et_B ?_ | with_reducible refine' et_test ?_ | with_reducible refine' et_and2 ?_ ?_ | with_reducible refine' et_or2 ?_ ?_ | with_reducible refine' et_not ?_ | with_reducible refine' ev_call ?_ ?_ | with_reducible refine' ev_callS ?_ ?_ | with_reducible refine' ev_cb ?_ ?_ | with_reducible exact isi_bool (by assumption) | with_reducible exact isi_int (by assumption) | with_reducible exact isi_list (by assumption) | with_reducible exact rc_len (by assumption) | with_reducible exact rc_sum (by assumption) | with_reducible exact rc_abs | with_reducible exact isi_listL (by assumption) | with_reducible exact isi_intI | with_reducible exact isi_boolI | with_reducible exact rc_lenT (by assumption) | with_reducible exact isi_tup (by assumption) | with_reducible exact rv_eqL (by assumption) (by assumption) | with_reducible exact rv_neL (by assumption) (by assumption) | with_reducible exact rv_neT (by assumption) (by assumption) | with_reducible exact rv_ixL (by assumption) (by assumption) | with_reducible exact rv_ixT (by assumption) (by assumption) | with_reducible refine' ev_din ?_ ?_ (by assumption) | with_reducible refine' ev_dnotin ?_ ?_ (by assumption) | with_reducible refine' ev_dget ?_ ?_ (by assumption) (by assumption) | ((with_reducible show SpV _ _ _ _); assumption) | ((with_reducible show RV _ _ _ _ _); assumption) | ((with_reducible show RC _ _ _ _); assumption) | ((with_reducible show CDiv _ _); exact ⟨by omega, by omega⟩) | ((with_reducible show CMul _ _); first | exact .inl ⟨by omega, by omega⟩ | exact .inr ⟨by omega, by omega⟩) | ((with_reducible show CPow _ _); exact ⟨by omega, by omega, by decide⟩) | ((with_reducible show (0 : Int) < _); omega) | ((with_reducible show (0 : Int) ≤ _); omega) | ((with_reducible show scal _ _ = true); rfl)))) (sq_of (e24 _ _ h2)) (fun k σ'' H'' => ∃ (y11 y12 : Option V) (sp : Addr) (qs : List Addr), σ'' = [some (V.ref a), some (V.int (n : Int)), some (V.int mo), some (V.ref p), some (V.ref du), some v5, y6, some (V.ref g), some (V.int (i : Int)), some (V.ref fo), some (V.ref sp), y11, y12] ∧ Ex H4 H'' ∧ H'' sp = some (.lst (qs.map V.ref)) ∧ HeldP H'' qs (((partI ts).take k).flatMap fun l => expand l.1 l.2)) (fun H5 e5 => ⟨_, _, s0, [], rfl, e5, e5 _ _ h4, ⟨by simp, fun i p s h => by simp at h⟩⟩) (fun i σ'' H'' _ ⟨_, _, _, _, _, e5, _⟩ => sq_of ((e24.trans e5) _ _ h2)) ?_ ?_
      · rintro k x σ'' H5 hx ⟨y11, y12, sp, qs, rfl, e5, h5, hQ⟩
        rw [List.getElem?_map] at hx
        obtain ⟨d, hdk, rfl⟩ := Option.map_eq_some_iff.mp hx
        have hk : k < (partI ts).length := by
          rw [← dlen]
          exact (List.getElem?_eq_some_iff.mp hdk).1
        obtain ⟨l, hl⟩ : ∃ l, (partI ts)[k]? = some l := ⟨_, List.getElem?_eq_getElem hk⟩
        obtain ⟨t1, t2⟩ := hh.2 k d l hdk hl
        have lm : l ∈ partI ts := List.mem_of_getElem? hl
        have llen : l.2.length ≤ 60 := by
          have := flat_mem (fun l : Int × List Int => expand l.1 l.2) lm
          rw [expand_len] at this
          omega
        have e25 := e24.trans e5
        refine q_relX (vs := [.ref d.1]) (by (repeat' (first | with_reducible exact ev_c | ((with_reducible show Ev (tVar _) _ _ _); exact ev_var rfl) | with_reducible exact ea_nil | with_reducible exact eo_none | with_reducible refine' ea_cons ?_ ?_ | with_reducible refine' eo_some ?_ | with_reducible refine' ev_and2 ?_ ?_ | with_reducible refine' ev_or2 ?_ ?_ | with_reducible refine' ev_notV ?_ | with_reducible exact ru_I | with_reducible refine' ev_un ?_ ?_ | with_reducible exact rv_I0 | with_reducible exact rv_isN | with_reducible exact rv_notN | with_reducible refine' rv_I ?_ | with_reducible refine' rv_eq ?_ | with_reducible refine' rv_ne ?_ | with_reducible refine' ev_op ?_ ?_ ?_ | with_reducible refine' ev_chain2 ?_ ?_ ?_ ?_ ?_ | with_reducible refine' et_B ?_ | with_reducible refine' et_test ?_ | with_reducible refine' et_and2 ?_ ?_ | with_reducible refine' et_or2 ?_ ?_ | with_reducible refine' et_not ?_ | with_reducible refine' ev_call ?_ ?_ | with_reducible refine' ev_callS ?_ ?_ | with_reducible refine' ev_cb ?_ ?_ | with_reducible exact isi_bool (by assumption) | with_reducible exact isi_int (by assumption) | with_reducible exact isi_list (by assumption) | with_reducible exact rc_len (by assumption) | with_reducible exact rc_sum (by assumption) | with_reducible exact rc_abs | with_reducible exact isi_listL (by assumption) | with_reducible exact isi_intI | with_reducible exact isi_boolI | with_reducible exact rc_lenT (by assumption) | with_reducible exact isi_tup (by assumption) | with_reducible exact rv_eqL (by assumption) (by assumption) | with_reducible exact rv_neL (by assumption) (by assumption) | with_reducible exact rv_neT (by assumption) (by assumption) | with_reducible exact rv_ixL (by assumption) (by assumption) | with_reducible exact rv_ixT (by assumption) (by assumption) | with_reducible refine' ev_din ?_ ?_ (by assumption) | with_reducible refine' ev_dnotin ?_ ?_ (by assumption) | with_reducible refine' ev_dget ?_ ?_ (by assumption) (by assumption) | ((with_reducible show SpV _ _ _ _); assumption) | ((with_reducible show RV _ _ _ _ _); assumption) | ((with_reducible show RC _ _ _ _); assumption) | ((with_reducible show CDiv _ _); exact ⟨by omega, by omega⟩) | ((with_reducible show CMul _ _); first | exact .inl ⟨by omega, by omega⟩ | exact .inr ⟨by omega, by omega⟩) | ((with_reducible show CPow _ _); exact ⟨by omega, by omega, by decide⟩) | ((with_reducible show (0 : Int) < _); omega) | ((with_reducible show (0 : Int) ≤ _); omega) | ((with_reducible show scal _ _ = true); rfl)))) fun H6 e6 => ⟨d.1, d.2, l, ts, rfl, (e25.trans e6) _ _ t1, (e25.trans e6) _ _ t2, pl, lok l lm, llen, fun mo2 rs H7 hmo2 e7 h7 hR => ?_⟩
        dsimp only
        refine q_when (b := decide (V.ref mo2 = V.non)) (by (repeat' (first | with_reducible exact ev_c | ((with_reducible show Ev (tVar _) _ _ _); exact ev_var rfl) | with_reducible exact ea_nil | with_reducible exact eo_none | with_reducible refine' ea_cons ?_ ?_ | with_reducible refine' eo_some ?_ | with_reducible refine' ev_and2 ?_ ?_ | with_reducible refine' ev_or2 ?_ ?_ | with_reducible refine' ev_notV ?_ | with_reducible exact ru_I | with_reducible refine' ev_un ?_ ?_ | with_reducible exact rv_I0 | with_reducible exact rv_isN | with_reducible exact rv_notN | with_reducible refine' rv_I ?_ | with_reducible refine' rv_eq ?_ | with_reducible refine' rv_ne ?_ | with_reducible refine' ev_op ?_ ?_ ?_ | with_reducible refine' ev_chain2 ?_ ?_ ?_ ?_ ?_ | with_reducible refine' et_B ?_ | with_reducible refine' et_test ?_ | with_reducible refine' et_and2 ?_ ?_ | with_reducible refine' et_or2 ?_ ?_ | with_reducible refine' et_not ?_ | with_reducible refine' ev_call ?_ ?_ | with_reducible refine' ev_callS ?_ ?_ | with_reducible refine' ev_cb ?_ ?_ | with_reducible exact isi_bool (by assumption) | with_reducible exact isi_int (by assumption) | with_reducible exact isi_list (by assumption) | with_reducible exact rc_len (by assumption) | with_reducible exact rc_sum (by assumption) | with_reducible exact rc_abs | with_reducible exact isi_listL (by assumption) | with_reducible exact isi_intI | with_reducible exact isi_boolI | with_reducible exact rc_lenT (by assumption) | with_reducible exact isi_tup (by assumption) | with_reducible exact rv_eqL (by assumption) (by assumption) | with_reducible exact rv_neL (by assumption) (by assumption) | with_reducible exact rv_neT (by assumption) (by assumption) | with_reducible exact rv_ixL (by assumption) (by assumption) | with_reducible exact rv_ixT (by assumption) (by assumption) | with_reducible refine' ev_din ?_ ?_ (by assumption) | with_reducible refine' ev_dnotin ?_ ?_ (by assumption) | with_reducible refine' ev_dget ?_ ?_ (by assumption) (by assumption) | ((with_reducible show SpV _ _ _ _); assumption) | ((with_reducible show RV _ _ _ _ _); assumption) | ((with_reducible show RC _ _ _ _); assumption) | ((with_reducible show CDiv _ _); exact ⟨by omega, by omega⟩) | ((with_reducible show CMul _ _); first | exact .inl ⟨by omega, by omega⟩ | exact .inr ⟨by omega, by omega⟩) | ((with_reducible show CPow _ _); exact ⟨by omega, by omega, by decide⟩) | ((with_reducible show (0 : Int) < _); omega) | ((with_reducible show (0 : Int) ≤ _); omega) | ((with_reducible show scal _ _ = true); rfl)))) (fun h => by simp at h) (fun _ H8 e8 => ?_)
        have h58 := ((e6.trans e7).trans e8) _ _ h5
        have qlen : qs.length ≤ 60 := by
          rw [hQ.1]
          exact Nat.le_trans (flat_len _ _ _) plen
        have rlen : rs.length ≤ 60 := by
          rw [hR.1, expand_len]
          exact llen
        refine s_asgL (xs := (qs ++ rs).map V.ref) ?_ fun sp2 H9 hsp2 e9 h9 => ⟨_, _, sp2, qs ++ rs, rfl, (((e5.trans e6).trans e7).trans e8).trans e9, h9, ?_⟩
        · rw [List.map_append]
          exact el_catV (ev_var rfl) (ev_var rfl) h58 (e8 _ _ h7) (by rw [List.length_map, List.length_map]; omega)
        · rw [List.take_add_one, hl, List.flatMap_append]
          exact HeldP.app (hQ.mono fun x u hu => (((e6.trans e7).trans e8).trans e9) _ _ hu) (by
            show HeldP H9 rs ([l].flatMap fun l => expand l.1 l.2)
            rw [List.flatMap_cons, List.flatMap_nil, List.append_nil]
            exact hR.mono fun x u hu => (e8.trans e9) _ _ hu)
      · rintro σ'' H5 ⟨y11, y12, sp, qs, rfl, e5, h5, hQ⟩
        rw [List.length_map, dlen, List.take_length] at hQ
        have e05 := e04.trans e5
        refine q_when (b := false) (et_test (ev_sortNe (ev_var rfl) (ev_var rfl) h5 (e05 _ _ duX) hQ (hPX.mono fun x u hu => e05 _ _ hu) lperm)) (fun h => by cases h) (fun _ H6 e6 => ?_)
        have e26 := (e24.trans e5).trans e6
        have fo6 := e26 _ _ h2
        have hh6 : HeldL H6 ds (partI ts) := hh.mono fun d hdm => ⟨fun u hu => e26 _ _ hu, fun u hu => e26 _ _ hu⟩
        have d2 : ∀ d ∈ ds, ∃ xs, H6 d.2 = some (.lst xs) := fun d hdm => by
          obtain ⟨j, hj, hdj⟩ := List.mem_iff_getElem.mp hdm
          have hj2 : j < (partI ts).length := by rw [← dlen]; exact hj
          exact ⟨_, (hh6.2 j d _ (by rw [List.getElem?_eq_getElem hj, hdj]) (List.getElem?_eq_getElem hj2)).2⟩
        have nfo : fo ∉ ds.map fun d => d.2 := fun hm => by
          obtain ⟨d, hdm, e⟩ := List.mem_map.mp hm
          exact (hd d hdm).2.2 e
        refine q_forLn (a := fo) (xs := ds.map fun d => V.ref d.1) (by (repeat' (first | with_reducible exact ev_c | ((with_reducible show Ev (tVar _) _ _ _); exact ev_var rfl) | with_reducible exact ea_nil | with_reducible exact eo_none | with_reducible refine' ea_cons ?_ ?_ | with_reducible refine' eo_some ?_ | with_reducible refine' ev_and2 ?_ ?_ | with_reducible refine' ev_or2 ?_ ?_ | with_reducible refine' ev_notV ?_ | with_reducible exact ru_I | with_reducible refine' ev_un ?_ ?_ | with_reducible exact rv_I0 | with_reducible exact rv_isN | with_reducible exact rv_notN | with_reducible refine' rv_I ?_ | with_reducible refine' rv_eq ?_ | with_reducible refine' rv_ne ?_ | with_reducible refine' ev_op ?_ ?_ ?_ | with_reducible refine' ev_chain2 ?_ ?_ ?_ ?_ ?_ | with_reducible refine' et_B ?_ | with_reducible refine' et_test ?_ | with_reducible refine' et_and2 ?_ ?_ | with_reducible refine' et_or2 ?_ ?_ | with_reducible refine' et_not ?_ | with_reducible refine' ev_call ?_ ?_ | with_reducible refine' ev_callS ?_ ?_ | with_reducible refine' ev_cb ?_ ?_ | with_reducible exact isi_bool (by assumption) | with_reducible exact isi_int (by assumption) | with_reducible exact isi_list (by assumption) | with_reducible exact rc_len (by assumption) | with_reducible exact rc_sum (by assumption) | with_reducible exact rc_abs | with_reducible exact isi_listL (by assumption) | with_reducible exact isi_intI | with_reducible exact isi_boolI | with_reducible exact rc_lenT (by assumption) | with_reducible exact isi_tup (by assumption) | with_reducible exact rv_eqL (by assumption) (by assumption) | with_reducible exact rv_neL (by assumption) (by assumption) | with_reducible exact rv_neT (by assumption) (by assumption) | with_reducible exact rv_ixL (by assumption) (by assumption) | with_reducible exact rv_ixT (by assumption) (by assumption) | with_reducible refine' ev_din ?_ ?_ (by assumption) | with_reducible refine' ev_dnotin ?_ ?_ (by assumption) | with_reducible refine' ev_dget ?_ ?_ (by assumption) (by assumption) | ((with_reducible show SpV _ _ _ _); assumption) | ((with_reducible show RV _ _ _ _ _); assumption) | ((with_reducible show RC _ _ _ _); assumption) | ((with_reducible show CDiv _ _); exact ⟨by omega, by omega⟩) | ((with_reducible show CMul _ _); first | exact .inl ⟨by omega, by omega⟩ | exact .inr ⟨by omega, by omega⟩) | ((with_reducible show CPow _ _); exact ⟨by omega, by omega, by decide⟩) | ((with_reducible show (0 : Int) < _); omega) | ((with_reducible show (0 : Int) ≤ _); omega) | ((with_reducible show scal _ _ = true); rfl)))) (sq_of fo6) (fun k σ'' H'' => ∃ (y11 : Option V), σ'' = [some (V.ref a), some (V.int (n : Int)), some (V.int mo), some (V.ref p), some (V.ref du), some v5, y6, some (V.ref g), some (V.int (i : Int)), some (V.ref fo), some (V.ref sp), y11, y12] ∧ ExB (ds.map fun d => d.2) H6 H'' ∧ ∀ d ∈ ds, ∃ xs, H'' d.2 = some (.lst xs)) (fun H7 e7 => ⟨_, rfl, ExB.refl.ex e7, fun d hdm => by
          obtain ⟨xs, hxs⟩ := d2 d hdm
          exact ⟨xs, e7 _ _ hxs⟩⟩) (fun i σ'' H'' _ ⟨_, _, e7, _⟩ => sq_of (e7 _ _ nfo fo6)) ?_ ?_
        · rintro k x σ'' H7 hx ⟨y11, rfl, eb, hl⟩
          rw [List.getElem?_map] at hx
          obtain ⟨d, hdk, rfl⟩ := Option.map_eq_some_iff.mp hx
          have hdm : d ∈ ds := List.mem_of_getElem? hdk
          have hk : k < (partI ts).length := by
            rw [← dlen]
            exact (List.getElem?_eq_some_iff.mp hdk).1
          obtain ⟨t1, _⟩ := hh6.2 k d _ hdk (List.getElem?_eq_getElem hk)
          have nd1 : d.1 ∉ ds.map fun d => d.2 := fun hm => by
            obtain ⟨d3, hdm3, e⟩ := List.mem_map.mp hm
            obtain ⟨xs, hxs⟩ := d2 d3 hdm3
            rw [e, t1] at hxs
            cases hxs
          have t7 := eb _ _ nd1 t1
          have st7 := st_of (K := K) t7
          obtain ⟨xs, hxs⟩ := hl d hdm
          have at1 : ∀ z : Int, atI [V.int z, V.ref d.2] 1 = some (V.ref d.2) := fun _ => rfl
          refine s_clearE (l := d.2) (ev_op (ev_var rfl) ev_c (rv_ixT st7 (at1 _))) hxs fun H8 e8 => ⟨some (V.ref d.1), rfl, (eb.ex e8).upd (List.mem_map.mpr ⟨d, hdm, rfl⟩), fun d3 hdm3 => ?_⟩
          by_cases z : d3.2 = d.2
          · rw [z, upd_same]
            exact ⟨_, rfl⟩
          · rw [upd_ne z]
            obtain ⟨ys, hys⟩ := hl d3 hdm3
            exact ⟨ys, e8 _ _ hys⟩
        · rintro σ'' H7 ⟨y11, rfl, eb, hl⟩
          have fo7 := eb _ _ nfo fo6
          have eX7 : Ex HX H7 := viaB (e02.trans e26) eb fun x hx => by
            obtain ⟨d, hdm, e⟩ := List.mem_map.mp hx
            rw [← e]
            exact fresh_back (e0.trans e1) (hd d hdm).2.1
          refine s_clearE (l := fo) (ev_var rfl) fo7 fun H8 e8 => ⟨_, _, _, _, _, rfl, Ex.mut (eX7.trans e8) foX⟩
    · rintro σ'' H10 ⟨y8, y9, y10, y11, y12, rfl, e10⟩
      exact s_ret (v := .bl true) (by (repeat' (first | with_reducible exact ev_c | ((with_reducible show Ev (tVar _) _ _ _); exact ev_var rfl) | with_reducible exact ea_nil | with_reducible exact eo_none | with_reducible refine' ea_cons ?_ ?_ | with_reducible refine' eo_some ?_ | with_reducible refine' ev_and2 ?_ ?_ | with_reducible refine' ev_or2 ?_ ?_ | with_reducible refine' ev_notV ?_ | with_reducible exact ru_I | with_reducible refine' ev_un ?_ ?_ | with_reducible exact rv_I0 | with_reducible exact rv_isN | with_reducible exact rv_notN | with_reducible refine' rv_I ?_ | with_reducible refine' rv_eq ?_ | with_reducible refine' rv_ne ?_ | with_reducible refine' ev_op ?_ ?_ ?_ | with_reducible refine' ev_chain2 ?_ ?_ ?_ ?_ ?_ | with_reducible refine' et_B ?_ | with_reducible refine' et_test ?_ | with_reducible refine' et_and2 ?_ ?_ | with_reducible refine' et_or2 ?_ ?_ | with_reducible refine' et_not ?_ | with_reducible refine' ev_call ?_ ?_ | with_reducible refine' ev_callS ?_ ?_ | with_reducible refine' ev_cb ?_ ?_ | with_reducible exact isi_bool (by assumption) | with_reducible exact isi_int (by assumption) | with_reducible exact isi_list (by assumption) | with_reducible exact rc_len (by assumption) | with_reducible exact rc_sum (by assumption) | with_reducible exact rc_abs | with_reducible exact isi_listL (by assumption) | with_reducible exact isi_intI | with_reducible exact isi_boolI | with_reducible exact rc_lenT (by assumption) | with_reducible exact isi_tup (by assumption) | with_reducible exact rv_eqL (by assumption) (by assumption) | with_reducible exact rv_neL (by assumption) (by assumption) | with_reducible exact rv_neT (by assumption) (by assumption) | with_reducible exact rv_ixL (by assumption) (by assumption) | with_reducible exact rv_ixT (by assumption) (by assumption) | with_reducible refine' ev_din ?_ ?_ (by assumption) | with_reducible refine' ev_dnotin ?_ ?_ (by assumption) | with_reducible refine' ev_dget ?_ ?_ (by assumption) (by assumption) | ((with_reducible show SpV _ _ _ _); assumption) | ((with_reducible show RV _ _ _ _ _); assumption) | ((with_reducible show RC _ _ _ _); assumption) | ((with_reducible show CDiv _ _); exact ⟨by omega, by omega⟩) | ((with_reducible show CMul _ _); first | exact .inl ⟨by omega, by omega⟩ | exact .inr ⟨by omega, by omega⟩) | ((with_reducible show CPow _ _); exact ⟨by omega, by omega, by decide⟩) | ((with_reducible show (0 : Int) < _); omega) | ((with_reducible show (0 : Int) ≤ _); omega) | ((with_reducible show scal _ _ = true); rfl)))) fun H11 e11 => q H11

end TB

/-! ### the head's run -/
namespace TB
open PySem PySem.Spec PyProof.Rows L2 Evl
abbrev R : PySem.W.OpenRow := PySem.W.OpenLaw.row PySem.Challenge.rw_tossbook_k11_whole_parted
abbrev hk : PySem.W.Hook := hookM 5 fa fn ex
def ob (s : PySem.W.SharedT) : AlM := obsMG 5 fa fn ex (HandSHeadRun.getT s)
theorem ob_eq (s : PySem.W.SharedT) : ob s = hk.obs s.abs := obsMG_eq (HandSHeadRun.getT_eq s)
theorem run (w : World) : HandSHeadRun.RunEq R (PySem.W.view R.prog [30]) hk ob 4000 ((["TossError", "NotARow", "OutOfBounds", "NotPlain", "NoThrow", "Clash", "GREATEST", "LONGEST", "is_whole", "within", "check_row", "clash_of", "check_pattern", "HIGHEST", "thrown", "states_of", "parted", "_law_cell_at", "_law_mixed", "_law_size_by", "_law_spots_by", "_law_plain_by", "_law_near_even", "_law_led", "_law_first_state", "_law_loop_steps"] : List PySem.Str)) w := by
  intro os
  kernel_rfl
end TB

/-! ### the end -/
namespace TB
open PySem PySem.Spec PyProof.Rows L2 Evl
theorem ref_inj {a b : Addr} (h : (some (.ref a) : Option Value) = some (.ref b)) : a = b := by
  cases h
  rfl
theorem fn_cx0 {P : Program} {w : World} {K : PySem.W.Frag} {mg : Str → Option Value} {base : Heap} {k : Nat} {f : Addr} {fd : FuncData} {ps : List Str} {sp : Sp} (F : FnOk P w K mg base (L2.CX P w) k f fd ps sp) :
    FnOk P w K mg base CX0 k f fd ps (fun vs H Q _ => sp vs H Q (fun _ _ _ => False)) :=
  ⟨fun vs H Q E h => F.len vs H Q _ h, fun A outer s H args us vs Q E hr he hb hv hs => codeAny_mono (F.run A outer s H args us vs Q (fun _ _ _ => False) hr he hb hv hs) fun r s' hq => by
    cases r with
    | error e =>
      obtain ⟨_, _, _, _, _, _, _, _, _, _, _, _, z⟩ := (show L2.CX P w outer H s (fun _ _ _ => False) e s' from hq)
      exact z.elim
    | ok fl => cases fl <;> exact hq⟩
end TB
open PySem PySem.W PySem.Calls PyProof.Rows
theorem PySem.Challenge.cw_tossbook_k11_whole_parted_holds : PySem.Challenge.rw_tossbook_k11_whole_parted.Holds := by
  w_on; o_law
  refine HandSHeadRun.head_any (r := OpenLaw.row PySem.Challenge.rw_tossbook_k11_whole_parted) (q := view (OpenLaw.row PySem.Challenge.rw_tossbook_k11_whole_parted).prog [30]) (H := TB.hk) (ob := TB.ob) (M := 4000) (loose := (["TossError", "NotARow", "OutOfBounds", "NotPlain", "NoThrow", "Clash", "GREATEST", "LONGEST", "is_whole", "within", "check_row", "clash_of", "check_pattern", "HIGHEST", "thrown", "states_of", "parted", "_law_cell_at", "_law_mixed", "_law_size_by", "_law_spots_by", "_law_plain_by", "_law_near_even", "_law_led", "_law_first_state", "_law_loop_steps"] : List PySem.Str)) (d := HandSHeadRun.topDef (OpenLaw.row PySem.Challenge.rw_tossbook_k11_whole_parted).prog 30) (kwd := []) TB.ob_eq
    (by kernel_rfl) (fun s => by kernel_rfl) TB.run (by kernel_rfl) (by kernel_rfl) (by kernel_rfl) (by rfl) (by first | assumption | decide +kernel) (by decide +kernel) ⟨rfl, rfl, rfl, rfl, rfl, by decide +kernel⟩ ?hw ?hc
  case hw => w_witness2
  case hc =>
    refine L2.walk_ofE (l := PySem.Challenge.rw_tossbook_k11_whole_parted) (n := 63) (k := TB.lawLevel) (x := "_law_script") (CX := L2.CX0) rfl (by decide) (by kernel_rfl) ⟨rfl, by decide, by decide⟩ ?F (fun _ _ _ _ z => z)
    intro w mg fa h Y G hmg0
    obtain ⟨K, KX, c⟩ := Y
    have hmg : mg ("law" : PySem.Str) = some (.ref fa) := by
      have e : (HandSHeadRun.topDef (OpenLaw.row PySem.Challenge.rw_tossbook_k11_whole_parted).prog 30).name = ("law" : PySem.Str) := by kernel_rfl
      rw [← e]
      exact hmg0
    have T : TB.TXT K mg := ⟨⟨h, KX, G⟩, c⟩
    obtain ⟨f0, fd, g, bA, F⟩ := (TB.ok_law (P := (PySem.Challenge.rw_tossbook_k11_whole_parted).prog) (w := w) T).ex
    have ef : f0 = fa := TB.ref_inj (g.symm.trans hmg)
    subst ef
    exact ⟨K, fd, _, KX, fun s v => bA s [v] rfl, fun H a ns hl _ hS => TB.law_true H a ns hl hS, fun base _ _ => TB.fn_cx0 (F base)⟩
#print axioms PySem.Challenge.cw_tossbook_k11_whole_parted_holds


