import PyProof.Rows.All
import Wide.All
import OpenK.AllK
import Wide.FinOn
import KE.KStateDown
import HandS.ForMost
import HandS.Evl
import HandS.Wide
import HandS.EndBits
import HandS.Defaults
import HandS.Head0
import HandS.Head1
import HandS.Head2
import HandS.HeadEnd
import HandS.HeadHook1
import HandS.HeadHook2
import HandS.IsInst
import HandS.Walk
import HandS.Style
import HandS.SortInts
import HandS.Conv
import HandS.Flow
import HandS.New0
import HandS.More
import HandS.ExcIs
import HandS.HotCalls
import HandS.WordsExc
import HandS.CallSlots
import PySem.Challenge.RW_shadowrow_k05_refused
set_option Elab.async false
set_option linter.all false
set_option maxRecDepth 100000
/-! the head's facts, widened by tests of one's own; the end with the script's bits -/
namespace Sx
open PySem PySem.Spec PyProof.Rows L2
abbrev AlX : Type := He.AlD × Bool
def obsX (fa : List He.Fa) (fn : List He.DefD) (xs : List (PySem.W.Frag → Bool)) (K : PySem.W.Frag) : AlX := (He.obsD fa fn K, xs.all fun t => t K)
def valX (fn : List He.DefD) : AlX := (He.valD fn, true)
def SaysX (fa : List He.Fa) (fn : List He.DefD) (xs : List (PySem.W.Frag → Bool)) (K : PySem.W.Frag) : Prop := obsX fa fn xs K = valX fn
def obsXG (n : Nat) (fa : List He.Fa) (fn : List He.DefD) (xs : List (PySem.W.Frag → Bool)) (g : Addr → Option Obj) : AlX := obsX fa fn xs (He.frG g (He.asD g n))
def hookX (n : Nat) (fa : List He.Fa) (fn : List He.DefD) (xs : List (PySem.W.Frag → Bool)) : PySem.W.Hook where
  α := AlX
  obs := fun s => obsXG n fa fn xs s.heap.get?
  val := fun _ => valX fn
  says := fun _ h => ∃ K : PySem.W.Frag, K.In h ∧ SaysX fa fn xs K
  of := fun _ _ e => ⟨_, He.frG_in, e⟩
  keeps := fun _ _ _ z k => by
    obtain ⟨K, hK, c⟩ := z
    exact ⟨K, PySem.W.Frag.In.keeps hK k, c⟩
theorem obsXG_eq {n : Nat} {fa : List He.Fa} {fn : List He.DefD} {xs : List (PySem.W.Frag → Bool)} {g : Addr → Option Obj} {s : Shared} (h : ∀ a, g a = s.heap.get? a) :
    obsXG n fa fn xs g = (hookX n fa fn xs).obs s := by
  have e : g = s.heap.get? := funext h
  subst e
  rfl
section
variable {fa : List He.Fa} {fn : List He.DefD} {xs : List (PySem.W.Frag → Bool)} {K : PySem.W.Frag}
theorem SaysX.d (c : SaysX fa fn xs K) : He.SaysD fa fn K := congrArg (fun z : AlX => z.1) c
theorem SaysX.x (c : SaysX fa fn xs K) {t : PySem.W.Frag → Bool} (h : t ∈ xs) : t K = true := by
  have e : (xs.all fun t => t K) = true := congrArg (fun z : AlX => z.2) c
  exact List.all_eq_true.mp e t h
end
/-- a law's end over facts, with the bits -/
theorem walk_X {l : PySem.W.OpenLaw} {n k : Nat} {q : Program} {loose : List Str} {XP : (Str → Option Value) → Heap → Prop} {YP : World → Heap → Prop} {d : DefRec} {CX : CXT} {x : Str}
    (hn : l.most = some n) (hn2 : n ≤ sizeLine) (hdf : d.params.defaults = []) (room : Room k callerA)
    (F : ∀ (w : World) (mg : Str → Option Value) (fa : Addr) (h : Heap), YP w h → h.Ns mainGlobals mg → mg d.name = some (.ref fa) →
      ∃ (K : PySem.W.Frag) (fd : FuncData) (sp : Sp), K.In h ∧ (∀ (s : Shared) (u : Value), BindsTo s fd ⟨[u], []⟩ [(x, u)]) ∧
        (∀ (H : Hp) (a : Addr) (ns : List Int), ns.length ≤ n → (∀ z ∈ ns, Builtin.Int.intBits z ≤ 1048576) → SqL K H a (ns.map V.int) → sp [.ref a] H (fun v _ => v = .bl true) fun _ _ _ => False) ∧
        ∀ base : Heap, K.In base → base.Ns mainGlobals mg → FnOk l.prog w K mg base CX k fa fd [x] sp)
    (out : ∀ (H : Hp) (s : Shared) (e : Value) (s' : Shared), CX [] H s (fun _ _ _ => False) e s' → False) :
    PySem.W.WalkO q loose XP YP l.row.toRowW d [] (fun f vs => PySem.call f vs) := by
  refine Att.attach_callB hn hdf fun w s₀ s₁ mg mb fa o pm cd doc a vs ns G Y ho hd hcd hmg hobj hints hlen bits hg => ?_
  obtain ⟨K, fd, sp, inK, hb, hsp, hF⟩ := F w mg fa _ Y G.T.g hmg
  exact law_call inK G.T.g G.T.b G.T.builtins G.T.nolimit hg hobj hints (Nat.le_trans hlen hn2) room hF hb (fun H _ hS => hsp H a ns hlen bits hS) fun H e s' => out H s₁ e s'
end Sx

set_option Elab.async false
set_option linter.all false
set_option maxRecDepth 100000
set_option maxHeartbeats 4000000
/-! a layer of my own over the hand layer: what evaluates to what, further -/
namespace Sx
open PySem PySem.Spec PyProof.Rows L2 Evl
abbrev oAdd : R2 := rI0 fun i j => .int (i + j)
abbrev oSub : R2 := rI0 fun i j => .int (i - j)
abbrev oDiv : R2 := rI CDiv fun i j => .int (i / j)
abbrev oMod : R2 := rI (fun _ j => 0 < j) fun i j => .int (i % j)
abbrev oPow : R2 := rI CPow fun i j => .int (i ^ j.toNat)
abbrev oLt : R2 := rI0 fun i j => .bl (decide (i < j))
abbrev oLe : R2 := rI0 fun i j => .bl (decide (i ≤ j))
abbrev oGt : R2 := rI0 fun i j => .bl (decide (j < i))
abbrev oGe : R2 := rI0 fun i j => .bl (decide (j ≤ i))
abbrev oNeg : V → Hp → VK → Prop := rU fun i => .int (-i)
abbrev rAbs : List V → Hp → VK → Prop := fun xs H Q => ∃ i, xs = [.int i] ∧ Q (.int (if i < 0 then -i else i)) H
abbrev rMax2 : List V → Hp → VK → Prop := fun xs H Q => ∃ i j, xs = [.int i, .int j] ∧ Q (.int (if j > i then j else i)) H
abbrev rMin2 : List V → Hp → VK → Prop := fun xs H Q => ∃ i j, xs = [.int i, .int j] ∧ Q (.int (if j < i then j else i)) H
abbrev rIsN : R2 := fun x y H Q => y = .non ∧ Q (.bl (decide (x = .non))) H
abbrev rNotN : R2 := fun x y H Q => y = .non ∧ Q (.bl (!decide (x = .non))) H
/-! ### products of great numbers -/
def CMulX (i j : Int) : Prop := i.natAbs.log2 + j.natAbs.log2 < 100000000
theorem CMulX.fits {i j : Int} (h : CMulX i j) : IntMulOk i j := by
  have b : ∀ x : Int, Builtin.Int.intBits x ≤ x.natAbs.log2 + 1 := fun x => by
    unfold Builtin.Int.intBits
    split <;> omega
  have bi := b i
  have bj := b j
  have hh : i.natAbs.log2 + j.natAbs.log2 < 100000000 := h
  have line : bitsLine = 134217728 := by decide
  intro z
  have z2 := (Bool.and_eq_true_iff.mp z).2
  unfold Builtin.Int.intTooBig at z2
  have z3 := of_decide_eq_true z2
  rw [line] at z3
  omega
abbrev oMul : R2 := rI CMulX fun i j => .int (i * j)
theorem op_mulX {X : Cx} : OpR X (binaryOp .Mult) oMul := opI fun _ _ _ _ _ _ _ hc q => mul_int q hc.fits
/-- bits -/
theorem log2_le {i : Int} {b : Nat} (h : i.natAbs < 2 ^ (b + 1)) : i.natAbs.log2 ≤ b := by
  by_cases e : i.natAbs = 0
  · rw [e]; simp
  · have := (Nat.log2_lt e).mpr h
    omega
theorem mulX {i j : Int} {a b : Nat} (ha : i.natAbs < 2 ^ (a + 1)) (hb : j.natAbs < 2 ^ (b + 1)) (h : a + b < 100000000) : CMulX i j := by
  have x := log2_le ha
  have y := log2_le hb
  unfold CMulX
  omega
/-! ### the defs of the text by names -/
/-- the built-ins that are not bound anew -/
structure Bl (mg : Str → Option Value) : Prop where
  len : mg "len" = none
  range : mg "range" = none
  isinstance : mg "isinstance" = none
  all : mg "all" = none
  any : mg "any" = none
  zip : mg "zip" = none
  enumerate : mg "enumerate" = none
  sum : mg "sum" = none
  sorted : mg "sorted" = none
  set : mg "set" = none
  list : mg "list" = none
  max : mg "max" = none
  min : mg "min" = none
  abs : mg "abs" = none
  int : mg "int" = none
  bool : mg "bool" = none
abbrev FunX (K : PySem.W.Frag) (st : Stmt) (x q : Str) (f : Addr) (fd : FuncData) : Prop := FunD K x q (defArgs st) (defBody st) (defScope st) [] [] f fd
structure DefOk (P : Program) (w : World) (K : PySem.W.Frag) (mg : Str → Option Value) (base : Heap) (CX : CXT) (k : Nat) (x : Str) (ps : List Str) (sp : Sp) : Prop where
  ex : ∃ (f : Addr) (fd : FuncData), mg x = some (.ref f) ∧ PySem.W.keepIn K (.ref f) = true ∧ Binds K fd ps [] ∧ FnOk P w K mg base CX k f fd ps sp
theorem DefOk.of {P : Program} {w : World} {K : PySem.W.Frag} {mg : Str → Option Value} {base : Heap} {CX : CXT} {k : Nat} {x q : Str} {ps : List Str} {sp : Sp} {st : Stmt} {f : Addr} {fd : FuncData}
    (F : FunX K st x q f fd) (g : mg x = some (.ref f)) (b : Binds K fd ps []) (o : FnOk P w K mg base CX k f fd ps sp) : DefOk P w K mg base CX k x ps sp := ⟨f, fd, g, F.kp, b, o⟩
section
variable {X : Cx} {k : Nat} {ps : List Str} {sp : Sp} {x : Str} {p pos : Pos} {e : Expr} {es : List Expr} {t : TA}
theorem pe_callD (D : DefOk X.prog X.w X.K X.mg X.base CX0 k x ps sp) (hr : Room k X.A) (hg : Gl X x) (ha : PA X (e :: es) t) (hdb : (x == ("__debug__" : Str)) = false := by decide)
    (he : starEach (e :: es) X.env = (false, eval e X.env) :: starEach es X.env := by rfl) (hpl : (backTo pos (starEach es X.env)).any (·.1) = false := by rfl) :
    PE X (.Call (.Name x p) (e :: es) [] pos) (tCall sp [] E0 t) := by
  obtain ⟨f, fd, g, kp, b, o⟩ := D.ex
  exact pe_call o hr hg g kp b .nil pass0 ha hdb he hpl
/-- one of two readings -/
theorem PE.or {e : Expr} {t u : TE} (h1 : PE X e t) (h2 : PE X e u) : PE X e (fun σ H Q => t σ H Q ∨ u σ H Q) := ⟨fun pins s σ H Q I h => by
  rcases h with h | h
  · exact h1.run pins s σ H Q I h
  · exact h2.run pins s σ H Q I h⟩
end
/-! ### heaps -/
/-- as H, but f holds o -/
def Chg (H : Hp) (f : Addr) (o : HO) (H' : Hp) : Prop := H' f = some o ∧ ∀ a u, a ≠ f → H a = some u → H' a = some u
theorem Chg.refl {H : Hp} {f : Addr} {o : HO} (h : H f = some o) : Chg H f o H := ⟨h, fun _ _ _ e => e⟩
theorem Chg.ex {H H1 H2 : Hp} {f : Addr} {o : HO} (c : Chg H f o H1) (e : Ex H1 H2) : Chg H f o H2 := ⟨e _ _ c.1, fun a u n h => e _ _ (c.2 a u n h)⟩
theorem Chg.put {H H1 : Hp} {f : Addr} {o o' : HO} (c : Chg H f o H1) : Chg H f o' (upd H1 f o') := ⟨upd_same, fun a u n h => by rw [upd_ne n]; exact c.2 a u n h⟩
theorem Chg.over {H0 H H1 : Hp} {f : Addr} {o : HO} (c : Chg H f o H1) (e : Ex H0 H) (n : H0 f = none) : Ex H0 H1 := fun a u h => c.2 a u (fun z => by subst z; rw [n] at h; cases h) (e a u h)
theorem Ex.put {H H' : Hp} {p : Addr} {o : HO} (e : Ex H H') (n : H p = none) : Ex H (upd H' p o) := Ex.mut e n
/-! ### what evaluates to what, of a shape -/
/-- to a value v of which R speaks: over the heap ahead, v, the heap behind -/
def EvP (te : TE) (σ : L2.St) (H : Hp) (R : Hp → V → Hp → Prop) : Prop := ∀ H1, Ex H H1 → ∀ Q : VK, (∀ v H2, Ex H1 H2 → R H1 v H2 → Q v H2) → te σ H1 Q
/-- a list that is there behind -/
def EvS (K : PySem.W.Frag) (te : TE) (σ : L2.St) (H : Hp) (xs : List V) : Prop := ∀ H1, Ex H H1 → ∀ Q : VK, (∀ p H2, Ex H1 H2 → SqL K H2 p xs → Q (.ref p) H2) → te σ H1 Q
section
variable {K : PySem.W.Frag} {σ : L2.St} {H H' : Hp} {ta tb te tx : TE} {t u : TT} {x y z v : V} {r : R2} {xs ys : List V}
theorem es_v {a : Addr} (h : Ev te σ H (.ref a)) (hx : SqL K H a xs) : EvS K te σ H xs := fun H1 e Q q => h H1 e _ fun H2 e2 => q a H2 e2 (ex_l (e.trans e2) hx)
theorem es_L (h : EvL te σ H xs) : EvS K te σ H xs := fun H1 e Q q => h H1 e _ fun p H2 _ e2 hp => q p H2 e2 (sq_of hp)
theorem EvS.mono (e : Ex H H') (h : EvS K te σ H xs) : EvS K te σ H' xs := fun H1 a Q q => h H1 (e.trans a) Q q
theorem EvP.mono {R : Hp → V → Hp → Prop} (e : Ex H H') (h : EvP te σ H R) : EvP te σ H' R := fun H1 a Q q => h H1 (e.trans a) Q q
theorem el_is (h : EvL te σ H xs) (e : xs = ys) : EvL te σ H ys := e ▸ h
theorem ep_v {R : Hp → V → Hp → Prop} (h : Ev te σ H v) (hR : ∀ H1 H2, Ex H H1 → Ex H1 H2 → R H1 v H2) : EvP te σ H R := fun H1 e Q q => h H1 e _ fun H2 e2 => q v H2 e2 (hR H1 H2 e e2)
theorem ep_L {R : Hp → V → Hp → Prop} (h : EvL te σ H xs) (hR : ∀ p H1 H2, Ex H H1 → H1 p = none → Ex H1 H2 → H2 p = some (.lst xs) → R H1 (.ref p) H2) : EvP te σ H R :=
  fun H1 e Q q => h H1 e _ fun p H2 n e2 hp => q (.ref p) H2 e2 (hR p H1 H2 e n e2 hp)
theorem EvP.imp {R R' : Hp → V → Hp → Prop} (h : EvP te σ H R) (k : ∀ H1 v H2, Ex H H1 → Ex H1 H2 → R H1 v H2 → R' H1 v H2) : EvP te σ H R' := fun H1 e Q q => h H1 e _ fun v H2 e2 hr => q v H2 e2 (k H1 v H2 e e2 hr)
theorem ev_of_P {R : Hp → V → Hp → Prop} (h : EvP te σ H R) (k : ∀ H1 w H2, R H1 w H2 → w = v) : Ev te σ H v := fun H1 e Q q => h H1 e _ fun w H2 e2 hr => by
  have := k H1 w H2 hr
  subst this
  exact q H2 e2
theorem el_of_P {R : Hp → V → Hp → Prop} (h : EvP te σ H R) (k : ∀ H1 w H2, R H1 w H2 → ∃ p, w = .ref p ∧ H1 p = none ∧ H2 p = some (.lst xs)) : EvL te σ H xs := fun H1 e Q q => h H1 e _ fun w H2 e2 hr => by
  obtain ⟨p, rfl, n, hp⟩ := k H1 w H2 hr
  exact q p H2 n e2 hp
theorem ev_mul {i j : Int} (ha : Ev ta σ H (.int i)) (hb : Ev tb σ H (.int j)) (hc : CMulX i j) : Ev (tOp oMul ta tb) σ H (.int (i * j)) := ev_op ha hb (rv_I hc)
theorem ev_add {i j : Int} (ha : Ev ta σ H (.int i)) (hb : Ev tb σ H (.int j)) : Ev (tOp oAdd ta tb) σ H (.int (i + j)) := ev_op ha hb rv_I0
theorem ev_sub {i j : Int} (ha : Ev ta σ H (.int i)) (hb : Ev tb σ H (.int j)) : Ev (tOp oSub ta tb) σ H (.int (i - j)) := ev_op ha hb rv_I0
theorem ev_div {i j : Int} (ha : Ev ta σ H (.int i)) (hb : Ev tb σ H (.int j)) (hc : CDiv i j) : Ev (tOp oDiv ta tb) σ H (.int (i / j)) := ev_op ha hb (rv_I hc)
theorem ev_mod {i j : Int} (ha : Ev ta σ H (.int i)) (hb : Ev tb σ H (.int j)) (hc : 0 < j) : Ev (tOp oMod ta tb) σ H (.int (i % j)) := ev_op ha hb (rv_I hc)
theorem ev_pow {i j : Int} (ha : Ev ta σ H (.int i)) (hb : Ev tb σ H (.int j)) (hc : CPow i j) : Ev (tOp oPow ta tb) σ H (.int (i ^ j.toNat)) := ev_op ha hb (rv_I hc)
theorem ev_lt {i j : Int} (ha : Ev ta σ H (.int i)) (hb : Ev tb σ H (.int j)) : Ev (tOp oLt ta tb) σ H (.bl (decide (i < j))) := ev_op ha hb rv_I0
theorem ev_le {i j : Int} (ha : Ev ta σ H (.int i)) (hb : Ev tb σ H (.int j)) : Ev (tOp oLe ta tb) σ H (.bl (decide (i ≤ j))) := ev_op ha hb rv_I0
theorem ev_gt {i j : Int} (ha : Ev ta σ H (.int i)) (hb : Ev tb σ H (.int j)) : Ev (tOp oGt ta tb) σ H (.bl (decide (j < i))) := ev_op ha hb rv_I0
theorem ev_ge {i j : Int} (ha : Ev ta σ H (.int i)) (hb : Ev tb σ H (.int j)) : Ev (tOp oGe ta tb) σ H (.bl (decide (j ≤ i))) := ev_op ha hb rv_I0
theorem ev_neg {i : Int} (ha : Ev ta σ H (.int i)) : Ev (tUn oNeg ta) σ H (.int (-i)) := ev_un ha ru_neg
theorem dec_i {i j : Int} : decide (V.int i = V.int j) = decide (i = j) := by
  by_cases h : i = j
  · subst h; simp
  · rw [decide_eq_false h, decide_eq_false]
    exact fun q => h (V.int.inj q)
theorem ev_eqI {i j : Int} (ha : Ev ta σ H (.int i)) (hb : Ev tb σ H (.int j)) : Ev (tOp rEq ta tb) σ H (.bl (decide (i = j))) := ev_is (ev_op ha hb (rv_eq rfl)) (by rw [dec_i])
theorem ev_neI {i j : Int} (ha : Ev ta σ H (.int i)) (hb : Ev tb σ H (.int j)) : Ev (tOp rNe ta tb) σ H (.bl (!decide (i = j))) := ev_is (ev_op ha hb (rv_ne rfl)) (by rw [dec_i])
theorem ev_eqB {i j : Bool} (ha : Ev ta σ H (.bl i)) (hb : Ev tb σ H (.bl j)) : Ev (tOp rEq ta tb) σ H (.bl (i == j)) := ev_is (ev_op ha hb (rv_eq rfl)) (by cases i <;> cases j <;> rfl)
theorem ev_isN (ha : Ev ta σ H x) : Ev (tOp rIsN ta (tC .non)) σ H (.bl (decide (x = .non))) := ev_op ha ev_c fun H1 _ _ q => ⟨rfl, q H1 (Ex.refl H1)⟩
theorem ev_notN (ha : Ev ta σ H x) : Ev (tOp rNotN ta (tC .non)) σ H (.bl (!decide (x = .non))) := ev_op ha ev_c fun H1 _ _ q => ⟨rfl, q H1 (Ex.refl H1)⟩
theorem ev_isB {i j : Bool} (ha : Ev ta σ H (.bl i)) (hb : Ev tb σ H (.bl j)) : Ev (tOp rIsB ta tb) σ H (.bl (decide (i = j))) := ev_op ha hb fun H1 _ _ q => ⟨i, j, rfl, rfl, q H1 (Ex.refl H1)⟩
theorem ev_notB {i j : Bool} (ha : Ev ta σ H (.bl i)) (hb : Ev tb σ H (.bl j)) : Ev (tOp rNotB ta tb) σ H (.bl (!decide (i = j))) := ev_op ha hb fun H1 _ _ q => ⟨i, j, rfl, rfl, q H1 (Ex.refl H1)⟩
/-- a op b op' c -/
theorem ev_chain {r r' : R2} {tc : TE} {b : Bool} (ha : Ev ta σ H x) (hb : Ev tb σ H y) (hr : RV r x y H (.bl b)) (hc : b = true → Ev tc σ H z) (hr' : b = true → RV r' y z H v) (hv : b = false → v = .bl false) : Ev (tChain r r' ta tb tc) σ H v := fun H1 e Q q =>
  ha H1 e _ fun H2 e2 => hb H2 (e.trans e2) _ fun H3 e3 => hr H3 ((e.trans e2).trans e3) _ fun H4 e4 => by
    refine ⟨b, rfl, ?_⟩
    have e5 : Ex H1 H4 := (e2.trans e3).trans e4
    cases b with
    | true =>
      refine iteT ?_
      exact hc rfl H4 (e.trans e5) _ fun H5 e6 => hr' rfl H5 ((e.trans e5).trans e6) Q fun H6 e7 => q H6 ((e5.trans e6).trans e7)
    | false =>
      refine iteF ?_
      have := hv rfl
      subst this
      exact q H4 e5
theorem ev_chLL {i j k : Int} {tc : TE} (ha : Ev ta σ H (.int i)) (hb : Ev tb σ H (.int j)) (hc : Ev tc σ H (.int k)) : Ev (tChain oLe oLe ta tb tc) σ H (.bl (decide (i ≤ j) && decide (j ≤ k))) :=
  ev_chain ha hb rv_I0 (fun _ => hc) (fun h => by rw [h]; exact rv_I0) (fun h => by rw [h]; rfl)
theorem ev_chLl {i j k : Int} {tc : TE} (ha : Ev ta σ H (.int i)) (hb : Ev tb σ H (.int j)) (hc : Ev tc σ H (.int k)) : Ev (tChain oLe oLt ta tb tc) σ H (.bl (decide (i ≤ j) && decide (j < k))) :=
  ev_chain ha hb rv_I0 (fun _ => hc) (fun h => by rw [h]; exact rv_I0) (fun h => by rw [h]; rfl)
theorem ev_andB {a b : Bool} (h1 : Ev ta σ H (.bl a)) (h2 : a = true → Ev tb σ H (.bl b)) : Ev (tAndV ta tb) σ H (.bl (a && b)) := ev_andV h1 h2
/-! lists -/
theorem ev_lenS (h : EvS K ta σ H xs) : Ev (tCB (rLenS K) (tCons ta tNil)) σ H (.int (xs.length : Int)) := fun H1 e Q q =>
  h H1 e _ fun p H2 e2 hp => ⟨p, xs, rfl, Or.inl hp, q H2 e2⟩
theorem ev_ixS {i : Int} (h : EvS K ta σ H xs) (hi : Ev tb σ H (.int i)) (ha : atI xs i = some v) : Ev (tOp (rIxL K) ta tb) σ H v := fun H1 e Q q =>
  h H1 e _ fun p H2 e2 hp => hi H2 (e.trans e2) _ fun H3 e3 => ⟨p, xs, i, v, rfl, rfl, ex_l e3 hp, ha, q H3 (e2.trans e3)⟩
theorem ev_ixU {i : Int} (h : EvU ta σ H xs) (hi : Ev tb σ H (.int i)) (ha : atI xs i = some v) : Ev (tOp (rIxT K) ta tb) σ H v := fun H1 e Q q =>
  h H1 e _ fun p H2 _ e2 hp => hi H2 (e.trans e2) _ fun H3 e3 => ⟨p, xs, i, v, rfl, rfl, st_of (e3 _ _ hp), ha, q H3 (e2.trans e3)⟩
theorem el_slS {tl th : TO} {lo hi : Option Int} (h : EvS K te σ H xs) (h1 : EvO tl σ H lo) (h2 : EvO th σ H hi) : EvL (tSl (rSlL K) te tl th) σ H (cutV xs lo hi) := fun H1 e _ q =>
  h H1 e _ fun p H2 e2 hp => h1 H2 (e.trans e2) _ fun H3 e3 => h2 H3 ((e.trans e2).trans e3) _ fun H4 e4 =>
    ⟨p, xs, rfl, ex_l (e3.trans e4) hp, fun p hp => q p _ (fresh_back ((e2.trans e3).trans e4) hp) (((e2.trans e3).trans e4).trans (Ex.new hp)) upd_same⟩
theorem el_rev (h : EvS K te σ H xs) : EvL (tRevL K te) σ H xs.reverse := fun H1 e _ q => h H1 e _ fun p H2 e2 hp => ⟨p, xs, rfl, hp, fun l hl => q l _ (fresh_back e2 hl) (e2.trans (Ex.new hl)) upd_same⟩
theorem el_listS (h : EvS K ta σ H xs) : EvL (tCB (rListS K) (tCons ta tNil)) σ H xs := fun H1 e Q q =>
  h H1 e _ fun p H2 e2 hp => ⟨p, xs, rfl, Or.inl hp, fun l hl => q l _ (fresh_back e2 hl) (e2.trans (Ex.new hl)) upd_same⟩
theorem el_cat (ha : EvL ta σ H xs) (hb : EvL tb σ H ys) (hz : xs.length + ys.length ≤ 100000) : EvL (tOp rCat ta tb) σ H (xs ++ ys) := fun H1 e Q q =>
  ha H1 e _ fun p H2 _ e2 hp => hb H2 (e.trans e2) _ fun l H3 _ e3 hl => ⟨p, l, xs, ys, rfl, rfl, e3 _ _ hp, hl, sz_of hz, fun d hd => q d _ (fresh_back (e2.trans e3) hd) ((e2.trans e3).trans (Ex.new hd)) upd_same⟩
theorem ev_sum {ns : List Int} (h : EvS K ta σ H (ns.map V.int)) : Ev (tCB (rSum K) (tCons ta tNil)) σ H (.int ns.sum) := fun H1 e Q q => h H1 e _ fun p H2 e2 hp => ⟨p, ns, rfl, hp, q H2 e2⟩
theorem ev_all {bs : List Bool} (h : EvS K ta σ H (bs.map V.bl)) : Ev (tCB (rAll K) (tCons ta tNil)) σ H (.bl (bs.all id)) := fun H1 e Q q => h H1 e _ fun p H2 e2 hp => ⟨p, bs, rfl, hp, q H2 e2⟩
theorem ev_any {bs : List Bool} (h : EvS K ta σ H (bs.map V.bl)) : Ev (tCB (rAny K) (tCons ta tNil)) σ H (.bl (bs.any id)) := fun H1 e Q q => h H1 e _ fun p H2 e2 hp => ⟨p, bs, rfl, hp, q H2 e2⟩
theorem ev_abs {i : Int} (h : Ev ta σ H (.int i)) : Ev (tCB rAbs (tCons ta tNil)) σ H (.int (if i < 0 then -i else i)) := fun H1 e Q q => h H1 e _ fun H2 e2 => ⟨i, rfl, q H2 e2⟩
theorem ev_maxI {i j : Int} (ha : Ev ta σ H (.int i)) (hb : Ev tb σ H (.int j)) : Ev (tCB rMax2 (tCons ta (tCons tb tNil))) σ H (.int (if j > i then j else i)) := fun H1 e Q q =>
  ha H1 e _ fun H2 e2 => hb H2 (e.trans e2) _ fun H3 e3 => ⟨i, j, rfl, q H3 (e2.trans e3)⟩
theorem ev_minI {i j : Int} (ha : Ev ta σ H (.int i)) (hb : Ev tb σ H (.int j)) : Ev (tCB rMin2 (tCons ta (tCons tb tNil))) σ H (.int (if j < i then j else i)) := fun H1 e Q q =>
  ha H1 e _ fun H2 e2 => hb H2 (e.trans e2) _ fun H3 e3 => ⟨i, j, rfl, q H3 (e2.trans e3)⟩
/-! isinstance -/
/-- x is of the type t, whatever comes beside -/
def TyS (K : PySem.W.Frag) (H : Hp) (x : V) (t : Value) : Prop := ∀ H', Ex H H' → TyX K H' x t
theorem ty_int {i : Int} : TyS K H (.int i) (.type "int") := fun _ _ => .base (.int i)
theorem ty_bl {b : Bool} : TyS K H (.bl b) (.type "bool") := fun _ _ => .base (.bl b)
theorem ty_non : TyS K H .non (.type "NoneType") := fun _ _ => .base .non
theorem ty_lst {a : Addr} (h : SqL K H a xs) : TyS K H (.ref a) (.type "list") := fun H' e => by
  rcases ex_l e h with (h | ⟨o, h⟩) | ⟨o, its, n, h1, h2, _⟩
  · exact .base (.lst h)
  · exact .base (.frz h)
  · exact .kList h1 h2
theorem ev_isi {t cv : Value} {c : V} {b : Bool} (hx : Ev ta σ H x) (hc : Ev tb σ H c) (kc : ClsV c cv) (ty : TyS K H x t) (hk : PySem.W.kitOne K t cv = some b) : Ev (tCB (rIsi K) (tCons ta (tCons tb tNil))) σ H (.bl b) := fun H1 e Q q =>
  hx H1 e _ fun H2 e2 => hc H2 (e.trans e2) _ fun H3 e3 => ⟨x, c, t, cv, b, rfl, kc, ty H3 ((e.trans e2).trans e3), hk, q H3 (e2.trans e3)⟩
theorem ev_isiT {a b : String} {k : Bool} (hx : Ev ta σ H x) (ty : TyS K H x (.type a)) (hk : kitB a b = some k) : Ev (tCB (rIsi K) (tCons ta (tCons (tC (.ty b)) tNil))) σ H (.bl k) :=
  ev_isi hx ev_c (.ty b) ty (kit_ty hk)
end
/-! ### what is walked -/
def EvI (ti : TI) (σ : L2.St) (H : Hp) (n : Nat) (Y : Nat → Hp → V → Hp → Prop) : Prop := ∀ H1, Ex H H1 → ∀ R : It → Hp → Prop,
  (∀ J H2 (G : Hp → Prop), Ex H1 H2 → Walk J n G Y → (∀ H3, Ex H2 H3 → G H3) → R J H2) → ti σ H1 R
/-- the walked thing is new: what stood may change -/
def EvIN (ti : TI) (σ : L2.St) (H : Hp) (n : Nat) (Y : Nat → Hp → V → Hp → Prop) : Prop := ∀ H1, Ex H H1 → ∀ R : It → Hp → Prop,
  (∀ J H2 (G : Hp → Prop), Ex H1 H2 → Walk J n G Y → (∀ H3, (∀ a o, H1 a = none → H2 a = some o → H3 a = some o) → G H3) → R J H2) → ti σ H1 R
section
variable {K : PySem.W.Frag} {σ : L2.St} {H H' : Hp} {ta tb te tx : TE} {xs ys : List V} {n : Nat} {Y : Nat → Hp → V → Hp → Prop}
theorem EvIN.ev {ti : TI} (h : EvIN ti σ H n Y) : EvI ti σ H n Y := fun H1 e R q => h H1 e R fun J H2 G e2 w g => q J H2 G e2 w fun H3 e3 => g H3 fun a o _ h2 => e3 a o h2
theorem ei_list (h : EvS K te σ H xs) : EvI (iList K te) σ H xs.length (YAt xs) := fun H1 e R q => h H1 e _ fun p H2 e2 hp => ⟨p, rfl, ⟨xs, hp⟩, q _ H2 _ e2 walk_list fun H3 e3 => ex_l e3 hp⟩
theorem ei_listN (h : EvL te σ H xs) : EvIN (iList K te) σ H xs.length (YAt xs) := fun H1 e R q => h H1 e _ fun p H2 np e2 hp => ⟨p, rfl, ⟨xs, sq_of hp⟩, q _ H2 _ e2 walk_list fun H3 e3 => sq_of (e3 p _ np hp)⟩
theorem ei_tupN (h : EvU te σ H xs) : EvIN (iTup K te) σ H xs.length (YAt xs) := fun H1 e R q => h H1 e _ fun p H2 np e2 hp => ⟨p, rfl, ⟨xs, st_of hp⟩, q _ H2 _ e2 walk_tup fun H3 e3 => st_of (e3 p _ np hp)⟩
theorem ei_enum (h : EvS K te σ H xs) : EvI (iEnum K (tCons te tNil)) σ H xs.length (YPair (fun i => some (.int (i : Nat))) (fun i => xs[i]?)) := fun H1 e R q => h H1 e _ fun p H2 e2 hp =>
  ⟨p, xs, rfl, hp, q _ H2 _ e2 walk_enum fun H3 e3 => ex_l e3 hp⟩
theorem ei_enumN (h : EvL te σ H xs) : EvIN (iEnum K (tCons te tNil)) σ H xs.length (YPair (fun i => some (.int (i : Nat))) (fun i => xs[i]?)) := fun H1 e R q => h H1 e _ fun p H2 np e2 hp =>
  ⟨p, xs, rfl, sq_of hp, q _ H2 _ e2 walk_enum fun H3 e3 => sq_of (e3 p _ np hp)⟩
theorem ei_zip (h1 : EvS K ta σ H xs) (h2 : EvS K tb σ H ys) : EvI (iZip K (tCons ta (tCons tb tNil))) σ H (min xs.length ys.length) (YPair (fun i => xs[i]?) (fun i => ys[i]?)) := fun H1 e R q => h1 H1 e _ fun p H2 e2 hp =>
  h2 H2 (e.trans e2) _ fun l H3 e3 hl => ⟨p, l, xs, ys, rfl, ex_l e3 hp, hl, q _ H3 _ (e2.trans e3) (walk_zip rfl) fun H4 e4 => ⟨ex_l (e3.trans e4) hp, ex_l e4 hl⟩⟩
theorem ei_rng1 {i : Int} (h : Ev ta σ H (.int i)) (h0 : -1000000 ≤ i ∧ i ≤ 1000000) : EvIN (iRng1 (tCons ta tNil)) σ H i.toNat (YFn fun j => .int (j : Nat)) := fun H1 e R q => h H1 e _ fun H2 e2 =>
  ⟨i, rfl, by omega, by omega, q _ H2 _ e2 ⟨fun _ _ hi _ => hi, fun _ _ => Nat.le_refl _, fun i H x H' _ _ y => ⟨y.1, by rw [y.2, Int.zero_add]⟩⟩ fun _ _ => True.intro⟩
theorem ei_rng2 {i j : Int} (ha : Ev ta σ H (.int i)) (hb : Ev tb σ H (.int j)) (h0 : -1000000 ≤ i ∧ i ≤ 1000000) (h1 : -1000000 ≤ j ∧ j ≤ 1000000) : EvIN (iRng2 (tCons ta (tCons tb tNil))) σ H (j - i).toNat (YFn fun k => .int (i + (k : Nat))) :=
  fun H1 e R q => ha H1 e _ fun H2 e2 => hb H2 (e.trans e2) _ fun H3 e3 => ⟨i, j, rfl, ⟨by omega, by omega, by omega, by omega⟩, q _ H3 _ (e2.trans e3) walk_range fun _ _ => True.intro⟩
/-- range(i, j, -1) -/
theorem ei_rngD {tc : TE} {i j : Int} (ha : Ev ta σ H (.int i)) (hb : Ev tb σ H (.int j)) (hc : Ev tc σ H (.int (-1))) (h0 : -1000000 ≤ i ∧ i ≤ 1000000) (h1 : -1000000 ≤ j ∧ j ≤ 1000000) :
    EvIN (iRng3 (tCons ta (tCons tb (tCons tc tNil)))) σ H (i - j).toNat (YFn fun k => .int (i - (k : Nat))) :=
  fun H1 e R q => ha H1 e _ fun H2 e2 => hb H2 (e.trans e2) _ fun H3 e3 => hc H3 ((e.trans e2).trans e3) _ fun H4 e4 => ⟨i, j, -1, (i - j).toNat, rfl, RgC.neg (by omega) (by omega) (by omega) (by omega),
    q _ H4 _ ((e2.trans e3).trans e4) ⟨fun _ _ hi _ => hi, fun _ _ => Nat.le_refl _, fun k H x H' _ _ y => ⟨y.1, by rw [y.2]; congr 1; omega⟩⟩ fun _ _ => True.intro⟩
end
/-! ### targets -/
theorem g_pair {K : PySem.W.Frag} {j1 j2 : Nat} {x y : V} {T : Addr} {σ : L2.St} {H : Hp} {Q : L2.St → Hp → Prop} (h : SqT K H T [x, y]) (q : Q ((σ.set j1 (some x)).set j2 (some y)) H) :
    gTup K 2 (gCons (gName j1) (gCons (gName j2) gNil)) (.ref T) σ H Q := ⟨T, [x, y], rfl, h, rfl, x, [y], rfl, y, [], rfl, rfl, q⟩
/-! ### comprehensions -/
section
variable {K : PySem.W.Frag} {σ : L2.St} {H : Hp} {ti : TI} {g : TG} {te : TE} {vs : List Nat} {n : Nat} {Y : Nat → Hp → V → Hp → Prop}
/-- [e for target in it]: e's i-th value is as R i tells, over the heap ahead of all; what R tells stands when another list (D, the comprehension's own) grows -/
theorem ep_lc (hi : EvI ti σ H n Y) (hn : n ≤ 50000) (R : Nat → Hp → V → Hp → Prop)
    (keep : ∀ i Ha v H2 H3 D o, H D = none → Ha D = some o → (∀ a u, a ≠ D → H2 a = some u → H3 a = some u) → R i Ha v H2 → R i Ha v H3) (back : ∀ i H0 Ha v H2, Ex H0 Ha → R i Ha v H2 → R i H0 v H2)
    (hb : ∀ i x H1 H2, i < n → Ex H H1 → Y i H1 x H2 → Ex H1 H2 ∧ ∀ Q : L2.St → Hp → Prop, (∀ σ2, wipe σ2 vs = wipe σ vs → EvP te σ2 H2 (R i) → Q σ2 H2) → g x (wipe σ vs) H2 Q) :
    EvP (tLc ti g tYes te vs) σ H (fun H1 v H2 => ∃ D L, v = .ref D ∧ H1 D = none ∧ H2 D = some (.lst L) ∧ L.length = n ∧ ∀ i x, L[i]? = some x → R i H1 x H2) := by
  intro H0 e0 Q q
  refine hi H0 e0 _ fun J H1 G e1 w hG D hD => ?_
  have hDH : H D = none := fresh_back (e0.trans e1) hD
  refine lc_it w (fun i H2 => Ex H1 H2 ∧ ∃ L : List V, H2 D = some (.lst L) ∧ L.length = i ∧ ∀ j x, L[j]? = some x → ∃ Ha o, Ex H0 Ha ∧ Ha D = some o ∧ R j Ha x H2) ⟨Ex.new hD, [], upd_same, rfl, fun j x z => by simp at z⟩ (fun i H2 _ p => hG H2 p.1) ?_ ?_
  · rintro i x H2 H3 hlt ⟨e2, L, hL, hl, hR⟩ hy
    obtain ⟨e3, hg⟩ := hb i x H2 H3 hlt ((e0.trans e1).trans e2) hy
    refine hg _ fun σ2 hw he => ⟨hw, ?_⟩
    show te σ2 H3 _
    refine he H3 (Ex.refl H3) _ fun v H4 e4 hv => ⟨L, e4 _ _ (e3 _ _ hL), sz_lt (by omega), ?_⟩
    have e5 : Ex H2 H4 := e3.trans e4
    have up : ∀ a u, a ≠ D → H4 a = some u → upd H4 D (.lst (L ++ [v])) a = some u := fun a u na h => by rw [upd_ne na]; exact h
    refine ⟨Ex.mut (e2.trans e5) hD, L ++ [v], upd_same, by rw [List.length_append, hl]; rfl, fun j y hj => ?_⟩
    by_cases hjl : j < L.length
    · rw [List.getElem?_append_left hjl] at hj
      obtain ⟨Ha, o, h1, h2, h3⟩ := hR j y hj
      exact ⟨Ha, o, h1, h2, keep j Ha y H2 _ D o hDH h2 (fun a u na h => up a u na (e5 a u h)) h3⟩
    · have ej : j = i := by
        have := (List.getElem?_eq_some_iff.mp hj).1
        rw [List.length_append] at this
        have e1 : [v].length = 1 := rfl
        omega
      subst ej
      rw [List.getElem?_append_right (by omega), show j - L.length = 0 by omega] at hj
      have ev : v = y := Option.some.inj hj
      subst ev
      exact ⟨H3, _, (e1.trans e2).trans e3, e3 _ _ hL, keep j H3 v H4 _ D _ hDH (e3 _ _ hL) up hv⟩
  · rintro H2 ⟨e2, L, hL, hl, hR⟩
    refine q (.ref D) H2 (e1.trans e2) ⟨D, L, rfl, fresh_back e1 hD, hL, hl, fun i x hi => ?_⟩
    obtain ⟨Ha, o, h1, _, h3⟩ := hR i x hi
    exact back i H0 Ha x H2 h1 h3
theorem list_of_at {L : List V} {v : Nat → V} {n : Nat} (hl : L.length = n) (h : ∀ i x, L[i]? = some x → x = v i) : L = (List.range n).map v := by
  refine List.ext_getElem? fun i => ?_
  by_cases hi : i < n
  · have e : L[i]? = some L[i] := List.getElem?_eq_getElem (by omega)
    rw [e, h i _ e, List.getElem?_map, List.getElem?_range hi]
    rfl
  · rw [List.getElem?_eq_none (by omega), List.getElem?_eq_none (by rw [List.length_map, List.length_range]; omega)]
/-- .. of values -/
theorem el_lc (v : Nat → V) (hi : EvI ti σ H n Y) (hn : n ≤ 50000)
    (hb : ∀ i x H1 H2, i < n → Ex H H1 → Y i H1 x H2 → Ex H1 H2 ∧ ∀ Q : L2.St → Hp → Prop, (∀ σ2, wipe σ2 vs = wipe σ vs → Ev te σ2 H2 (v i) → Q σ2 H2) → g x (wipe σ vs) H2 Q) : EvL (tLc ti g tYes te vs) σ H ((List.range n).map v) := by
  refine el_of_P (ep_lc hi hn (fun i _ x _ => x = v i) (fun _ _ _ _ _ _ _ _ _ _ h => h) (fun _ _ _ _ _ _ h => h) fun i x H1 H2 hlt e hy => ?_) fun H1 w H2 h => ?_
  · obtain ⟨e2, k⟩ := hb i x H1 H2 hlt e hy
    exact ⟨e2, fun Q q => k Q fun σ2 hw he => q σ2 hw (ep_v he fun _ _ _ _ => rfl)⟩
  · obtain ⟨D, L, rfl, n0, hL, hl, hR⟩ := h
    refine ⟨D, rfl, n0, ?_⟩
    rw [hL, list_of_at hl hR]
/-- the target a name -/
theorem el_lc1 {j : Nat} (f : Nat → V) (v : Nat → V) (hi : EvI ti σ H n (fun i H x H' => H' = H ∧ x = f i)) (hn : n ≤ 50000) (hw : ∀ x, wipe ((wipe σ vs).set j (some x)) vs = wipe σ vs)
    (he : ∀ i H1, i < n → Ex H H1 → Ev te ((wipe σ vs).set j (some (f i))) H1 (v i)) : EvL (tLc ti (gName j) tYes te vs) σ H ((List.range n).map v) :=
  el_lc v hi hn fun i x H1 H2 hlt e y => by
    obtain ⟨rfl, rfl⟩ := y
    exact ⟨Ex.refl _, fun Q q => q _ (hw _) (he i _ hlt e)⟩
theorem el_lcL1 {xs : List V} {j : Nat} (v : Nat → V) (hi : EvI ti σ H xs.length (YAt xs)) (hn : xs.length ≤ 50000) (hw : ∀ x, wipe ((wipe σ vs).set j (some x)) vs = wipe σ vs)
    (he : ∀ i x H1, xs[i]? = some x → Ex H H1 → Ev te ((wipe σ vs).set j (some x)) H1 (v i)) : EvL (tLc ti (gName j) tYes te vs) σ H ((List.range xs.length).map v) :=
  el_lc v hi hn fun i x H1 H2 hlt e y => by
    obtain ⟨rfl, hx⟩ := y
    exact ⟨Ex.refl _, fun Q q => q _ (hw _) (he i x _ hx e)⟩
/-- the target a pair -/
theorem el_lc2 {fx fy : Nat → Option V} {j1 j2 : Nat} (v : Nat → V) (hi : EvI ti σ H n (YPair fx fy)) (hn : n ≤ 50000) (hw : ∀ x y, wipe (((wipe σ vs).set j1 (some x)).set j2 (some y)) vs = wipe σ vs)
    (he : ∀ i x y H1, i < n → fx i = some x → fy i = some y → Ex H H1 → Ev te (((wipe σ vs).set j1 (some x)).set j2 (some y)) H1 (v i)) :
    EvL (tLc ti (gTup K 2 (gCons (gName j1) (gCons (gName j2) gNil))) tYes te vs) σ H ((List.range n).map v) :=
  el_lc v hi hn fun i z H1 H2 hlt e y => by
    obtain ⟨T, a, b, rfl, nT, rfl, ha, hb⟩ := y
    have e2 : Ex H1 (upd H1 T (.tup [a, b])) := Ex.new nT
    exact ⟨e2, fun Q q => g_pair (st_of upd_same) (q _ (hw _ _) (he i a b _ hlt ha hb (e.trans e2)))⟩
end
/-! ### loops -/
section
variable {K : PySem.W.Frag} {σ : L2.St} {H : Hp} {ti : TI} {g : TG} {tu tz : TS} {D : Ends} {n : Nat} {Y : Nat → Hp → V → Hp → Prop}
/-- for target in it: body; rest. I: over the heap at the loop's start, the turn, the slots, the heap -/
theorem q_forN (hi : EvIN ti σ H n Y) (I : Hp → Nat → L2.St → Hp → Prop) (h0 : ∀ H2, Ex H H2 → I H2 0 σ H2) (keep : ∀ H2 i σ' H', Ex H H2 → I H2 i σ' H' → ∀ a o, H a = none → H2 a = some o → H' a = some o)
    (hs : ∀ H2 i x σ' H' H3, Ex H H2 → i < n → I H2 i σ' H' → Y i H' x H3 → g x σ' H3 fun σ2 H4 => tu { D with nx := I H2 (i + 1), ct := I H2 (i + 1), bk := tz D } σ2 H4)
    (hd : ∀ H2 σ' H', Ex H H2 → I H2 n σ' H' → tz D σ' H') : tSeq (tFor ti g tu) tz D σ H :=
  hi H (Ex.refl H) _ fun J H2 G e2 w hG => for_it (D := { D with nx := tz D }) w (I H2) (h0 H2 e2) (fun i σ' H' _ p => hG H' (keep H2 i σ' H' e2 p)) (fun i x σ' H' H3 hlt p y => hs H2 i x σ' H' H3 e2 hlt p y) fun σ' H' p => hd H2 σ' H' e2 p
/-- the walked thing stood before; all that stands is kept -/
theorem q_forE (hi : EvI ti σ H n Y) (I : Hp → Nat → L2.St → Hp → Prop) (h0 : ∀ H2, Ex H H2 → I H2 0 σ H2) (keep : ∀ H2 i σ' H', Ex H H2 → I H2 i σ' H' → Ex H2 H')
    (hs : ∀ H2 i x σ' H' H3, Ex H H2 → i < n → I H2 i σ' H' → Y i H' x H3 → g x σ' H3 fun σ2 H4 => tu { D with nx := I H2 (i + 1), ct := I H2 (i + 1), bk := tz D } σ2 H4)
    (hd : ∀ H2 σ' H', Ex H H2 → I H2 n σ' H' → tz D σ' H') : tSeq (tFor ti g tu) tz D σ H :=
  hi H (Ex.refl H) _ fun J H2 G e2 w hG => for_it (D := { D with nx := tz D }) w (I H2) (h0 H2 e2) (fun i σ' H' _ p => hG H' (keep H2 i σ' H' e2 p)) (fun i x σ' H' H3 hlt p y => hs H2 i x σ' H' H3 e2 hlt p y) fun σ' H' p => hd H2 σ' H' e2 p
theorem q_par {i j : Nat} {ta : TA} {v w : V} (h : EvA ta σ H [v, w]) (k : ∀ H1, Ex H H1 → tz D ((σ.set i (some v)).set j (some w)) H1) : tSeq (tPar i j ta) tz D σ H := h H (Ex.refl H) _ fun H1 e => ⟨v, w, rfl, k H1 e⟩
theorem s_par {i j : Nat} {ta : TA} {v w : V} (h : EvA ta σ H [v, w]) (k : ∀ H1, Ex H H1 → D.nx ((σ.set i (some v)).set j (some w)) H1) : tPar i j ta D σ H := h H (Ex.refl H) _ fun H1 e => ⟨v, w, rfl, k H1 e⟩
theorem q_asgP {i : Nat} {te : TE} {R : Hp → V → Hp → Prop} (h : EvP te σ H R) (k : ∀ v H1, Ex H H1 → R H v H1 → tz D (σ.set i (some v)) H1) : tSeq (tAsg te (gName i)) tz D σ H := h H (Ex.refl H) _ fun v H1 e r => k v H1 e r
theorem s_retP {te : TE} {R : Hp → V → Hp → Prop} (h : EvP te σ H R) (k : ∀ v H1, Ex H H1 → R H v H1 → D.rt v H1) : tRet te D σ H := h H (Ex.refl H) _ fun v H1 e r => k v H1 e r
end
end Sx
namespace Sx
open PySem PySem.Spec PyProof.Rows L2 Evl
/-- a statement, then the rest: what holds between them is told -/
theorem q_cutN {tu tz : TS} {D : Ends} {σ : L2.St} {H : Hp} {M : L2.St → Hp → Prop} (h : ∀ D' : Ends, (D'.rt = D.rt) → (∀ σ' H', M σ' H' → D'.nx σ' H') → tu D' σ H) (k : ∀ σ' H', M σ' H' → tz D σ' H') : tSeq tu tz D σ H :=
  h { D with nx := tz D } rfl k
end Sx

namespace Mth
/-- how many sets of k of n things -/
def C : Nat → Nat → Nat
  | _, 0 => 1
  | 0, _ + 1 => 0
  | n + 1, k + 1 => C n k + C n (k + 1)
theorem C_zero (n : Nat) : C n 0 = 1 := by cases n <;> rfl
theorem C_succ (n k : Nat) : C (n + 1) (k + 1) = C n k + C n (k + 1) := rfl
theorem C_lt : ∀ {n k : Nat}, n < k → C n k = 0
  | 0, 0, h => absurd h (Nat.lt_irrefl _)
  | 0, _ + 1, _ => rfl
  | n + 1, 0, h => by omega
  | n + 1, k + 1, h => by rw [C_succ, C_lt (by omega), C_lt (by omega)]
theorem C_self : ∀ n : Nat, C n n = 1
  | 0 => rfl
  | n + 1 => by rw [C_succ, C_self n, C_lt (Nat.lt_succ_self n)]
theorem C_one : ∀ n : Nat, C n 1 = n
  | 0 => rfl
  | n + 1 => by rw [C_succ, C_zero, C_one n]; omega
theorem C_pos : ∀ {n k : Nat}, k ≤ n → 0 < C n k
  | n, 0, _ => by rw [C_zero]; omega
  | 0, k + 1, h => by omega
  | n + 1, k + 1, h => by
    rw [C_succ]
    have := C_pos (n := n) (k := k) (by omega)
    omega
theorem C_step (n k : Nat) : C n k ≤ C (n + 1) k := by
  cases k with
  | zero => rw [C_zero, C_zero]; exact Nat.le_refl _
  | succ k => rw [C_succ]; omega
theorem C_mono {n m k : Nat} (h : n ≤ m) : C n k ≤ C m k := by
  induction m with
  | zero => have : n = 0 := by omega
            subst this; exact Nat.le_refl _
  | succ m ih =>
    by_cases e : n = m + 1
    · subst e; exact Nat.le_refl _
    · exact Nat.le_trans (ih (by omega)) (C_step m k)
/-- C n (k+1) * (k+1) = C n k * (n - k) -/
theorem C_mul : ∀ n k : Nat, C n (k + 1) * (k + 1) = C n k * (n - k)
  | 0, 0 => rfl
  | 0, k + 1 => by simp [C]
  | n + 1, 0 => by
    rw [C_one, C_zero]; omega
  | n + 1, k + 1 => by
    have h1 := C_mul n (k + 1)
    have h2 := C_mul n k
    rw [C_succ n (k + 1), C_succ n k]
    by_cases hk : k + 1 ≤ n
    · obtain ⟨d, rfl⟩ : ∃ d, n = k + 1 + d := ⟨n - (k + 1), by omega⟩
      have e1 : k + 1 + d - (k + 1) = d := by omega
      have e2 : k + 1 + d - k = d + 1 := by omega
      have e3 : k + 1 + d + 1 - (k + 1) = d + 1 := by omega
      rw [e1] at h1
      rw [e2] at h2
      rw [e3]
      generalize C (k + 1 + d) (k + 1) = b at *
      generalize C (k + 1 + d) (k + 1 + 1) = c at *
      generalize C (k + 1 + d) k = a at *
      -- h1 : c * (k+2) = b * d ; h2 : b * (k+1) = a * (d+1)
      have l : (b + c) * (k + 1 + 1) = b * (k + 1) + b + c * (k + 1 + 1) := by
        rw [Nat.add_mul, Nat.mul_add b (k + 1) 1, Nat.mul_one]
      have r : (a + b) * (d + 1) = a * (d + 1) + (b * d + b) := by
        rw [Nat.add_mul, Nat.mul_add b d 1, Nat.mul_one]
      rw [l, r, h1, h2]
      omega
    · by_cases hn : n = k
      · subst hn
        rw [C_lt (show n < n + 1 by omega), C_lt (show n < n + 1 + 1 by omega)]
        simp
      · rw [C_lt (show n < k + 1 by omega), C_lt (show n < k + 1 + 1 by omega), C_lt (show n < k by omega)]
        simp
theorem C_next (n k : Nat) : C n k * (n - k) / (k + 1) = C n (k + 1) := by
  rw [← C_mul n k]
  exact Nat.mul_div_cancel _ (by omega)
/-- C n k ≥ n - k + 1 -/
theorem C_ge : ∀ {n k : Nat}, 1 ≤ k → k ≤ n → n + 1 ≤ C n k + k
  | n, 1, _, _ => by rw [C_one]; omega
  | 0, k + 2, _, h => by omega
  | n + 1, k + 2, _, h => by
    have e0 : C (n + 1) (k + 2) = C n (k + 1) + C n (k + 2) := rfl
    rw [e0]
    by_cases e : n + 1 = k + 2
    · have : C n (k + 1) = 1 := by
        have : n = k + 1 := by omega
        subst this; exact C_self _
      omega
    · have h1 := C_ge (n := n) (k := k + 2) (by omega) (by omega)
      have h2 := C_pos (n := n) (k := k + 1) (by omega)
      omega
theorem C_smono {n m k : Nat} (hk : 1 ≤ k) (h : n < m) (hm : k ≤ m) : C n k < C m k := by
  obtain ⟨k, rfl⟩ : ∃ j, k = j + 1 := ⟨k - 1, by omega⟩
  obtain ⟨m, rfl⟩ : ∃ j, m = j + 1 := ⟨m - 1, by omega⟩
  have h1 : C n (k + 1) ≤ C m (k + 1) := C_mono (by omega)
  have h2 := C_pos (n := m) (k := k) (by omega)
  rw [C_succ]; omega
/-- from C n k ≤ C m k ... -/
theorem C_inj {n m k : Nat} (hk : 1 ≤ k) (hm : k ≤ m + 1) (h : C n k < C (m + 1) k) : n ≤ m := by
  by_cases e : n ≤ m
  · exact e
  · have := C_mono (k := k) (show m + 1 ≤ n by omega)
    omega
/-- size bound -/
theorem C_pow : ∀ n k : Nat, C n k ≤ (n + 1) ^ k
  | n, 0 => by rw [C_zero]; exact Nat.le_refl _
  | 0, k + 1 => by simp [C]
  | n + 1, k + 1 => by
    rw [C_succ]
    have h1 := C_pow n k
    have h2 := C_pow n (k + 1)
    have h3 : (n + 1) ^ k ≤ (n + 1 + 1) ^ k := Nat.pow_le_pow_left (by omega) k
    have h4 : (n + 1) ^ (k + 1) = (n + 1) ^ k * (n + 1) := Nat.pow_succ ..
    have h5 : (n + 1 + 1) ^ (k + 1) = (n + 1 + 1) ^ k * (n + 1 + 1) := Nat.pow_succ ..
    rw [h5]
    have h6 : (n + 1) ^ k * (n + 1) ≤ (n + 1 + 1) ^ k * (n + 1) := Nat.mul_le_mul_right _ h3
    have h7 : (n + 1 + 1) ^ k * (n + 1 + 1) = (n + 1 + 1) ^ k * (n + 1) + (n + 1 + 1) ^ k := by rw [Nat.mul_add, Nat.mul_one]
    omega

/-- a quick one, for reckoning -/
def Cq (n k : Nat) : Nat := if n < k then 0 else (List.range k).foldl (fun f t => f * (n - t) / (t + 1)) 1
theorem Cq_fold (n : Nat) : ∀ k, (List.range k).foldl (fun f t => f * (n - t) / (t + 1)) 1 = C n k
  | 0 => (C_zero n).symm
  | k + 1 => by
    rw [List.range_succ, List.foldl_append, Cq_fold n k]
    exact C_next n k
theorem Cq_eq (n k : Nat) : Cq n k = C n k := by
  unfold Cq
  split
  · rename_i h; exact (C_lt h).symm
  · exact Cq_fold n k

/-! ### the greatest number of the set of a number -/
def IsTop (k n m : Nat) : Prop := C m k ≤ n ∧ n < C (m + 1) k
theorem IsTop.uniq {k n m m' : Nat} (hk : 1 ≤ k) (h : IsTop k n m) (h' : IsTop k n m') : m = m' := by
  have key : ∀ {a b : Nat}, IsTop k n a → IsTop k n b → a ≤ b := fun {a b} ha hb => by
    by_cases e : a ≤ b
    · exact e
    · have := C_mono (k := k) (show b + 1 ≤ a by omega)
      have h1 := ha.1
      have h2 := hb.2
      omega
  have a1 := key h h'
  have a2 := key h' h
  omega
/-- looked up from m on -/
def topUp (k n : Nat) : Nat → Nat → Nat
  | 0, m => m
  | f + 1, m => if Cq (m + 1) k ≤ n then topUp k n f (m + 1) else m
def top (k n : Nat) : Nat := topUp k n (n + 1) (k - 1)
theorem topUp_ok {k n : Nat} (hk : 1 ≤ k) : ∀ (f m : Nat), C m k ≤ n → n + k ≤ m + f → k ≤ m + 1 → IsTop k n (topUp k n f m)
  | 0, m, h, hf, hm => by
    refine ⟨h, ?_⟩
    have := C_ge (n := m + 1) hk (by omega)
    show n < C (m + 1) k
    omega
  | f + 1, m, h, hf, hm => by
    unfold topUp
    rw [Cq_eq]
    split
    · rename_i c
      exact topUp_ok hk f (m + 1) c (by omega) (by omega)
    · rename_i c
      exact ⟨h, by omega⟩
theorem top_ok {k : Nat} (hk : 1 ≤ k) (n : Nat) : IsTop k n (top k n) := by
  unfold top
  refine topUp_ok hk _ _ ?_ (by omega) (by omega)
  rw [C_lt (by omega)]; omega
theorem top_is {k n m : Nat} (hk : 1 ≤ k) (h : IsTop k n m) : top k n = m := (top_ok hk n).uniq hk h
theorem top_ge {k : Nat} (hk : 1 ≤ k) (n : Nat) : k ≤ top k n + 1 := by
  have h := (top_ok hk n).2
  by_cases e : k ≤ top k n + 1
  · exact e
  · rw [C_lt (by omega)] at h; omega
theorem top_le {k : Nat} (hk : 1 ≤ k) (n : Nat) : top k n + 1 ≤ n + k := by
  by_cases e : k ≤ top k n
  · have h := (top_ok hk n).1
    have := C_ge hk e
    omega
  · omega
theorem top_rest {k : Nat} (n : Nat) : n - C (top (k + 1) n) (k + 1) < C (top (k + 1) n) k := by
  have h := top_ok (k := k + 1) (by omega) n
  have h1 := h.1
  have h2 := h.2
  rw [C_succ] at h2
  omega
theorem top_lt {k n x : Nat} (hk : 1 ≤ k) (h : n < C x k) : top k n < x := by
  have h1 := (top_ok hk n).1
  by_cases e : top k n < x
  · exact e
  · have := C_mono (k := k) (show x ≤ top k n by omega)
    omega

/-! ### sets by numbers -/
def unrank : Nat → Nat → List Nat
  | 0, _ => []
  | k + 1, n => top (k + 1) n :: unrank k (n - C (top (k + 1) n) (k + 1))
def rank : List Nat → Nat
  | [] => 0
  | m :: r => C m (r.length + 1) + rank r
/-- falling -/
def Falls : List Nat → Prop
  | [] => True
  | [_] => True
  | a :: b :: r => b < a ∧ Falls (b :: r)
theorem Falls.tail {a : Nat} {r : List Nat} (h : Falls (a :: r)) : Falls r := by
  cases r with
  | nil => trivial
  | cons b r => exact h.2
theorem unrank_len : ∀ k n : Nat, (unrank k n).length = k
  | 0, _ => rfl
  | k + 1, n => by
    show (unrank k _).length + 1 = k + 1
    rw [unrank_len k]
theorem rank_unrank : ∀ (k n : Nat), (k = 0 → n = 0) → rank (unrank k n) = n
  | 0, n, h => (h rfl).symm
  | k + 1, n, _ => by
    have h1 := (top_ok (k := k + 1) (by omega) n).1
    have h2 := top_rest (k := k) n
    show C (top (k + 1) n) ((unrank k (n - C (top (k + 1) n) (k + 1))).length + 1) + rank (unrank k (n - C (top (k + 1) n) (k + 1))) = n
    rw [unrank_len, rank_unrank k _ ?_]
    · omega
    · intro e
      subst e
      rw [C_zero] at h2
      omega
theorem unrank_falls : ∀ (k n : Nat), (k = 0 → n = 0) → Falls (unrank k n)
  | 0, _, _ => trivial
  | 1, n, _ => trivial
  | k + 2, n, _ => by
    have h2 := top_rest (k := k + 1) n
    refine ⟨top_lt (by omega) h2, ?_⟩
    exact unrank_falls (k + 1) _ (by omega)
theorem rank_lt {m : Nat} : ∀ {r : List Nat}, Falls (m :: r) → rank r < C m r.length
  | [], _ => by show 0 < C m 0; rw [C_zero]; omega
  | a :: r, h => by
    have h1 := rank_lt h.2
    have h2 : C (a + 1) (r.length + 1) ≤ C m (r.length + 1) := C_mono h.1
    rw [C_succ] at h2
    show C a (r.length + 1) + rank r < C m (r.length + 1)
    omega
theorem unrank_rank : ∀ {s : List Nat}, Falls s → unrank s.length (rank s) = s
  | [], _ => rfl
  | m :: r, h => by
    have h1 := rank_lt h
    have ht : top (r.length + 1) (C m (r.length + 1) + rank r) = m := top_is (by omega) ⟨by omega, by rw [C_succ]; omega⟩
    show top (r.length + 1) (C m (r.length + 1) + rank r) :: unrank r.length (C m (r.length + 1) + rank r - C (top (r.length + 1) (C m (r.length + 1) + rank r)) (r.length + 1)) = m :: r
    rw [ht, Nat.add_sub_cancel_left, unrank_rank h.tail]
/-- the order of sets of a size is that of their numbers -/
def lexLt : List Nat → List Nat → Prop
  | a :: r, b :: t => a < b ∨ (a = b ∧ lexLt r t)
  | _, _ => False
theorem rank_lex : ∀ {s t : List Nat}, s.length = t.length → Falls s → Falls t → rank s < rank t → lexLt s t
  | [], [], _, _, _, h => absurd h (Nat.lt_irrefl _)
  | [], _ :: _, e, _, _, _ => by simp at e
  | _ :: _, [], e, _, _, _ => by simp at e
  | a :: r, b :: t, e, hs, ht, h => by
    have el : r.length = t.length := by simpa using e
    have h1 := rank_lt hs
    have h2 := rank_lt ht
    have h' : C a (r.length + 1) + rank r < C b (t.length + 1) + rank t := h
    rw [el] at h' h1
    by_cases c : a < b
    · exact .inl c
    · by_cases c2 : a = b
      · subst c2
        exact .inr ⟨rfl, rank_lex el hs.tail ht.tail (by omega)⟩
      · exfalso
        have h3 : C (b + 1) (t.length + 1) ≤ C a (t.length + 1) := C_mono (by omega)
        rw [C_succ] at h3
        omega
theorem unrank_lex {k n m : Nat} (hk : 1 ≤ k) (h : n < m) : lexLt (unrank k n) (unrank k m) :=
  rank_lex (by rw [unrank_len, unrank_len]) (unrank_falls k n (by omega)) (unrank_falls k m (by omega)) (by rw [rank_unrank k n (by omega), rank_unrank k m (by omega)]; exact h)
theorem unrank_zero_top {k : Nat} (hk : 1 ≤ k) : top k 0 + 1 = k := by
  have h1 := top_ge hk 0
  have h2 := top_le hk 0
  omega
/-- each number at its least -/
theorem unrank_ge : ∀ (k n i m : Nat), (unrank k n)[i]? = some m → k ≤ m + i + 1
  | 0, _, i, m, h => by simp [unrank] at h
  | k + 1, n, 0, m, h => by
    have e : top (k + 1) n = m := by simpa [unrank] using h
    have := top_ge (k := k + 1) (by omega) n
    omega
  | k + 1, n, i + 1, m, h => by
    have e : (unrank k (n - C (top (k + 1) n) (k + 1)))[i]? = some m := by simpa [unrank] using h
    have := unrank_ge k _ i m e
    omega
theorem unrank_le : ∀ (k n i m : Nat), (unrank k n)[i]? = some m → m + 1 ≤ n + k
  | 0, _, i, m, h => by simp [unrank] at h
  | k + 1, n, 0, m, h => by
    have e : top (k + 1) n = m := by simpa [unrank] using h
    have := top_le (k := k + 1) (by omega) n
    omega
  | k + 1, n, i + 1, m, h => by
    have e : (unrank k (n - C (top (k + 1) n) (k + 1)))[i]? = some m := by simpa [unrank] using h
    have := unrank_le k _ i m e
    omega

/-! ### under and over -/
/-- the count of a set's numbers, by one fewer -/
def undS : List Nat → Nat
  | [] => 0
  | m :: r => (if r.length + 1 ≤ m then C m r.length else 0) + undS r
def ovrS : List Nat → Nat
  | [] => 0
  | m :: r => C m (r.length + 2) + ovrS r
def und (k n : Nat) : Nat := undS (unrank k n)
def ovr (k n : Nat) : Nat := ovrS (unrank k n)
theorem und_succ (k n : Nat) : und (k + 1) n = (if k + 1 ≤ top (k + 1) n then C (top (k + 1) n) k else 0) + und k (n - C (top (k + 1) n) (k + 1)) := by
  show (if (unrank k (n - C (top (k + 1) n) (k + 1))).length + 1 ≤ top (k + 1) n then C (top (k + 1) n) (unrank k (n - C (top (k + 1) n) (k + 1))).length else 0) + und k (n - C (top (k + 1) n) (k + 1)) = _
  rw [unrank_len]
theorem ovr_succ (k n : Nat) : ovr (k + 1) n = C (top (k + 1) n) (k + 2) + ovr k (n - C (top (k + 1) n) (k + 1)) := by
  show C (top (k + 1) n) ((unrank k (n - C (top (k + 1) n) (k + 1))).length + 2) + ovr k (n - C (top (k + 1) n) (k + 1)) = _
  rw [unrank_len]
theorem und_zero (n : Nat) : und 0 n = 0 := rfl
theorem ovr_zero (n : Nat) : ovr 0 n = 0 := rfl
/-- n < C p k: at most C p (k - 1) -/
theorem und_le : ∀ (k p n : Nat), n < C p (k + 1) → und (k + 1) n ≤ C p k
  | 0, p, n, h => by
    rw [und_succ, und_zero, C_zero]
    split
    · rw [C_zero]; omega
    · omega
  | k + 1, p, n, h => by
    rw [und_succ]
    have ht := top_lt (k := k + 1 + 1) (by omega) h
    have h2 := top_rest (k := k + 1) n
    have ih := und_le k (top (k + 1 + 1) n) _ h2
    have h3 : C (top (k + 1 + 1) n + 1) (k + 1) ≤ C p (k + 1) := C_mono ht
    rw [C_succ] at h3
    split <;> omega
theorem ovr0 : ∀ k : Nat, ovr k 0 = 0
  | 0 => rfl
  | k + 1 => by
    have t0 : top (k + 1) 0 = k := by have := unrank_zero_top (k := k + 1) (by omega); omega
    rw [ovr_succ, t0, C_lt (show k < k + 2 by omega), C_lt (show k < k + 1 by omega)]
    have := ovr0 k
    have e : 0 - 0 = 0 := rfl
    rw [e, this]
/-- n < C m k: over stays below -/
theorem ovr_lt : ∀ (k m n : Nat), k + 1 ≤ m → n < C m k → ovr k n < C m (k + 1)
  | 0, m, n, hm, h => by
    rw [ovr_zero, C_one]; omega
  | k + 1, m, n, hm, h => by
    rw [ovr_succ]
    have ht := top_lt (k := k + 1) (by omega) h
    have h2 := top_rest (k := k) n
    have hg := top_ge (k := k + 1) (by omega) n
    have h3 : C (top (k + 1) n + 1) (k + 1 + 1) ≤ C m (k + 1 + 1) := C_mono ht
    rw [C_succ] at h3
    by_cases e : k + 1 ≤ top (k + 1) n
    · have ih := ovr_lt k (top (k + 1) n) _ e h2
      show C (top (k + 1) n) (k + 2) + _ < C m (k + 1 + 1)
      have e2 : C (top (k + 1) n) (k + 2) = C (top (k + 1) n) (k + 1 + 1) := rfl
      omega
    · -- the top is at its least: nothing is left
      have et : top (k + 1) n = k := by omega
      rw [et] at h2 ⊢
      rw [C_self] at h2
      have hz : n - C k (k + 1) = 0 := by omega
      rw [hz, C_lt (show k < k + 2 by omega)]
      have hp : 0 < C m (k + 1 + 1) := C_pos (by omega)
      have hz2 := ovr0 k
      omega

theorem und0 : ∀ k : Nat, und k 0 = 0
  | 0 => rfl
  | k + 1 => by
    have t0 : top (k + 1) 0 = k := by have := unrank_zero_top (k := k + 1) (by omega); omega
    rw [und_succ, t0, if_neg (by omega)]
    have := und0 k
    have e : 0 - C k (k + 1) = 0 := Nat.zero_sub _
    rw [e, this]
/-- each of the two by the other -/
theorem gal : ∀ (k n M : Nat), (k = 0 → n = 0) → (und (k + 1) M ≤ n ↔ M ≤ ovr k n)
  | 0, n, M, h => by
    have hn := h rfl
    subst hn
    rw [ovr_zero, und_succ, und_zero, C_zero]
    have ht : top (0 + 1) M = M := top_is (by omega) ⟨by rw [C_one]; omega, by rw [C_one]; omega⟩
    rw [ht]
    split <;> omega
  | k + 1, n, M, _ => by
    have m1 := top_ok (k := k + 1) (by omega) n
    have mr := top_rest (k := k) n
    have mg := top_ge (k := k + 1) (by omega) n
    have p1 := top_ok (k := k + 2) (by omega) M
    have pr := top_rest (k := k + 1) M
    have pg := top_ge (k := k + 2) (by omega) M
    have eU := und_succ (k + 1) M
    have eO := ovr_succ k n
    by_cases hp1 : top (k + 2) M = k + 1
    · -- nothing there
      have h0 := p1.2
      rw [hp1, C_self] at h0
      have hM : M = 0 := by omega
      subst hM
      rw [und0]
      omega
    have hp : k + 2 ≤ top (k + 2) M := by omega
    have e1 : k + 1 + 1 = k + 2 := rfl
    rw [e1] at eU pr ⊢
    rw [if_pos hp] at eU
    obtain ⟨m, hm⟩ : ∃ m, m = top (k + 1) n := ⟨_, rfl⟩
    obtain ⟨p, hpp⟩ : ∃ p, p = top (k + 2) M := ⟨_, rfl⟩
    rw [← hm] at m1 mr mg eO
    rw [← hpp] at p1 pr pg eU hp
    obtain ⟨n', hn'⟩ : ∃ n', n' = n - C m (k + 1) := ⟨_, rfl⟩
    obtain ⟨M', hM'⟩ : ∃ M', M' = M - C p (k + 2) := ⟨_, rfl⟩
    rw [← hn'] at mr eO
    rw [← hM'] at pr eU
    have n1 := m1.1
    have n2 := m1.2
    have q1 := p1.1
    have q2 := p1.2
    by_cases c1 : p < m
    · have h1 : C (p + 1) (k + 2) ≤ C m (k + 2) := C_mono c1
      have h2 : C (p + 1) (k + 1) ≤ C m (k + 1) := C_mono c1
      have h3 := und_le k p M' pr
      rw [C_succ] at h2
      omega
    · by_cases c2 : p = m
      · subst c2
        have ih := gal k n' M' (by intro e; subst e; rw [C_zero] at mr; omega)
        omega
      · have h1 : C (m + 1) (k + 2) ≤ C p (k + 2) := C_mono (by omega)
        have h2 : C (m + 1) (k + 1) ≤ C p (k + 1) := C_mono (by omega)
        have h3 := C_pos hp
        have e2 : C (m + 1) (k + 2) = C m (k + 1) + C m (k + 2) := rfl
        by_cases c3 : k + 1 ≤ m
        · have h4 := ovr_lt k m n' c3 mr
          omega
        · have em : m = k := by omega
          subst em
          rw [C_self] at mr
          have hz : n' = 0 := by omega
          rw [hz, ovr0, C_lt (show m < m + 2 by omega)] at eO
          omega
theorem ovr_mono {k n n' : Nat} (hk : 1 ≤ k) (h : n ≤ n') : ovr k n ≤ ovr k n' :=
  (gal k n' (ovr k n) (by omega)).mp (Nat.le_trans ((gal k n (ovr k n) (by omega)).mpr (Nat.le_refl _)) h)
theorem und_ovr {k n : Nat} (hk : 1 ≤ k) : und (k + 1) (ovr k n) ≤ n ∧ n < und (k + 1) (ovr k n + 1) := by
  have h1 := (gal k n (ovr k n) (by omega)).mpr (Nat.le_refl _)
  have h2 := gal k n (ovr k n + 1) (by omega)
  refine ⟨h1, ?_⟩
  by_cases e : und (k + 1) (ovr k n + 1) ≤ n
  · have := h2.mp e
    omega
  · omega
/-- all sets of so many things -/
theorem ovr_full {k x : Nat} (hk : k ≤ x + 1) (h1 : 1 ≤ k) : ovr k (C x k) = C x (k + 1) := by
  obtain ⟨j, rfl⟩ : ∃ j, k = j + 1 := ⟨k - 1, by omega⟩
  have ht : top (j + 1) (C x (j + 1)) = x := top_is (by omega) ⟨Nat.le_refl _, by
    rw [C_succ]
    have := C_pos (n := x) (k := j) (by omega)
    omega⟩
  rw [ovr_succ, ht, Nat.sub_self, ovr0]
  rfl
theorem ovr_bound {k x n : Nat} (hk : k ≤ x + 1) (h1 : 1 ≤ k) (h : n ≤ C x k) : ovr k n ≤ C x (k + 1) :=
  Nat.le_trans (ovr_mono h1 h) (Nat.le_of_eq (ovr_full hk h1))

/-! ### sets within a set -/
theorem Falls.erase : ∀ {s : List Nat} (j : Nat), Falls s → Falls (s.eraseIdx j)
  | [], _, _ => trivial
  | [a], 0, _ => trivial
  | [a], j + 1, _ => trivial
  | a :: b :: r, 0, h => h.2
  | [a, b], 1, _ => trivial
  | a :: b :: c :: r, 1, h => ⟨Nat.lt_trans h.2.1 h.1, h.2.2⟩
  | [a, b], j + 2, h => h
  | a :: b :: c :: r, j + 2, h => ⟨h.1, Falls.erase (j + 1) h.2⟩
theorem falls_dropLast : ∀ {s : List Nat}, Falls s → Falls s.dropLast
  | [], _ => trivial
  | [a], _ => trivial
  | [a, b], _ => trivial
  | a :: b :: c :: r, h => ⟨h.1, falls_dropLast (s := b :: c :: r) h.2⟩
theorem dropLast_len : ∀ (s : List Nat), s.dropLast.length = s.length - 1 := fun s => List.length_dropLast
theorem rank_erase : ∀ {s : List Nat} (j : Nat), Falls s → j < s.length → rank (s.eraseIdx j) ≤ rank s.dropLast
  | [], j, _, h => by simp at h
  | [a], 0, _, _ => Nat.le_refl _
  | [a], j + 1, _, h => by simp at h
  | a :: b :: r, 0, h, _ => by
    have h1 := rank_lt h
    show rank (b :: r) ≤ C a ((b :: r).dropLast.length + 1) + rank (b :: r).dropLast
    rw [dropLast_len]
    have e : (b :: r).length - 1 + 1 = (b :: r).length := by simp
    rw [e]
    omega
  | a :: b :: r, j + 1, h, hj => by
    have hj' : j < (b :: r).length := by simpa using hj
    have ih := rank_erase (s := b :: r) j h.tail hj'
    show C a (((b :: r).eraseIdx j).length + 1) + rank ((b :: r).eraseIdx j) ≤ C a ((b :: r).dropLast.length + 1) + rank (b :: r).dropLast
    rw [dropLast_len, List.length_eraseIdx_of_lt hj']
    omega
theorem ovrS_dropLast : ∀ {s : List Nat}, ovrS s.dropLast ≤ rank s
  | [] => Nat.le_refl _
  | [a] => Nat.zero_le _
  | a :: b :: r => by
    have ih := ovrS_dropLast (s := b :: r)
    show C a ((b :: r).dropLast.length + 2) + ovrS (b :: r).dropLast ≤ C a ((b :: r).length + 1) + rank (b :: r)
    rw [dropLast_len]
    have e : (b :: r).length - 1 + 2 = (b :: r).length + 1 := by simp
    rw [e]
    omega
/-- the sets within a set of the first so many -/
theorem within {s : List Nat} {k n N j : Nat} (hs : Falls s) (hl : s.length = k + 1) (hk : 1 ≤ k) (hr : rank s < N) (hN : N ≤ ovr k n) (hj : j < s.length) : rank (s.eraseIdx j) < n := by
  have h1 := rank_erase j hs hj
  have h2 := ovrS_dropLast (s := s)
  have hd : s.dropLast.length = k := by rw [dropLast_len]; omega
  have h3 : unrank k (rank s.dropLast) = s.dropLast := by
    have := unrank_rank (falls_dropLast hs)
    rw [hd] at this
    exact this
  have h4 : ovr k (rank s.dropLast) = ovrS s.dropLast := by unfold ovr; rw [h3]
  by_cases e : n ≤ rank s.dropLast
  · have := ovr_mono hk e
    omega
  · omega
/-! ### the loops' ways -/
def ranks : List Nat → List Nat
  | [] => []
  | m :: r => C m (r.length + 1) :: ranks r
theorem ranks_len : ∀ s : List Nat, (ranks s).length = s.length
  | [] => rfl
  | m :: r => by show (ranks r).length + 1 = r.length + 1; rw [ranks_len r]
theorem ranks_sum : ∀ s : List Nat, (ranks s).sum = rank s
  | [] => rfl
  | m :: r => by show (C m (r.length + 1) :: ranks r).sum = _; rw [List.sum_cons, ranks_sum r]; rfl
theorem ranks_get : ∀ {s : List Nat} {i m : Nat}, s[i]? = some m → (ranks s)[i]? = some (C m (s.length - i))
  | [], i, m, h => by simp at h
  | a :: r, 0, m, h => by
    have e : a = m := by simpa using h
    subst e
    rfl
  | a :: r, i + 1, m, h => by
    have e : r[i]? = some m := by simpa using h
    have := ranks_get e
    show (ranks r)[i]? = some (C m (r.length + 1 - (i + 1)))
    rw [this]
    congr 2
    omega
/-- d = 0: one fewer; d = 2: one more -/
def mov (d : Nat) : List Nat → Nat
  | [] => 0
  | m :: r => (if r.length + 1 ≤ m then C m (r.length + d) else 0) + mov d r
theorem mov_und : ∀ s : List Nat, mov 0 s = undS s
  | [] => rfl
  | m :: r => by show _ + mov 0 r = _ + undS r; rw [mov_und r]; rfl
theorem mov_ovr : ∀ s : List Nat, mov 2 s = ovrS s
  | [] => rfl
  | m :: r => by
    show (if r.length + 1 ≤ m then C m (r.length + 2) else 0) + mov 2 r = C m (r.length + 2) + ovrS r
    rw [mov_ovr r]
    split
    · rfl
    · rename_i h
      rw [C_lt (show m < r.length + 2 by omega)]
theorem mov_drop {d : Nat} : ∀ {s : List Nat} {i m : Nat}, s[i]? = some m → mov d (s.drop i) = (if s.length - i ≤ m then C m (s.length - i - 1 + d) else 0) + mov d (s.drop (i + 1))
  | [], i, m, h => by simp at h
  | a :: r, 0, m, h => by
    have e : a = m := by simpa using h
    subst e
    show (if r.length + 1 ≤ a then C a (r.length + d) else 0) + mov d r = (if r.length + 1 - 0 ≤ a then C a (r.length + 1 - 0 - 1 + d) else 0) + mov d r
    rfl
  | a :: r, i + 1, m, h => by
    have e : r[i]? = some m := by simpa using h
    have := mov_drop (d := d) e
    show mov d (r.drop i) = (if r.length + 1 - (i + 1) ≤ m then C m (r.length + 1 - (i + 1) - 1 + d) else 0) + mov d (r.drop (i + 1))
    rw [this]
    have e2 : r.length + 1 - (i + 1) = r.length - i := by omega
    rw [e2]
/-! ### how long the numbers are -/
theorem C_bits {n k b : Nat} (h : n < 2 ^ b) : C n k ≤ 2 ^ (b * k) := by
  rw [Nat.pow_mul]
  exact Nat.le_trans (C_pow n k) (Nat.pow_le_pow_left h k)
end Mth

set_option Elab.async false
set_option linter.all false
set_option maxRecDepth 100000
set_option maxHeartbeats 4000000
/-! what the program's defs do: promises, readings, and that the readings keep the promises -/
namespace Sx
open PySem PySem.Spec PyProof.Rows L2 Evl Mth
abbrev vi (n : Nat) : V := .int (n : Int)
/-- below 2 ^ b; never opened -/
def Sm (b n : Nat) : Prop := n < 2 ^ b
theorem Sm.up {a b n : Nat} (h : Sm a n) (l : a ≤ b) : Sm b n := Nat.lt_of_lt_of_le h (Nat.pow_le_pow_right (by omega) l)
theorem Sm.le {b m n : Nat} (h : Sm b n) (l : m ≤ n) : Sm b m := Nat.lt_of_le_of_lt l h
theorem Sm.add {a m n : Nat} (h : Sm a m) (h' : Sm a n) : Sm (a + 1) (m + n) := by
  unfold Sm at *
  rw [Nat.pow_succ]
  omega
theorem Sm.mul {a b m n : Nat} (h : Sm a m) (h' : Sm b n) : Sm (a + b) (m * n) := by
  unfold Sm at *
  rw [Nat.pow_add]
  exact Nat.mul_lt_mul'' h h'
theorem Sm.num {b n : Nat} (h : n ≤ b) : Sm b n := Nat.lt_of_le_of_lt h Nat.lt_two_pow_self
theorem Sm.C {b n k : Nat} (h : Sm b n) : Sm (b * k + 1) (C n k) := by
  unfold Sm at *
  rw [Nat.pow_succ]
  have h1 := C_bits (k := k) h
  have h2 : 0 < 2 ^ (b * k) := Nat.pow_pos (by omega)
  omega
theorem mul_sm {a b m n : Nat} (h : Sm a m) (h' : Sm b n) (l : a + b < 100000000) : CMulX (m : Int) (n : Int) := by
  refine mulX (a := a) (b := b) ?_ ?_ l
  · exact h.up (Nat.le_succ _)
  · exact h'.up (Nat.le_succ _)
variable {K : PySem.W.Frag} {w : World}
theorem RetV.at {v : V} {H H1 : Hp} {Q : VK} (q : RetV v H Q) (e : Ex H H1) : Q v H1 := q H1 e
theorem TyS.mono {K : PySem.W.Frag} {H H1 : Hp} {x : V} {t : Value} (h : TyS K H x t) (e : Ex H H1) : TyS K H1 x t := fun H2 e2 => h H2 (e.trans e2)
/-! ### is_whole, is_count -/
def isW (T : String) : Option Bool := match kitB T "int", kitB T "bool" with
  | some a, some b => some (a && !b)
  | _, _ => none
def sp_is_whole (K : PySem.W.Frag) : Sp := fun vs H Q _ => ∃ (v : V) (T : String) (b : Bool), vs = [v] ∧ TyS K H v (.type T) ∧ isW T = some b ∧ RetV (.bl b) H Q
theorem len_is_whole {vs : List V} {H : Hp} {Q : VK} {E : XK} (h : sp_is_whole K vs H Q E) : vs.length = 1 := by obtain ⟨v, T, b, rfl, _⟩ := h; rfl
/-- is_whole: 0 thing -/
def t_is_whole (K : PySem.W.Frag) (w : World) : TS := tRet (tAndV (tCB (rIsi K) (tCons (tVar 0) (tCons (tC (.ty "int")) tNil))) (tNotV (tCB (rIsi K) (tCons (tVar 0) (tCons (tC (.ty "bool")) tNil)))))
theorem pure_is_whole {vs : List V} {H : Hp} {Q : VK} {E : XK} (h : sp_is_whole K vs H Q E) : t_is_whole K w { nx := fun _ H' => Q .non H', rt := Q } (start ["thing"] vs) H := by
  obtain ⟨v, T, b, rfl, ty, hb, q⟩ := h
  unfold isW at hb
  split at hb
  · rename_i a c h1 h2
    cases hb
    exact s_ret (ev_andV (ev_isiT (ev_var rfl) ty h1) fun _ => ev_notV (ev_isiT (ev_var rfl) ty h2)) fun H1 e => q H1 e
  · cases hb
theorem v_is_whole {H : Hp} {v : V} {T : String} {b : Bool} (ty : TyS K H v (.type T)) (hb : isW T = some b) : SpV (sp_is_whole K) [v] H (.bl b) := fun H1 e Q q E => ⟨v, T, b, rfl, ty.mono e, hb, q⟩
theorem isW_int : isW "int" = some true := by decide +kernel
theorem v_whole_int {H : Hp} {n : Int} : SpV (sp_is_whole K) [.int n] H (.bl true) := v_is_whole ty_int isW_int
def sp_is_count (K : PySem.W.Frag) : Sp := fun vs H Q _ => (∃ n : Int, vs = [.int n] ∧ RetV (.bl (decide (0 ≤ n))) H Q) ∨ ∃ (v : V) (T : String), vs = [v] ∧ TyS K H v (.type T) ∧ isW T = some false ∧ RetV (.bl false) H Q
theorem len_is_count {vs : List V} {H : Hp} {Q : VK} {E : XK} (h : sp_is_count K vs H Q E) : vs.length = 1 := by
  rcases h with ⟨n, rfl, _⟩ | ⟨v, T, rfl, _⟩ <;> rfl
/-- is_count: 0 thing -/
def t_is_count (K : PySem.W.Frag) (w : World) : TS := tRet (tAndV (tCall (sp_is_whole K) [] E0 (tCons (tVar 0) tNil)) (tOp oGe (tVar 0) (tC (.int 0))))
theorem pure_is_count {vs : List V} {H : Hp} {Q : VK} {E : XK} (h : sp_is_count K vs H Q E) : t_is_count K w { nx := fun _ H' => Q .non H', rt := Q } (start ["thing"] vs) H := by
  rcases h with ⟨n, rfl, q⟩ | ⟨v, T, rfl, ty, hb, q⟩
  · exact s_ret (ev_is (ev_andV (ev_call (ea_cons (ev_var rfl) ea_nil) v_whole_int) fun _ => ev_ge (ev_var rfl) ev_c) (by rw [Bool.true_and])) fun H1 e => q H1 e
  · refine s_ret (ev_is (ev_andV (b := false) (ev_call (ea_cons (ev_var rfl) ea_nil) (v_is_whole ty hb)) fun z => ?_) (by rw [Bool.false_and])) fun H1 e => q H1 e
    cases z
theorem v_count_int {H : Hp} {n : Int} : SpV (sp_is_count K) [.int n] H (.bl (decide (0 ≤ n))) := fun H1 e Q q E => .inl ⟨n, rfl, q⟩
/-! ### picks -/
def sp_picks (K : PySem.W.Frag) : Sp := fun vs H Q _ => ∃ m k : Nat, vs = [vi m, vi k] ∧ k ≤ 21 ∧ Sm 2000000 m ∧ RetV (vi (C m k)) H Q
theorem len_picks {vs : List V} {H : Hp} {Q : VK} {E : XK} (h : sp_picks K vs H Q E) : vs.length = 2 := by obtain ⟨m, k, rfl, _⟩ := h; rfl
/-- picks: 0 many, 1 size, 2 found, 3 turn -/
def t_picks (K : PySem.W.Frag) (w : World) : TS := tSeq (tIfS (tTest (tOp oLt (tVar 0) (tVar 1))) (tRet (tC (.int 0))) tNext) (tSeq (tAsg (tC (.int 1)) (gName 2)) (tSeq (tFor (iRng1 (tCons (tVar 1) tNil)) (gName 3) (tAsg (tOp oDiv (tOp oMul (tVar 2) (tOp oSub (tVar 0) (tVar 3))) (tOp oAdd (tVar 3) (tC (.int 1)))) (gName 2))) (tRet (tVar 2))))
theorem C_div (m t : Nat) (h : t ≤ m) : (C m t : Int) * ((m : Int) - (t : Int)) / ((t : Int) + 1) = ((C m (t + 1) : Nat) : Int) := by
  have e1 : ((m : Int) - (t : Int)) = ((m - t : Nat) : Int) := by omega
  have e2 : ((t : Int) + 1) = ((t + 1 : Nat) : Int) := by omega
  rw [e1, e2, ← Int.natCast_mul, ← Int.natCast_ediv, C_next]
theorem pure_picks {vs : List V} {H : Hp} {Q : VK} {E : XK} (h : sp_picks K vs H Q E) : t_picks K w { nx := fun _ H' => Q .non H', rt := Q } (start ["many", "size", "found", "turn"] vs) H := by
  obtain ⟨m, k, rfl, hk, hm, q⟩ := h
  show t_picks K w _ [some (vi m), some (vi k), none, none] H
  refine q_when (et_test (ev_lt (ev_var rfl) (ev_var rfl))) (fun hb H1 e1 => ?_) fun hb H1 e1 => ?_
  · refine s_ret ev_c fun H2 e2 => ?_
    have h1 := of_decide_eq_true hb
    have e : C m k = 0 := C_lt (by omega)
    have := q H2 (e1.trans e2)
    rw [e] at this
    exact this
  · have h1 := of_decide_eq_false hb
    refine q_asg ev_c fun H2 e2 => ?_
    refine q_forN (ei_rng1 (ev_var rfl) (by omega)) (fun H3 i σ H4 => Ex H3 H4 ∧ ∃ y, σ = [some (vi m), some (vi k), some (vi (C m i)), y]) (fun H3 e3 => ⟨Ex.refl _, none, by rw [C_zero]; rfl⟩) (fun H3 i σ H4 e3 p a o _ h2 => p.1 a o h2)
      (fun H3 i x σ H4 H5 e3 hi p y => ?_) fun H3 σ H4 e3 p => ?_
    · obtain ⟨e4, y0, rfl⟩ := p
      obtain ⟨rfl, rfl⟩ := y
      have hik : i < k := by omega
      have e5 : ((m : Int) - ((i : Nat) : Int)) = ((m - i : Nat) : Int) := by omega
      have hmul : CMulX (C m i : Int) ((m : Int) - (i : Int)) := by
        rw [e5]
        refine mul_sm (a := 2000000 * 20 + 1) (b := 2000000) ((hm.C (k := i)).up (by omega)) (hm.le (by omega)) (by omega)
      refine s_asg (ev_is (ev_div (ev_mul (ev_var rfl) (ev_sub (ev_var rfl) (ev_var rfl)) hmul) (ev_add (ev_var rfl) ev_c) ⟨by omega, by omega⟩) ?_) fun H6 e6 => ⟨e4.trans e6, _, rfl⟩
      rw [C_div m i (by omega)]
    · obtain ⟨e4, y0, rfl⟩ := p
      have ek : ((k : Int)).toNat = k := by omega
      rw [ek]
      exact s_ret (ev_var rfl) fun H5 e5 => q H5 (e1.trans (e2.trans (e3.trans (e4.trans e5))))
theorem v_picks {H : Hp} {m k : Nat} (hk : k ≤ 21) (hm : Sm 2000000 m) : SpV (sp_picks K) [vi m, vi k] H (vi (C m k)) := fun H1 e Q q E => ⟨m, k, rfl, hk, hm, q⟩
/-! ### place_of -/
def sp_place_of (K : PySem.W.Frag) : Sp := fun vs H Q _ => ∃ (p : Addr) (ns : List Nat), vs = [.ref p] ∧ SqL K H p (ns.map vi) ∧ ns.length ≤ 21 ∧ (∀ n ∈ ns, Sm 2000000 n) ∧ RetV (vi (rank ns)) H Q
theorem len_place_of {vs : List V} {H : Hp} {Q : VK} {E : XK} (h : sp_place_of K vs H Q E) : vs.length = 1 := by obtain ⟨p, ns, rfl, _⟩ := h; rfl
/-- place_of: 0 some, 1 at, 2 one -/
def t_place_of (K : PySem.W.Frag) (w : World) : TS := tRet (tCB (rSum K) (tCons (tLc (iEnum K (tCons (tVar 0) tNil)) (gTup K 2 (gCons (gName 1) (gCons (gName 2) gNil))) tYes (tCall (sp_picks K) [] E0 (tCons (tVar 2) (tCons (tOp oSub (tCB (rLenS K) (tCons (tVar 0) tNil)) (tVar 1)) tNil))) [1, 2]) tNil))
theorem vi_at {ns : List Nat} {i : Nat} {x : V} (h : (ns.map vi)[i]? = some x) : ∃ m, ns[i]? = some m ∧ x = vi m := by
  rw [List.getElem?_map] at h
  cases e : ns[i]? with
  | none => rw [e] at h; cases h
  | some m => rw [e] at h; exact ⟨m, rfl, (Option.some.inj h).symm⟩
theorem ranks_map (ns : List Nat) : (List.range ns.length).map (fun i => vi ((ranks ns).getD i 0)) = ((ranks ns).map fun (n : Nat) => (n : Int)).map V.int := by
  refine (list_of_at (by rw [List.length_map, List.length_map, ranks_len]) fun i x h => ?_).symm
  rw [List.getElem?_map, List.getElem?_map] at h
  cases e : (ranks ns)[i]? with
  | none => rw [e] at h; cases h
  | some m =>
    rw [e] at h
    rw [List.getD_eq_getElem?_getD, e]
    exact (Option.some.inj h).symm
theorem sum_cast : ∀ l : List Nat, (l.map fun (n : Nat) => (n : Int)).sum = ((l.sum : Nat) : Int)
  | [] => rfl
  | a :: r => by
    rw [List.map_cons, List.sum_cons, List.sum_cons, sum_cast r]
    omega
theorem pure_place_of {vs : List V} {H : Hp} {Q : VK} {E : XK} (h : sp_place_of K vs H Q E) : t_place_of K w { nx := fun _ H' => Q .non H', rt := Q } (start ["some", "at", "one"] vs) H := by
  obtain ⟨p, ns, rfl, hp, hl, hm, q⟩ := h
  show t_place_of K w _ [some (.ref p), none, none] H
  have hlc := el_lc2 (K := K) (te := tCall (sp_picks K) [] E0 (tCons (tVar 2) (tCons (tOp oSub (tCB (rLenS K) (tCons (tVar 0) tNil)) (tVar 1)) tNil))) (vs := [1, 2]) (j1 := 1) (j2 := 2) (fun i => vi ((ranks ns).getD i 0)) (ei_enum (es_v (σ := [some (.ref p), none, none]) (te := tVar 0) (ev_var rfl) hp)) (by rw [List.length_map]; omega) (fun x y => rfl)
    (fun i x y H1 hi hx hy e => ?_)
  · rw [List.length_map, ranks_map] at hlc
    refine s_ret (ev_is (ev_sum (es_L hlc)) ?_) fun H1 e => q H1 e
    rw [sum_cast, ranks_sum]
  · cases hx
    obtain ⟨m, hm1, rfl⟩ := vi_at hy
    have hi2 := (List.getElem?_eq_some_iff.mp hm1).1
    have ev : ((ranks ns).getD i 0) = C m (ns.length - i) := by rw [List.getD_eq_getElem?_getD, ranks_get hm1]; rfl
    rw [ev]
    refine ev_call (vs := [vi m, vi (ns.length - i)]) (ea_cons (ev_var rfl) (ea_cons (ev_is (ev_sub (ev_lenS (es_v (ev_var rfl) (ex_l e hp))) (ev_var rfl)) ?_) ea_nil)) (v_picks (by omega) (hm m (List.mem_of_getElem? hm1)))
    rw [List.length_map]
    congr 1
    omega
theorem v_place_of {H : Hp} {p : Addr} {ns : List Nat} (hp : SqL K H p (ns.map vi)) (hl : ns.length ≤ 21) (hm : ∀ n ∈ ns, Sm 2000000 n) : SpV (sp_place_of K) [.ref p] H (vi (rank ns)) := fun H1 e Q q E => ⟨p, ns, rfl, ex_l e hp, hl, hm, q⟩
/-! ### first_of -/
def sp_first_of (K : PySem.W.Frag) : Sp := fun vs H Q _ => ∃ k n : Nat, vs = [vi k, vi n] ∧ 1 ≤ k ∧ k ≤ 20 ∧ Sm 1000000 n ∧ RetV (vi (top k n)) H Q
theorem len_first_of {vs : List V} {H : Hp} {Q : VK} {E : XK} (h : sp_first_of K vs H Q E) : vs.length = 2 := by obtain ⟨k, n, rfl, _⟩ := h; rfl
/-- first_of: 0 size, 1 number, 2 low, 3 high, 4 middle -/
def t_first_of (K : PySem.W.Frag) (w : World) : TS := tSeq (tAsg (tOp oSub (tVar 0) (tC (.int 1))) (gName 2)) (tSeq (tAsg (tVar 0) (gName 3)) (tSeq (tWhile (tTest (tOp oLe (tCall (sp_picks K) [] E0 (tCons (tVar 3) (tCons (tVar 0) tNil))) (tVar 1))) (tPar 2 3 (tCons (tVar 3) (tCons (tOp oMul (tC (.int 2)) (tVar 3)) tNil)))) (tSeq (tWhile (tTest (tOp oGt (tOp oSub (tVar 3) (tVar 2)) (tC (.int 1)))) (tSeq (tAsg (tOp oDiv (tOp oAdd (tVar 2) (tVar 3)) (tC (.int 2))) (gName 4)) (tIfS (tTest (tOp oLe (tCall (sp_picks K) [] E0 (tCons (tVar 4) (tCons (tVar 0) tNil))) (tVar 1))) (tAsg (tVar 4) (gName 2)) (tAsg (tVar 4) (gName 3))))) (tRet (tVar 2)))))
theorem sm_hi {k n hi : Nat} (hk : k ≤ 20) (hn : Sm 1000000 n) (h : hi ≤ 2 * (n + k)) : Sm 1000002 hi := by
  have h1 : Sm 1000001 (n + k) := hn.add (Sm.num (by omega))
  exact (h1.add h1).le (by omega)
theorem pure_first_of {vs : List V} {H : Hp} {Q : VK} {E : XK} (h : sp_first_of K vs H Q E) : t_first_of K w { nx := fun _ H' => Q .non H', rt := Q } (start ["size", "number", "low", "high", "middle"] vs) H := by
  obtain ⟨k, n, rfl, hk1, hk, hn, q⟩ := h
  show t_first_of K w _ [some (vi k), some (vi n), none, none, none] H
  refine q_asg (v := vi (k - 1)) (ev_is (ev_sub (ev_var rfl) ev_c) (by congr 1; omega)) fun H1 e1 => ?_
  refine q_asg (ev_var rfl) fun H2 e2 => ?_
  have e12 := e1.trans e2
  refine q_while (fun m σ H3 => Ex H H3 ∧ ∃ lo hi : Nat, σ = [some (vi k), some (vi n), some (vi lo), some (vi hi), none] ∧ k ≤ lo + 1 ∧ lo < hi ∧ C lo k ≤ n ∧ hi ≤ 2 * (n + k) ∧ m = 2 * (n + k) - hi) (2 * (n + k) - k)
    ⟨e12, k - 1, k, rfl, by omega, by omega, by rw [C_lt (by omega)]; omega, by omega, rfl⟩ fun m σ H3 hW => ?_
  obtain ⟨e3, lo, hi, rfl, h1, h2, h3, h4, h5⟩ := hW
  have hs := (sm_hi hk hn h4).up (show 1000002 ≤ 2000000 by omega)
  refine ⟨_, et_test (ev_le (ev_call (vs := [vi hi, vi k]) (ea_cons (ev_var rfl) (ea_cons (ev_var rfl) ea_nil)) (v_picks (by omega) hs)) (ev_var rfl)), fun hb H4 e4 => ?_, fun hb H4 e4 => ?_⟩
  · have hc : C hi k ≤ n := by have := of_decide_eq_true hb; omega
    have hg := C_ge (n := hi) hk1 (by omega)
    refine ⟨fun σ H3 => Ex H H3 ∧ σ = [some (vi k), some (vi n), some (vi hi), some (vi (2 * hi)), none], fun σ2 H5 h => ?_, s_par (v := vi hi) (w := vi (2 * hi)) (ea_cons (ev_var rfl) (ea_cons (ev_is (ev_mul ev_c (ev_var rfl) (mul_sm (a := 2) (b := 2000000) (m := 2) (Sm.num (by omega)) hs (by omega))) ?_) ea_nil)) fun H5 e5 => ⟨e3.trans (e4.trans e5), rfl⟩⟩
    · obtain ⟨e5, rfl⟩ := h
      exact ⟨2 * (n + k) - 2 * hi, by omega, e5, hi, 2 * hi, rfl, by omega, by omega, hc, by omega, rfl⟩
    · rfl
  · have hc : n < C hi k := by have := of_decide_eq_false hb; omega
    refine q_while (fun m σ H5 => Ex H H5 ∧ ∃ (lo hi : Nat) (y : Option V), σ = [some (vi k), some (vi n), some (vi lo), some (vi hi), y] ∧ k ≤ lo + 1 ∧ lo < hi ∧ C lo k ≤ n ∧ n < C hi k ∧ hi ≤ 2 * (n + k) ∧ m = hi - lo) (hi - lo)
      ⟨e3.trans e4, lo, hi, none, rfl, h1, h2, h3, hc, h4, rfl⟩ fun m2 σ H5 hW => ?_
    obtain ⟨e5, lo2, hi2, y, rfl, g1, g2, g3, g4, g5, g6⟩ := hW
    have hs2 := (sm_hi hk hn g5).up (show 1000002 ≤ 2000000 by omega)
    refine ⟨_, et_test (ev_gt (ev_sub (ev_var rfl) (ev_var rfl)) ev_c), fun hb H6 e6 => ?_, fun hb H6 e6 => ?_⟩
    · have hlt := of_decide_eq_true hb
      obtain ⟨mi, hmi⟩ : ∃ mi, mi = (lo2 + hi2) / 2 := ⟨_, rfl⟩
      refine ⟨fun σ H7 => Ex H H7 ∧ ∃ lo3 hi3 : Nat, σ = [some (vi k), some (vi n), some (vi lo3), some (vi hi3), some (vi mi)] ∧ k ≤ lo3 + 1 ∧ lo3 < hi3 ∧ C lo3 k ≤ n ∧ n < C hi3 k ∧ hi3 ≤ 2 * (n + k) ∧ hi3 - lo3 < hi2 - lo2, fun σ2 H7 h => ?_, ?_⟩
      · obtain ⟨e7, lo3, hi3, rfl, a1, a2, a3, a4, a5, a6⟩ := h
        exact ⟨hi3 - lo3, by omega, e7, lo3, hi3, _, rfl, a1, a2, a3, a4, a5, rfl⟩
      · refine q_asg (v := vi mi) (ev_is (ev_div (ev_add (ev_var rfl) (ev_var rfl)) ev_c ⟨by omega, by omega⟩) (by congr 1; omega)) fun H7 e7 => ?_
        have e67 := e5.trans (e6.trans e7)
        refine s_if (et_test (ev_le (ev_call (vs := [vi mi, vi k]) (ea_cons (ev_var rfl) (ea_cons (ev_var rfl) ea_nil)) (v_picks (by omega) (hs2.le (by omega)))) (ev_var rfl))) (fun hb2 H8 e8 => ?_) fun hb2 H8 e8 => ?_
        · have hc2 : C mi k ≤ n := by have := of_decide_eq_true hb2; omega
          exact s_asg (ev_var rfl) fun H9 e9 => ⟨e67.trans (e8.trans e9), mi, hi2, rfl, by omega, by omega, hc2, g4, g5, by omega⟩
        · have hc2 : n < C mi k := by have := of_decide_eq_false hb2; omega
          exact s_asg (ev_var rfl) fun H9 e9 => ⟨e67.trans (e8.trans e9), lo2, mi, rfl, by omega, by omega, g3, hc2, by omega, by omega⟩
    · have hge := of_decide_eq_false hb
      have ehi : hi2 = lo2 + 1 := by omega
      subst ehi
      refine s_ret (ev_var rfl) fun H7 e7 => ?_
      have := q H7 (e5.trans (e6.trans e7))
      rw [top_is hk1 ⟨g3, g4⟩] at this
      exact this
theorem v_first_of {H : Hp} {k n : Nat} (h1 : 1 ≤ k) (hk : k ≤ 20) (hn : Sm 1000000 n) : SpV (sp_first_of K) [vi k, vi n] H (vi (top k n)) := fun H1 e Q q E => ⟨k, n, rfl, h1, hk, hn, q⟩
/-! ### told_by -/
def sp_told_by (K : PySem.W.Frag) : Sp := fun vs H Q _ => ∃ k n : Nat, vs = [vi k, vi n] ∧ k ≤ 20 ∧ Sm 1000000 n ∧ RetL ((unrank k n).map vi) H Q
theorem len_told_by {vs : List V} {H : Hp} {Q : VK} {E : XK} (h : sp_told_by K vs H Q E) : vs.length = 2 := by obtain ⟨k, n, rfl, _⟩ := h; rfl
/-- told_by: 0 size, 1 number, 2 found, 3 left, 4 one -/
def t_told_by (K : PySem.W.Frag) (w : World) : TS := tSeq (tAsg (tLst tNil) (gName 2)) (tSeq (tFor (iRng3 (tCons (tVar 0) (tCons (tC (.int 0)) (tCons (tUn oNeg (tC (.int 1))) tNil)))) (gName 3) (tSeq (tAsg (tCall (sp_first_of K) [] E0 (tCons (tVar 3) (tCons (tVar 1) tNil))) (gName 4)) (tSeq (tDrop (tBM K "list" rAppend (tVar 2) (tCons (tVar 4) tNil))) (tAug 1 (tCall (sp_picks K) [] E0 (tCons (tVar 4) (tCons (tVar 3) tNil))) (ipI fun i j => i - j))))) (tRet (tVar 2)))
theorem pure_told_by {vs : List V} {H : Hp} {Q : VK} {E : XK} (h : sp_told_by K vs H Q E) : t_told_by K w { nx := fun _ H' => Q .non H', rt := Q } (start ["size", "number", "found", "left", "one"] vs) H := by
  obtain ⟨k, n, rfl, hk, hn, q⟩ := h
  show t_told_by K w _ [some (vi k), some (vi n), none, none, none] H
  refine q_asgL (el_lst ea_nil (by decide)) fun f H1 nf e1 hf => ?_
  refine q_forN (ei_rngD (ev_var rfl) ev_c (ev_neg ev_c) (by omega) (by omega)) (fun H2 i σ H3 => ∃ (L : List Nat) (r : Nat) (y z : Option V), Chg H2 f (.lst (L.map vi)) H3 ∧ σ = [some (vi k), some (vi r), some (.ref f), y, z] ∧ r ≤ n ∧ L.length = i ∧ L ++ unrank (k - i) r = unrank k n)
    (fun H2 e2 => ⟨[], n, none, none, Chg.refl (e2 _ _ hf), rfl, Nat.le_refl _, rfl, rfl⟩) (fun H2 i σ H3 e2 p a o ha h2 => ?_) (fun H2 i x σ H3 H4 e2 hi p y => ?_) fun H2 σ H3 e2 p => ?_
  · obtain ⟨L, r, y, z, c, _⟩ := p
    exact c.2 a o (fun h => by subst h; rw [hf] at ha; cases ha) h2
  · obtain ⟨L, r, y0, z0, c, rfl, hr, hl, hu⟩ := p
    obtain ⟨rfl, rfl⟩ := y
    obtain ⟨j, hj⟩ : ∃ j, k - i = j + 1 := ⟨k - i - 1, by omega⟩
    have hjv : ((k : Int) - (i : Int)) = ((j + 1 : Nat) : Int) := by omega
    have hsr : Sm 1000000 r := hn.le hr
    have ht := top_ok (k := j + 1) (by omega) r
    have hle := top_le (k := j + 1) (by omega) r
    rw [hj] at hu
    dsimp only
    rw [hjv]
    refine q_asg (v := vi (top (j + 1) r)) (ev_call (vs := [vi (j + 1), vi r]) (ea_cons (ev_var rfl) (ea_cons (ev_var rfl) ea_nil)) (v_first_of (by omega) (by omega) hsr)) fun H5 e5 => ?_
    have c5 := c.ex e5
    refine q_app c5.1 (ev_var rfl) (ev_var rfl) (by rw [List.length_map]; omega) fun H6 e6 => ?_
    have c6 := (c5.ex e6).put (o' := .lst (L.map vi ++ [vi (top (j + 1) r)]))
    refine s_aug (a := (r : Int)) (b := (C (top (j + 1) r) (j + 1) : Nat)) rfl (ev_call (vs := [vi (top (j + 1) r), vi (j + 1)]) (ea_cons (ev_var rfl) (ea_cons (ev_var rfl) ea_nil)) (v_picks (by omega) ?_)) fun H7 e7 => ?_
    · exact ((hsr.add (Sm.num (b := 1000000) (show j + 1 ≤ 1000000 by omega))).le (by omega)).up (by omega)
    · refine ⟨L ++ [top (j + 1) r], r - C (top (j + 1) r) (j + 1), some (vi (j + 1)), some (vi (top (j + 1) r)), ?_, ?_, by omega, by rw [List.length_append, hl]; rfl, ?_⟩
      · rw [List.map_append]
        exact c6.ex e7
      · have e : ((r : Int) - ((C (top (j + 1) r) (j + 1) : Nat) : Int)) = ((r - C (top (j + 1) r) (j + 1) : Nat) : Int) := by
          have := ht.1
          omega
        rw [e]
        rfl
      · have e : k - (i + 1) = j := by omega
        rw [e, List.append_assoc]
        exact hu
  · obtain ⟨L, r, y0, z0, c, rfl, hr, hl, hu⟩ := p
    have e0 : k - ((k : Int) - 0).toNat = 0 := by omega
    rw [e0] at hu
    have hL : L = unrank k n := by rw [← hu]; exact (List.append_nil L).symm
    refine s_ret (ev_var rfl) fun H4 e4 => q f H4 nf ((c.ex e4).over (e1.trans e2) nf) ?_
    rw [← hL]
    exact (c.ex e4).1
theorem v_told_by {H : Hp} {k n : Nat} (hk : k ≤ 20) (hn : Sm 1000000 n) : SpL (sp_told_by K) [vi k, vi n] H ((unrank k n).map vi) := fun H1 e Q q E => ⟨k, n, rfl, hk, hn, q⟩
/-! ### slices -/
theorem cut_from (xs : List V) (i : Nat) : cutV xs (some (i : Int)) none = xs.drop i := by
  unfold cutV
  rw [HT.sIx_nat, HT.sIx_none]
  by_cases h : i ≤ xs.length
  · rw [Nat.min_eq_left h]
    exact List.take_of_length_le (by rw [List.length_drop]; exact Nat.le_refl _)
  · rw [Nat.min_eq_right (by omega), List.drop_eq_nil_of_le (Nat.le_refl _), List.drop_eq_nil_of_le (show xs.length ≤ i by omega)]
    simp
theorem cut_to (xs : List V) (j : Nat) : cutV xs none (some (j : Int)) = xs.take j := by
  unfold cutV
  rw [HT.sIx_nat, HT.sIx_none, List.drop_zero, Nat.sub_zero]
  by_cases h : j ≤ xs.length
  · rw [Nat.min_eq_left h]
  · rw [Nat.min_eq_right (by omega), List.take_of_length_le (Nat.le_refl _), List.take_of_length_le (show xs.length ≤ j by omega)]
theorem cut_both (xs : List V) (i j : Nat) : cutV xs (some (i : Int)) (some (j : Int)) = (xs.drop i).take (j - i) := by
  unfold cutV
  rw [HT.sIx_nat, HT.sIx_nat]
  by_cases h : i ≤ xs.length
  · rw [Nat.min_eq_left h]
    by_cases hj : j ≤ xs.length
    · rw [Nat.min_eq_left hj]
    · rw [Nat.min_eq_right (by omega), List.take_of_length_le (by rw [List.length_drop]; exact Nat.le_refl _), List.take_of_length_le (by rw [List.length_drop]; omega)]
  · rw [Nat.min_eq_right (show xs.length ≤ i by omega), List.drop_eq_nil_of_le (Nat.le_refl _), List.drop_eq_nil_of_le (show xs.length ≤ i by omega)]
    simp
/-! ### what is looked at -/
def sp_check_set (K : PySem.W.Frag) : Sp := fun vs H Q _ => ∃ (p : Addr) (ns : List Nat), vs = [.ref p] ∧ SqL K H p (ns.map vi) ∧ ns.length ≤ 20 ∧ Falls ns ∧ RetV .non H Q
theorem len_check_set {vs : List V} {H : Hp} {Q : VK} {E : XK} (h : sp_check_set K vs H Q E) : vs.length = 1 := by obtain ⟨p, ns, rfl, _⟩ := h; rfl
theorem falls_at : ∀ {s : List Nat} {i a b : Nat}, Falls s → s[i]? = some a → (s.drop 1)[i]? = some b → b < a
  | [], i, a, b, _, h, _ => by simp at h
  | [x], 0, a, b, _, _, h => by simp at h
  | [x], i + 1, a, b, _, h, _ => by simp at h
  | x :: y :: r, 0, a, b, h, h1, h2 => by
    have e1 : x = a := by simpa using h1
    have e2 : y = b := by simpa using h2
    subst e1 e2
    exact h.1
  | x :: y :: r, i + 1, a, b, h, h1, h2 => falls_at h.2 (s := y :: r) (by simpa using h1) (by simpa using h2)
theorem all_true (n : Nat) : (((List.range n).map fun _ => true)).all id = true := by
  rw [List.all_map]
  exact List.all_eq_true.mpr fun _ _ => rfl
theorem any_false (n : Nat) : (((List.range n).map fun _ => false)).any id = false := by
  rw [List.any_map]
  exact List.any_eq_false.mpr fun _ _ z => by cases z
theorem map_bl (n : Nat) (b : Bool) : (List.range n).map (fun _ => V.bl b) = ((List.range n).map fun _ => b).map V.bl := by rw [List.map_map]; rfl
theorem kit_ll : kitB "list" "list" = some true := by decide +kernel
/-- check_set: 0 some, 1 one, 2 other -/
def t_check_set (K : PySem.W.Frag) (w : World) : TS := tSeq (tIfS (tOr (tNot (tB (tCB (rIsi K) (tCons (tVar 0) (tCons (tC (.ty "list")) tNil))))) (tOr (tTest (tOp oGt (tCB (rLenS K) (tCons (tVar 0) tNil)) (tC (.int 20)))) (tNot (tB (tCB (rAll K) (tCons (tLc (iList K (tVar 0)) (gName 1) tYes (tCall (sp_is_count K) [] E0 (tCons (tVar 1) tNil)) [1]) tNil)))))) tNever tNext) (tIfS (tB (tCB (rAny K) (tCons (tLc (iZip K (tCons (tVar 0) (tCons (tSl (rSlL K) (tVar 0) (tPart (tC (.int 1))) tNoPart) tNil))) (gTup K 2 (gCons (gName 1) (gCons (gName 2) gNil))) tYes (tOp oLe (tVar 1) (tVar 2)) [1, 2]) tNil))) tNever tNext)
theorem pure_check_set {vs : List V} {H : Hp} {Q : VK} {E : XK} (h : sp_check_set K vs H Q E) : t_check_set K w { nx := fun _ H' => Q .non H', rt := Q } (start ["some", "one", "other"] vs) H := by
  obtain ⟨p, ns, rfl, hp, hl, hf, q⟩ := h
  show t_check_set K w _ [some (.ref p), none, none] H
  have h1 : EvL (tLc (iList K (tVar 0)) (gName 1) tYes (tCall (sp_is_count K) [] E0 (tCons (tVar 1) tNil)) [1]) [some (.ref p), none, none] H ((List.range (ns.map vi).length).map fun _ => V.bl true) :=
    el_lcL1 _ (ei_list (es_v (ev_var rfl) hp)) (by rw [List.length_map]; omega) (fun _ => rfl) fun i x H1 hx e => by
      obtain ⟨m, hm, rfl⟩ := vi_at hx
      exact ev_is (ev_call (ea_cons (ev_var rfl) ea_nil) v_count_int) (by rw [decide_eq_true (by omega)])
  rw [map_bl] at h1
  refine q_when (b := false) (et_is (et_or (et_not (et_B (ev_isiT (ev_var rfl) (ty_lst hp) kit_ll))) fun _ => et_or (et_test (ev_gt (ev_lenS (es_v (ev_var rfl) hp)) ev_c)) fun _ => et_not (et_B (ev_all (es_L h1)))) ?_) (fun hb => by cases hb) fun _ H1 e1 => ?_
  · rw [all_true, decide_eq_false (by rw [List.length_map]; omega)]
    rfl
  · have h2 : EvL (tLc (iZip K (tCons (tVar 0) (tCons (tSl (rSlL K) (tVar 0) (tPart (tC (.int 1))) tNoPart) tNil))) (gTup K 2 (gCons (gName 1) (gCons (gName 2) gNil))) tYes (tOp oLe (tVar 1) (tVar 2)) [1, 2]) [some (.ref p), none, none] H1 ((List.range (min (ns.map vi).length ((ns.map vi).drop 1).length)).map fun _ => V.bl false) :=
      el_lc2 _ (ei_zip (es_v (ev_var rfl) (ex_l e1 hp)) (es_L (el_is (el_slS (es_v (ev_var rfl) (ex_l e1 hp)) (eo_some ev_c) eo_none) (cut_from _ 1)))) (by rw [List.length_map]; omega) (fun _ _ => rfl) fun i x y H2 hi hx hy e => by
        obtain ⟨m, hm, rfl⟩ := vi_at hx
        rw [← List.map_drop] at hy
        obtain ⟨m', hm', rfl⟩ := vi_at hy
        have := falls_at hf hm hm'
        exact ev_is (ev_le (ev_var rfl) (ev_var rfl)) (by rw [decide_eq_false (by omega)])
    rw [map_bl] at h2
    refine s_when (et_is (et_B (ev_any (es_L h2))) (any_false _)) (fun hb => by cases hb) fun _ H2 e2 => q H2 (e1.trans e2)
theorem v_check_set {H : Hp} {p : Addr} {ns : List Nat} (hp : SqL K H p (ns.map vi)) (hl : ns.length ≤ 20) (hf : Falls ns) : SpV (sp_check_set K) [.ref p] H .non := fun H1 e Q q E => ⟨p, ns, rfl, ex_l e hp, hl, hf, q⟩
def sp_check_size (K : PySem.W.Frag) : Sp := fun vs H Q _ => ∃ s lo hi : Int, vs = [.int s, .int lo, .int hi] ∧ lo ≤ s ∧ s ≤ hi ∧ RetV .non H Q
theorem len_check_size {vs : List V} {H : Hp} {Q : VK} {E : XK} (h : sp_check_size K vs H Q E) : vs.length = 3 := by obtain ⟨s, lo, hi, rfl, _⟩ := h; rfl
/-- check_size: 0 size, 1 low, 2 high -/
def t_check_size (K : PySem.W.Frag) (w : World) : TS := tIfS (tOr (tNot (tB (tCall (sp_is_whole K) [] E0 (tCons (tVar 0) tNil)))) (tNot (tTest (tChain oLe oLe (tVar 1) (tVar 0) (tVar 2))))) tNever tNext
theorem pure_check_size {vs : List V} {H : Hp} {Q : VK} {E : XK} (h : sp_check_size K vs H Q E) : t_check_size K w { nx := fun _ H' => Q .non H', rt := Q } (start ["size", "low", "high"] vs) H := by
  obtain ⟨s, lo, hi, rfl, h1, h2, q⟩ := h
  show t_check_size K w _ [some (.int s), some (.int lo), some (.int hi)] H
  refine s_when (b := false) (et_is (et_or (et_not (et_B (ev_call (ea_cons (ev_var rfl) ea_nil) v_whole_int))) fun _ => et_not (et_test (ev_chLL (ev_var rfl) (ev_var rfl) (ev_var rfl)))) ?_) (fun hb => by cases hb) fun _ H1 e => q H1 e
  rw [decide_eq_true h1, decide_eq_true h2]
  rfl
theorem v_check_size {H : Hp} {s lo hi : Int} (h1 : lo ≤ s) (h2 : s ≤ hi) : SpV (sp_check_size K) [.int s, .int lo, .int hi] H .non := fun H1 e Q q E => ⟨s, lo, hi, rfl, h1, h2, q⟩
def sp_check_count (K : PySem.W.Frag) : Sp := fun vs H Q _ => ∃ n : Int, vs = [.int n] ∧ 0 ≤ n ∧ RetV .non H Q
theorem len_check_count {vs : List V} {H : Hp} {Q : VK} {E : XK} (h : sp_check_count K vs H Q E) : vs.length = 1 := by obtain ⟨n, rfl, _⟩ := h; rfl
/-- check_count: 0 number -/
def t_check_count (K : PySem.W.Frag) (w : World) : TS := tIfS (tNot (tB (tCall (sp_is_count K) [] E0 (tCons (tVar 0) tNil)))) tNever tNext
theorem pure_check_count {vs : List V} {H : Hp} {Q : VK} {E : XK} (h : sp_check_count K vs H Q E) : t_check_count K w { nx := fun _ H' => Q .non H', rt := Q } (start ["number"] vs) H := by
  obtain ⟨n, rfl, h1, q⟩ := h
  show t_check_count K w _ [some (.int n)] H
  refine s_when (b := false) (et_is (et_not (et_B (ev_call (ea_cons (ev_var rfl) ea_nil) v_count_int))) ?_) (fun hb => by cases hb) fun _ H1 e => q H1 e
  rw [decide_eq_true h1]
  rfl
theorem v_check_count {H : Hp} {n : Int} (h1 : 0 ≤ n) : SpV (sp_check_count K) [.int n] H .non := fun H1 e Q q E => ⟨n, rfl, h1, q⟩
/-! ### the doors -/
def sp_number_of (K : PySem.W.Frag) : Sp := fun vs H Q _ => ∃ (p : Addr) (ns : List Nat), vs = [.ref p] ∧ SqL K H p (ns.map vi) ∧ ns.length ≤ 20 ∧ Falls ns ∧ (∀ n ∈ ns, Sm 2000000 n) ∧ RetV (vi (rank ns)) H Q
theorem len_number_of {vs : List V} {H : Hp} {Q : VK} {E : XK} (h : sp_number_of K vs H Q E) : vs.length = 1 := by obtain ⟨p, ns, rfl, _⟩ := h; rfl
/-- number_of: 0 some -/
def t_number_of (K : PySem.W.Frag) (w : World) : TS := tSeq (tDrop (tCall (sp_check_set K) [] E0 (tCons (tVar 0) tNil))) (tRet (tCall (sp_place_of K) [] E0 (tCons (tVar 0) tNil)))
theorem pure_number_of {vs : List V} {H : Hp} {Q : VK} {E : XK} (h : sp_number_of K vs H Q E) : t_number_of K w { nx := fun _ H' => Q .non H', rt := Q } (start ["some"] vs) H := by
  obtain ⟨p, ns, rfl, hp, hl, hf, hm, q⟩ := h
  show t_number_of K w _ [some (.ref p)] H
  refine q_drop (ev_call (ea_cons (ev_var rfl) ea_nil) (v_check_set hp hl hf)) fun H1 e1 => ?_
  exact s_ret (ev_call (ea_cons (ev_var rfl) ea_nil) (v_place_of (ex_l e1 hp) (by omega) hm)) fun H2 e2 => q H2 (e1.trans e2)
theorem v_number_of {H : Hp} {p : Addr} {ns : List Nat} (hp : SqL K H p (ns.map vi)) (hl : ns.length ≤ 20) (hf : Falls ns) (hm : ∀ n ∈ ns, Sm 2000000 n) : SpV (sp_number_of K) [.ref p] H (vi (rank ns)) := fun H1 e Q q E => ⟨p, ns, rfl, ex_l e hp, hl, hf, hm, q⟩
def sp_set_of (K : PySem.W.Frag) : Sp := fun vs H Q _ => ∃ k n : Nat, vs = [vi k, vi n] ∧ k ≤ 20 ∧ (k = 0 → n = 0) ∧ Sm 1000000 n ∧ RetL ((unrank k n).map vi) H Q
theorem len_set_of {vs : List V} {H : Hp} {Q : VK} {E : XK} (h : sp_set_of K vs H Q E) : vs.length = 2 := by obtain ⟨k, n, rfl, _⟩ := h; rfl
/-- set_of: 0 size, 1 number -/
def t_set_of (K : PySem.W.Frag) (w : World) : TS := tSeq (tDrop (tCall (sp_check_size K) [] E0 (tCons (tVar 0) (tCons (tC (.int 0)) (tCons (tC (.int 20)) tNil))))) (tSeq (tDrop (tCall (sp_check_count K) [] E0 (tCons (tVar 1) tNil))) (tSeq (tIfS (tAnd (tTest (tOp rEq (tVar 0) (tC (.int 0)))) (tTest (tOp oGt (tVar 1) (tC (.int 0))))) tNever tNext) (tRet (tCall (sp_told_by K) [] E0 (tCons (tVar 0) (tCons (tVar 1) tNil))))))
theorem pure_set_of {vs : List V} {H : Hp} {Q : VK} {E : XK} (h : sp_set_of K vs H Q E) : t_set_of K w { nx := fun _ H' => Q .non H', rt := Q } (start ["size", "number"] vs) H := by
  obtain ⟨k, n, rfl, hk, h0, hn, q⟩ := h
  show t_set_of K w _ [some (vi k), some (vi n)] H
  refine q_drop (ev_call (ea_cons (ev_var rfl) (ea_cons ev_c (ea_cons ev_c ea_nil))) (v_check_size (by omega) (by omega))) fun H1 e1 => ?_
  refine q_drop (ev_call (ea_cons (ev_var rfl) ea_nil) (v_check_count (by omega))) fun H2 e2 => ?_
  refine q_when (et_is (et_and (et_test (ev_eqI (ev_var rfl) ev_c)) fun _ => et_test (ev_gt (ev_var rfl) ev_c)) (b := false) ?_) (fun hb => by cases hb) fun _ H3 e3 => ?_
  · by_cases e : k = 0
    · rw [h0 e, decide_eq_false (show ¬ ((0 : Int) < ((0 : Nat) : Int)) by omega), Bool.and_false]
    · rw [decide_eq_false (by omega), Bool.false_and]
  · exact s_retL (el_call (ea_cons (ev_var rfl) (ea_cons (ev_var rfl) ea_nil)) (v_told_by hk hn)) fun f H4 nf e4 hf => q f H4 (fresh_back (e1.trans (e2.trans e3)) nf) (e1.trans (e2.trans (e3.trans e4))) hf
theorem v_set_of {H : Hp} {k n : Nat} (hk : k ≤ 20) (h0 : k = 0 → n = 0) (hn : Sm 1000000 n) : SpL (sp_set_of K) [vi k, vi n] H ((unrank k n).map vi) := fun H1 e Q q E => ⟨k, n, rfl, hk, h0, hn, q⟩
/-- a new list of new lists, the sets within -/
def Bth (ns : List Nat) (H : Hp) (v : V) (H2 : Hp) : Prop := ∃ D L, v = .ref D ∧ H D = none ∧ H2 D = some (.lst L) ∧ L.length = ns.length ∧ ∀ i x, L[i]? = some x → ∃ p, x = .ref p ∧ H p = none ∧ H2 p = some (.lst ((ns.eraseIdx i).map vi))
theorem Bth.back {ns : List Nat} {H H1 : Hp} {v : V} {H2 : Hp} (e : Ex H H1) (h : Bth ns H1 v H2) : Bth ns H v H2 := by
  obtain ⟨D, L, rfl, n0, hD, hl, hx⟩ := h
  refine ⟨D, L, rfl, fresh_back e n0, hD, hl, fun i x hi => ?_⟩
  obtain ⟨p, rfl, np, hp⟩ := hx i x hi
  exact ⟨p, rfl, fresh_back e np, hp⟩
def sp_beneath (K : PySem.W.Frag) : Sp := fun vs H Q _ => ∃ (p : Addr) (ns : List Nat), vs = [.ref p] ∧ SqL K H p (ns.map vi) ∧ ns.length ≤ 20 ∧ Falls ns ∧ ∀ v H2, Ex H H2 → Bth ns H v H2 → Q v H2
theorem len_beneath {vs : List V} {H : Hp} {Q : VK} {E : XK} (h : sp_beneath K vs H Q E) : vs.length = 1 := by obtain ⟨p, ns, rfl, _⟩ := h; rfl
theorem erase_cut (ns : List Nat) (i : Nat) : (ns.map vi).take i ++ (ns.map vi).drop (i + 1) = (ns.eraseIdx i).map vi := by
  rw [List.eraseIdx_eq_take_drop_succ, List.map_append, List.map_take, List.map_drop]
/-- beneath: 0 some, 1 at -/
def t_beneath (K : PySem.W.Frag) (w : World) : TS := tSeq (tDrop (tCall (sp_check_set K) [] E0 (tCons (tVar 0) tNil))) (tRet (tLc (iRng1 (tCons (tCB (rLenS K) (tCons (tVar 0) tNil)) tNil)) (gName 1) tYes (tOp rCat (tSl (rSlL K) (tVar 0) tNoPart (tPart (tVar 1))) (tSl (rSlL K) (tVar 0) (tPart (tOp oAdd (tVar 1) (tC (.int 1)))) tNoPart)) [1]))
theorem pure_beneath {vs : List V} {H : Hp} {Q : VK} {E : XK} (h : sp_beneath K vs H Q E) : t_beneath K w { nx := fun _ H' => Q .non H', rt := Q } (start ["some", "at"] vs) H := by
  obtain ⟨p, ns, rfl, hp, hl, hf, q⟩ := h
  show t_beneath K w _ [some (.ref p), none] H
  refine q_drop (ev_call (ea_cons (ev_var rfl) ea_nil) (v_check_set hp hl hf)) fun H1 e1 => ?_
  refine s_retP (ep_lc (EvIN.ev (ei_rng1 (ev_lenS (es_v (ev_var rfl) (ex_l e1 hp))) (by rw [List.length_map]; omega))) (by rw [List.length_map]; omega)
    (fun i Ha v H2 => ∃ p, v = .ref p ∧ Ha p = none ∧ H2 p = some (.lst ((ns.eraseIdx i).map vi))) (fun i Ha v H2 H3 D o _ hD k h => ?_) (fun i H0 Ha v H2 e h => ?_) fun i x H2 H3 hi e hy => ?_) fun v H2 e2 hv => q v H2 (e1.trans e2) ?_
  · obtain ⟨l, rfl, nl, hl⟩ := h
    exact ⟨l, rfl, nl, k l _ (fun z => by subst z; rw [hD] at nl; cases nl) hl⟩
  · obtain ⟨l, rfl, nl, hl⟩ := h
    exact ⟨l, rfl, fresh_back e nl, hl⟩
  · obtain ⟨rfl, rfl⟩ := hy
    refine ⟨Ex.refl _, fun Q q => q _ rfl (ep_L ?_ fun l Ha Hb _ nl _ hl => ⟨l, rfl, nl, hl⟩)⟩
    have hp2 := ex_l (e1.trans e) hp
    rw [← erase_cut]
    refine el_cat (el_is (el_slS (es_v (ev_var rfl) hp2) eo_none (eo_some (ev_var rfl))) (cut_to _ i)) (el_is (el_slS (es_v (ev_var rfl) hp2) (eo_some (ev_add (ev_var rfl) ev_c)) eo_none) (cut_from _ (i + 1))) ?_
    rw [List.length_take, List.length_drop, List.length_map]
    omega
  · refine Bth.back e1 ?_
    obtain ⟨D, L, rfl, n0, hD, hL, hx⟩ := hv
    refine ⟨D, L, rfl, n0, hD, ?_, hx⟩
    rw [hL, List.length_map]
    omega
end Sx


set_option Elab.async false
set_option linter.all false
set_option maxRecDepth 100000
set_option maxHeartbeats 4000000
/-! counts: moved, under, over -/
namespace Sx
open PySem PySem.Spec PyProof.Rows L2 Evl Mth
variable {K : PySem.W.Frag} {w : World}
/-- by one fewer: d = 0, by one more: d = 2 -/
def sp_moved (K : PySem.W.Frag) : Sp := fun vs H Q _ => ∃ k n d : Nat, vs = [vi k, vi n, .int ((d : Int) - 1)] ∧ d ≤ 2 ∧ k ≤ 20 ∧ k + d ≤ 22 ∧ Sm 1000000 n ∧ RetV (vi (mov d (unrank k n))) H Q
theorem len_moved {vs : List V} {H : Hp} {Q : VK} {E : XK} (h : sp_moved K vs H Q E) : vs.length = 3 := by obtain ⟨k, n, d, rfl, _⟩ := h; rfl
theorem sm_unrank {k n i m : Nat} (hk : k ≤ 20) (hn : Sm 1000000 n) (h : (unrank k n)[i]? = some m) : Sm 2000000 m := by
  have h1 := unrank_le k n i m h
  exact ((hn.add (Sm.num (b := 1000000) (show k ≤ 1000000 by omega))).le (by omega)).up (by omega)
/-- moved: 0 size, 1 many, 2 by, 3 found, 4 at, 5 one, 6 left -/
def t_moved (K : PySem.W.Frag) (w : World) : TS := tSeq (tAsg (tC (.int 0)) (gName 3)) (tSeq (tFor (iEnum K (tCons (tCall (sp_told_by K) [] E0 (tCons (tVar 0) (tCons (tVar 1) tNil))) tNil)) (gTup K 2 (gCons (gName 4) (gCons (gName 5) gNil))) (tSeq (tAsg (tOp oSub (tVar 0) (tVar 4)) (gName 6)) (tIfS (tTest (tOp oGe (tVar 5) (tVar 6))) (tAug 3 (tCall (sp_picks K) [] E0 (tCons (tVar 5) (tCons (tOp oAdd (tVar 6) (tVar 2)) tNil))) (ipI fun i j => i + j)) tNext))) (tRet (tVar 3)))
theorem pure_moved {vs : List V} {H : Hp} {Q : VK} {E : XK} (h : sp_moved K vs H Q E) : t_moved K w { nx := fun _ H' => Q .non H', rt := Q } (start ["size", "many", "by", "found", "at", "one", "left"] vs) H := by
  obtain ⟨k, n, d, rfl, hd, hk, hkd, hn, q⟩ := h
  show t_moved K w _ [some (vi k), some (vi n), some (.int ((d : Int) - 1)), none, none, none, none] H
  refine q_asg (v := vi 0) ev_c fun H1 e1 => ?_
  have hlen : (unrank k n).length = k := unrank_len k n
  refine q_forN (ei_enumN (el_call (ea_cons (ev_var rfl) (ea_cons (ev_var rfl) ea_nil)) (v_told_by hk hn)))
    (fun H2 i σ H3 => Ex H2 H3 ∧ ∃ (f : Nat) (x y z : Option V), σ = [some (vi k), some (vi n), some (.int ((d : Int) - 1)), some (vi f), x, y, z] ∧ f + mov d ((unrank k n).drop i) = mov d (unrank k n))
    (fun H2 e2 => ⟨Ex.refl _, 0, none, none, none, rfl, by rw [List.drop_zero, Nat.zero_add]⟩) (fun H2 i σ H3 e2 p a o _ h2 => p.1 a o h2) (fun H2 i x σ H3 H4 e2 hi p hy => ?_) fun H2 σ H3 e2 p => ?_
  · obtain ⟨e3, f, x0, y0, z0, rfl, hf⟩ := p
    obtain ⟨T, a, b, rfl, nT, rfl, ha, hb⟩ := hy
    cases ha
    obtain ⟨m, hm, rfl⟩ := vi_at hb
    rw [List.length_map, hlen] at hi
    refine g_pair (st_of upd_same) ?_
    have e4 : Ex H2 (upd H3 T (.tup [.int (i : Nat), vi m])) := e3.trans (Ex.new nT)
    refine q_asg (v := vi (k - i)) (ev_is (ev_sub (ev_var rfl) (ev_var rfl)) (by congr 1; omega)) fun H5 e5 => ?_
    have hms := sm_unrank hk hn hm
    have hdr := mov_drop (d := d) hm
    rw [hlen] at hdr
    refine s_when (et_test (ev_ge (ev_var rfl) (ev_var rfl))) (fun hb H6 e6 => ?_) fun hb H6 e6 => ?_
    · have hle : k - i ≤ m := by have := of_decide_eq_true hb; omega
      rw [if_pos hle] at hdr
      refine s_aug (a := (f : Int)) (b := (C m (k - i - 1 + d) : Nat)) rfl (ev_call (vs := [vi m, vi (k - i - 1 + d)]) (ea_cons (ev_var rfl) (ea_cons (ev_is (ev_add (ev_var rfl) (ev_var rfl)) (by congr 1; omega)) ea_nil)) (v_picks (by omega) hms)) fun H7 e7 => ?_
      refine ⟨e4.trans (e5.trans (e6.trans e7)), f + C m (k - i - 1 + d), _, _, _, rfl, by omega⟩
    · have hle : ¬ k - i ≤ m := by have := of_decide_eq_false hb; omega
      rw [if_neg hle] at hdr
      exact ⟨e4.trans (e5.trans e6), f, _, _, _, rfl, by omega⟩
  · obtain ⟨e3, f, x0, y0, z0, rfl, hf⟩ := p
    rw [List.length_map, List.drop_eq_nil_of_le (Nat.le_refl _)] at hf
    have ef : f = mov d (unrank k n) := by rw [← hf]; rfl
    subst ef
    exact s_ret (ev_var rfl) fun H4 e4 => q H4 (e1.trans (e2.trans (e3.trans e4)))
theorem v_moved {H : Hp} {k n d : Nat} {b : Int} (hb : b = (d : Int) - 1) (hd : d ≤ 2) (hk : k ≤ 20) (hkd : k + d ≤ 22) (hn : Sm 1000000 n) : SpV (sp_moved K) [vi k, vi n, .int b] H (vi (mov d (unrank k n))) := fun H1 e Q q E => ⟨k, n, d, by rw [hb], hd, hk, hkd, hn, q⟩
theorem v_mvU {H : Hp} {k n : Nat} (hk : k ≤ 20) (hn : Sm 1000000 n) : SpV (sp_moved K) [vi k, vi n, .int (-1)] H (vi (und k n)) := by
  have := v_moved (K := K) (H := H) (k := k) (n := n) (d := 0) (b := -1) rfl (by omega) hk (by omega) hn
  rw [mov_und] at this
  exact this
theorem v_mvO {H : Hp} {k n : Nat} (hk : k ≤ 20) (hn : Sm 1000000 n) : SpV (sp_moved K) [vi k, vi n, .int 1] H (vi (ovr k n)) := by
  have := v_moved (K := K) (H := H) (k := k) (n := n) (d := 2) (b := 1) rfl (by omega) hk (by omega) hn
  rw [mov_ovr] at this
  exact this
def sp_under (K : PySem.W.Frag) : Sp := fun vs H Q _ => ∃ k n : Nat, vs = [vi k, vi n] ∧ 1 ≤ k ∧ k ≤ 20 ∧ Sm 1000000 n ∧ RetV (vi (und k n)) H Q
theorem len_under {vs : List V} {H : Hp} {Q : VK} {E : XK} (h : sp_under K vs H Q E) : vs.length = 2 := by obtain ⟨k, n, rfl, _⟩ := h; rfl
/-- under: 0 size, 1 many -/
def t_under (K : PySem.W.Frag) (w : World) : TS := tSeq (tDrop (tCall (sp_check_size K) [] E0 (tCons (tVar 0) (tCons (tC (.int 1)) (tCons (tC (.int 20)) tNil))))) (tSeq (tDrop (tCall (sp_check_count K) [] E0 (tCons (tVar 1) tNil))) (tRet (tCall (sp_moved K) [] E0 (tCons (tVar 0) (tCons (tVar 1) (tCons (tUn oNeg (tC (.int 1))) tNil))))))
theorem pure_under {vs : List V} {H : Hp} {Q : VK} {E : XK} (h : sp_under K vs H Q E) : t_under K w { nx := fun _ H' => Q .non H', rt := Q } (start ["size", "many"] vs) H := by
  obtain ⟨k, n, rfl, h1, hk, hn, q⟩ := h
  show t_under K w _ [some (vi k), some (vi n)] H
  refine q_drop (ev_call (ea_cons (ev_var rfl) (ea_cons ev_c (ea_cons ev_c ea_nil))) (v_check_size (by omega) (by omega))) fun H1 e1 => ?_
  refine q_drop (ev_call (ea_cons (ev_var rfl) ea_nil) (v_check_count (by omega))) fun H2 e2 => ?_
  exact s_ret (ev_call (ea_cons (ev_var rfl) (ea_cons (ev_var rfl) (ea_cons (ev_neg ev_c) ea_nil))) (v_mvU hk hn)) fun H3 e3 => q H3 (e1.trans (e2.trans e3))
theorem v_under {H : Hp} {k n : Nat} (h1 : 1 ≤ k) (hk : k ≤ 20) (hn : Sm 1000000 n) : SpV (sp_under K) [vi k, vi n] H (vi (und k n)) := fun H1 e Q q E => ⟨k, n, rfl, h1, hk, hn, q⟩
def sp_over (K : PySem.W.Frag) : Sp := fun vs H Q _ => ∃ k n : Nat, vs = [vi k, vi n] ∧ 1 ≤ k ∧ k ≤ 19 ∧ Sm 1000000 n ∧ RetV (vi (ovr k n)) H Q
theorem len_over {vs : List V} {H : Hp} {Q : VK} {E : XK} (h : sp_over K vs H Q E) : vs.length = 2 := by obtain ⟨k, n, rfl, _⟩ := h; rfl
/-- over: 0 size, 1 many -/
def t_over (K : PySem.W.Frag) (w : World) : TS := tSeq (tDrop (tCall (sp_check_size K) [] E0 (tCons (tVar 0) (tCons (tC (.int 1)) (tCons (tOp oSub (tC (.int 20)) (tC (.int 1))) tNil))))) (tSeq (tDrop (tCall (sp_check_count K) [] E0 (tCons (tVar 1) tNil))) (tRet (tCall (sp_moved K) [] E0 (tCons (tVar 0) (tCons (tVar 1) (tCons (tC (.int 1)) tNil))))))
theorem pure_over {vs : List V} {H : Hp} {Q : VK} {E : XK} (h : sp_over K vs H Q E) : t_over K w { nx := fun _ H' => Q .non H', rt := Q } (start ["size", "many"] vs) H := by
  obtain ⟨k, n, rfl, h1, hk, hn, q⟩ := h
  show t_over K w _ [some (vi k), some (vi n)] H
  refine q_drop (ev_call (ea_cons (ev_var rfl) (ea_cons ev_c (ea_cons (ev_sub ev_c ev_c) ea_nil))) (v_check_size (by omega) (by omega))) fun H1 e1 => ?_
  refine q_drop (ev_call (ea_cons (ev_var rfl) ea_nil) (v_check_count (by omega))) fun H2 e2 => ?_
  exact s_ret (ev_call (ea_cons (ev_var rfl) (ea_cons (ev_var rfl) (ea_cons ev_c ea_nil))) (v_mvO (by omega) hn)) fun H3 e3 => q H3 (e1.trans (e2.trans e3))
theorem v_over {H : Hp} {k n : Nat} (h1 : 1 ≤ k) (hk : k ≤ 19) (hn : Sm 1000000 n) : SpV (sp_over K) [vi k, vi n] H (vi (ovr k n)) := fun H1 e Q q E => ⟨k, n, rfl, h1, hk, hn, q⟩
end Sx


set_option Elab.async false
set_option linter.all false
set_option maxRecDepth 100000
set_option maxHeartbeats 4000000
/-! the laws' own helpers: cells, draws, values; equality of data -/
namespace Sx
open PySem PySem.Spec PyProof.Rows L2 Evl Mth
variable {K : PySem.W.Frag} {w : World}
/-! ### how long the script's numbers are -/
def Bt (b : Nat) (i : Int) : Prop := i.natAbs < 2 ^ b
theorem Bt.up {a b : Nat} {i : Int} (h : Bt a i) (l : a ≤ b) : Bt b i := Nat.lt_of_lt_of_le h (Nat.pow_le_pow_right (by omega) l)
theorem Bt.add {a : Nat} {i j : Int} (h : Bt a i) (h' : Bt a j) : Bt (a + 1) (i + j) := by
  unfold Bt at *
  rw [Nat.pow_succ]
  omega
theorem Bt.sub {a : Nat} {i j : Int} (h : Bt a i) (h' : Bt a j) : Bt (a + 1) (i - j) := by
  unfold Bt at *
  rw [Nat.pow_succ]
  omega
theorem Bt.mul {a b : Nat} {i j : Int} (h : Bt a i) (h' : Bt b j) : Bt (a + b) (i * j) := by
  unfold Bt at *
  rw [Nat.pow_add, Int.natAbs_mul]
  exact Nat.mul_lt_mul'' h h'
theorem Bt.num {b : Nat} {i : Int} (h : i.natAbs ≤ b) : Bt b i := Nat.lt_of_le_of_lt h Nat.lt_two_pow_self
theorem Bt.cmul {a b : Nat} {i j : Int} (h : Bt a i) (h' : Bt b j) (l : a + b < 100000000) : CMulX i j := mulX (h.up (Nat.le_succ _)) (h'.up (Nat.le_succ _)) l
theorem Bt.bits {i : Int} {b : Nat} (h : Builtin.Int.intBits i ≤ b) : Bt b i := by
  unfold Builtin.Int.intBits at h
  unfold Bt
  split at h
  · rename_i z
    have : i.natAbs = 0 := by
      first
        | omega
        | (simp at z; omega)
    rw [this]
    exact Nat.pow_pos (by omega)
  · rename_i z
    by_cases e : i.natAbs = 0
    · rw [e]; exact Nat.pow_pos (by omega)
    · exact Nat.lt_of_lt_of_le ((Nat.log2_lt e).mp (Nat.lt_succ_self _)) (Nat.pow_le_pow_right (by omega) h)
/-! ### a cell of the script -/
def sp__law_cell_at (K : PySem.W.Frag) : Sp := fun vs H Q _ => ∃ (a : Addr) (ns : List Int) (k : Nat), vs = [.ref a, vi k] ∧ SqL K H a (ns.map V.int) ∧ RetV (.int (ns.getD k 0)) H Q
theorem len__law_cell_at {vs : List V} {H : Hp} {Q : VK} {E : XK} (h : sp__law_cell_at K vs H Q E) : vs.length = 2 := by obtain ⟨a, ns, k, rfl, _⟩ := h; rfl
/-- _law_cell_at: 0 _law_script, 1 _law_k -/
def t__law_cell_at (K : PySem.W.Frag) (w : World) : TS := tSeq (tIfS (tTest (tOp oLt (tVar 1) (tCB (rLenS K) (tCons (tVar 0) tNil)))) (tRet (tOp (rIxL K) (tVar 0) (tVar 1))) tNext) (tRet (tC (.int 0)))
theorem pure__law_cell_at {vs : List V} {H : Hp} {Q : VK} {E : XK} (h : sp__law_cell_at K vs H Q E) : t__law_cell_at K w { nx := fun _ H' => Q .non H', rt := Q } (start ["_law_script", "_law_k"] vs) H := by
  obtain ⟨a, ns, k, rfl, ha, q⟩ := h
  show t__law_cell_at K w _ [some (.ref a), some (vi k)] H
  refine q_when (et_test (ev_lt (ev_var rfl) (ev_lenS (es_v (ev_var rfl) ha)))) (fun hb H1 e1 => ?_) fun hb H1 e1 => ?_
  · have hk : k < ns.length := by
      have := of_decide_eq_true hb
      rw [List.length_map] at this
      omega
    have hg : (ns.map V.int)[k]? = some (.int (ns.getD k 0)) := by rw [List.getElem?_map, List.getD_eq_getElem?_getD, List.getElem?_eq_getElem hk]; rfl
    exact s_ret (ev_ixS (es_v (ev_var rfl) (ex_l e1 ha)) (ev_var rfl) (atI_nat hg)) fun H2 e2 => q H2 (e1.trans e2)
  · have hk : ns.length ≤ k := by
      have := of_decide_eq_false hb
      rw [List.length_map] at this
      omega
    have hg : ns.getD k 0 = 0 := by rw [List.getD_eq_getElem?_getD, List.getElem?_eq_none hk]; rfl
    rw [hg] at q
    exact s_ret ev_c fun H2 e2 => q H2 (e1.trans e2)
theorem v_cell {H : Hp} {a : Addr} {ns : List Int} {k : Nat} (ha : SqL K H a (ns.map V.int)) : SpV (sp__law_cell_at K) [.ref a, vi k] H (.int (ns.getD k 0)) := fun H1 e Q q E => ⟨a, ns, k, rfl, ex_l e ha, q⟩
/-! ### a draw -/
def prs : List Int := [1000003, 1000033, 1000037, 1000039, 1000081, 1000099, 1000117, 1000121, 1000133, 1000151, 1000159, 1000171, 1000183, 1000187, 1000193, 1000199]
theorem prs_at : ∀ j : Nat, j < 16 → (prs.map V.int)[j]? = some (.int (prs.getD j 1)) := by decide
theorem prs_pos (j : Nat) : 0 < prs.getD j 1 := by
  by_cases h : j < 16
  · have : ∀ j : Nat, j < 16 → 0 < prs.getD j 1 := by decide
    exact this j h
  · rw [List.getD_eq_getElem?_getD, List.getElem?_eq_none (by show 16 ≤ j; omega)]
    decide
def drawF (c : Int) (k m : Nat) : Nat := ((c * 48271 + k * 69621) % prs.getD (k % 16) 1 % m).toNat
theorem drawF_lt {c : Int} {k m : Nat} (h : 0 < m) : drawF c k m < m := by
  have h1 := Int.emod_nonneg ((c * 48271 + k * 69621) % prs.getD (k % 16) 1) (show (m : Int) ≠ 0 by omega)
  have h2 := Int.emod_lt_of_pos ((c * 48271 + k * 69621) % prs.getD (k % 16) 1) (show (0 : Int) < m by omega)
  unfold drawF
  omega
def sp__law_draw (K : PySem.W.Frag) : Sp := fun vs H Q _ => ∃ (c : Int) (k m : Nat), vs = [.int c, vi k, vi m] ∧ Bt 10000000 c ∧ k ≤ 1000 ∧ 0 < m ∧ RetV (vi (drawF c k m)) H Q
theorem len__law_draw {vs : List V} {H : Hp} {Q : VK} {E : XK} (h : sp__law_draw K vs H Q E) : vs.length = 3 := by obtain ⟨c, k, m, rfl, _⟩ := h; rfl
/-- _law_draw: 0 _law_cell, 1 _law_k, 2 _law_many, 3 _law_primes -/
def t__law_draw (K : PySem.W.Frag) (w : World) : TS := tSeq (tAsg (tTup (tCons (tC (.int 1000003)) (tCons (tC (.int 1000033)) (tCons (tC (.int 1000037)) (tCons (tC (.int 1000039)) (tCons (tC (.int 1000081)) (tCons (tC (.int 1000099)) (tCons (tC (.int 1000117)) (tCons (tC (.int 1000121)) (tCons (tC (.int 1000133)) (tCons (tC (.int 1000151)) (tCons (tC (.int 1000159)) (tCons (tC (.int 1000171)) (tCons (tC (.int 1000183)) (tCons (tC (.int 1000187)) (tCons (tC (.int 1000193)) (tCons (tC (.int 1000199)) tNil))))))))))))))))) (gName 3)) (tRet (tOp oMod (tOp oMod (tOp oAdd (tOp oMul (tVar 0) (tC (.int 48271))) (tOp oMul (tVar 1) (tC (.int 69621)))) (tOp (rIxT K) (tVar 3) (tOp oMod (tVar 1) (tC (.int 16))))) (tVar 2)))
theorem pure__law_draw {vs : List V} {H : Hp} {Q : VK} {E : XK} (h : sp__law_draw K vs H Q E) : t__law_draw K w { nx := fun _ H' => Q .non H', rt := Q } (start ["_law_cell", "_law_k", "_law_many", "_law_primes"] vs) H := by
  obtain ⟨c, k, m, rfl, hc, hk, hm, q⟩ := h
  show t__law_draw K w _ [some (.int c), some (vi k), some (vi m), none] H
  refine q_asgU (xs := prs.map V.int) (eu_tup (ea_cons ev_c (ea_cons ev_c (ea_cons ev_c (ea_cons ev_c (ea_cons ev_c (ea_cons ev_c (ea_cons ev_c (ea_cons ev_c (ea_cons ev_c (ea_cons ev_c (ea_cons ev_c (ea_cons ev_c (ea_cons ev_c (ea_cons ev_c (ea_cons ev_c (ea_cons ev_c ea_nil)))))))))))))))) (by decide)) fun p H1 np e1 hp => ?_
  have hix : ((k : Int) % 16) = ((k % 16 : Nat) : Int) := by omega
  refine s_ret (ev_is (ev_mod (ev_mod (ev_add (ev_mul (ev_var rfl) ev_c (hc.cmul (Bt.num (b := 48271) (by decide)) (by omega))) (ev_mul (ev_var rfl) ev_c (Bt.cmul (Bt.num (b := 1000) (by omega)) (Bt.num (b := 69621) (by decide)) (by omega)))) (ev_op (ev_var rfl) (ev_mod (ev_var rfl) ev_c (by decide)) (rv_ixT (v := .int (prs.getD (k % 16) 1)) (st_of hp) ?_)) (prs_pos _)) (ev_var rfl) (by omega)) ?_) fun H2 e2 => q H2 (e1.trans e2)
  · rw [hix]
    exact atI_nat (prs_at _ (Nat.mod_lt _ (by omega)))
  · have h1 := Int.emod_nonneg ((c * 48271 + k * 69621) % prs.getD (k % 16) 1) (show (m : Int) ≠ 0 by omega)
    show V.int _ = V.int _
    congr 1
    unfold drawF
    omega
theorem v_draw {H : Hp} {c : Int} {k m : Nat} (hc : Bt 10000000 c) (hk : k ≤ 1000) (hm : 0 < m) : SpV (sp__law_draw K) [.int c, vi k, vi m] H (vi (drawF c k m)) := fun H1 e Q q E => ⟨c, k, m, rfl, hc, hk, hm, q⟩
/-! ### a value -/
def valF (c : Int) (k lim : Nat) : Nat := if (10 : Int) ^ 18 ≤ c then ((c - 10 ^ 18) % 10 ^ 40).toNat else drawF ((c + 977 * k) * (c + 31 * k + 5)) (k % 9 + 1) lim
theorem valF_sm {c : Int} {k lim : Nat} (h : 0 < lim) (h2 : lim ≤ 1000000) : Sm 140 (valF c k lim) := by
  unfold valF
  split
  · have h1 := Int.emod_nonneg (c - 10 ^ 18) (show (10 : Int) ^ 40 ≠ 0 by decide)
    have h2 := Int.emod_lt_of_pos (c - 10 ^ 18) (show (0 : Int) < 10 ^ 40 by decide)
    have h3 : ((c - 10 ^ 18) % 10 ^ 40).toNat < 10 ^ 40 := by
      have e : (10 : Int) ^ 40 = ((10 ^ 40 : Nat) : Int) := by decide
      rw [e] at h1 h2 ⊢
      omega
    exact Nat.lt_trans h3 (by decide)
  · have h3 := drawF_lt (c := (c + 977 * k) * (c + 31 * k + 5)) (k := k % 9 + 1) h
    exact Nat.lt_trans (Nat.lt_of_lt_of_le h3 h2) (by decide)
theorem valF_lt {c : Int} {k lim : Nat} (h : 0 < lim) (h2 : lim ≤ 1000000) : valF c k lim < 10 ^ 40 := by
  unfold valF
  split
  · have h1 := Int.emod_nonneg (c - 10 ^ 18) (show (10 : Int) ^ 40 ≠ 0 by decide)
    have h2 := Int.emod_lt_of_pos (c - 10 ^ 18) (show (0 : Int) < 10 ^ 40 by decide)
    have e : (10 : Int) ^ 40 = ((10 ^ 40 : Nat) : Int) := by decide
    rw [e] at h1 h2 ⊢
    omega
  · have h3 := drawF_lt (c := (c + 977 * k) * (c + 31 * k + 5)) (k := k % 9 + 1) h
    exact Nat.lt_trans (Nat.lt_of_lt_of_le h3 h2) (by decide)
def sp__law_value (K : PySem.W.Frag) : Sp := fun vs H Q _ => ∃ (c : Int) (k lim : Nat), vs = [.int c, vi k, vi lim] ∧ Bt 1048576 c ∧ k ≤ 100 ∧ 0 < lim ∧ lim ≤ 1000000 ∧ RetV (vi (valF c k lim)) H Q
theorem len__law_value {vs : List V} {H : Hp} {Q : VK} {E : XK} (h : sp__law_value K vs H Q E) : vs.length = 3 := by obtain ⟨c, k, m, rfl, _⟩ := h; rfl
/-- _law_value: 0 _law_cell, 1 _law_k, 2 _law_limit -/
def t__law_value (K : PySem.W.Frag) (w : World) : TS := tSeq (tIfS (tTest (tOp oGe (tVar 0) (tOp oPow (tC (.int 10)) (tC (.int 18))))) (tRet (tOp oMod (tOp oSub (tVar 0) (tOp oPow (tC (.int 10)) (tC (.int 18)))) (tOp oPow (tC (.int 10)) (tC (.int 40))))) tNext) (tRet (tCall (sp__law_draw K) [] E0 (tCons (tOp oMul (tOp oAdd (tVar 0) (tOp oMul (tC (.int 977)) (tVar 1))) (tOp oAdd (tOp oAdd (tVar 0) (tOp oMul (tC (.int 31)) (tVar 1))) (tC (.int 5)))) (tCons (tOp oAdd (tOp oMod (tVar 1) (tC (.int 9))) (tC (.int 1))) (tCons (tVar 2) tNil)))))
theorem pow18 : CPow 10 18 := by unfold CPow; decide
theorem pow40 : CPow 10 40 := by unfold CPow; decide
theorem pure__law_value {vs : List V} {H : Hp} {Q : VK} {E : XK} (h : sp__law_value K vs H Q E) : t__law_value K w { nx := fun _ H' => Q .non H', rt := Q } (start ["_law_cell", "_law_k", "_law_limit"] vs) H := by
  obtain ⟨c, k, lim, rfl, hc, hk, h0, hl, q⟩ := h
  show t__law_value K w _ [some (.int c), some (vi k), some (vi lim)] H
  have b1 : Bt 1048577 (c + 977 * k) := (hc.up (Nat.le_refl _)).add (Bt.num (b := 1048576) (by omega))
  have b2 : Bt 1048577 (c + 31 * k) := (hc.up (Nat.le_refl _)).add (Bt.num (b := 1048576) (by omega))
  have b3 : Bt 1048578 (c + 31 * k + 5) := b2.add (Bt.num (b := 1048577) (by decide))
  refine q_when (et_test (ev_ge (ev_var rfl) (ev_pow ev_c ev_c pow18))) (fun hb H1 e1 => ?_) fun hb H1 e1 => ?_
  · have hge : (10 : Int) ^ 18 ≤ c := of_decide_eq_true hb
    refine s_ret (ev_is (ev_mod (ev_sub (ev_var rfl) (ev_pow ev_c ev_c pow18)) (ev_pow ev_c ev_c pow40) (by decide)) ?_) fun H2 e2 => q H2 (e1.trans e2)
    have h1 := Int.emod_nonneg (c - 10 ^ 18) (show (10 : Int) ^ 40 ≠ 0 by decide)
    show V.int ((c - 10 ^ 18) % 10 ^ 40) = V.int _
    congr 1
    unfold valF
    rw [if_pos hge]
    exact (Int.toNat_of_nonneg h1).symm
  · have hge : ¬ (10 : Int) ^ 18 ≤ c := of_decide_eq_false hb
    have ev : valF c k lim = drawF ((c + 977 * k) * (c + 31 * k + 5)) (k % 9 + 1) lim := by unfold valF; rw [if_neg hge]
    rw [ev] at q
    refine s_ret (ev_call (vs := [.int ((c + 977 * k) * (c + 31 * k + 5)), vi (k % 9 + 1), vi lim]) (ea_cons (ev_mul (ev_add (ev_var rfl) (ev_mul ev_c (ev_var rfl) (Bt.cmul (Bt.num (b := 977) (by decide)) (Bt.num (b := 100) (by omega)) (by omega))))
      (ev_add (ev_add (ev_var rfl) (ev_mul ev_c (ev_var rfl) (Bt.cmul (Bt.num (b := 31) (by decide)) (Bt.num (b := 100) (by omega)) (by omega)))) ev_c) (b1.cmul b3 (by omega))) (ea_cons (ev_is (ev_add (ev_mod (ev_var rfl) ev_c (by decide)) ev_c) ?_) (ea_cons (ev_var rfl) ea_nil)))
      (v_draw ((b1.mul b3).up (by omega)) (by omega) h0)) fun H2 e2 => q H2 (e1.trans e2)
    rfl
theorem v_value {H : Hp} {c : Int} {k lim : Nat} (hc : Bt 1048576 c) (hk : k ≤ 100) (h0 : 0 < lim) (hl : lim ≤ 1000000) : SpV (sp__law_value K) [.int c, vi k, vi lim] H (vi (valF c k lim)) := fun H1 e Q q E => ⟨c, k, lim, rfl, hc, hk, h0, hl, q⟩
/-! ### equal data -/
def EvD (K : PySem.W.Frag) (te : TE) (σ : L2.St) (H : Hp) (d : PyData) : Prop := EvP te σ H fun _ v H2 => Dp K H2 v d
mutual
theorem dp_ex {H H' : Hp} (e : Ex H H') : ∀ (d : PyData) (v : V), Dp K H v d → Dp K H' v d
  | .none, _, h => by cases h; exact .non
  | .bool b, _, h => by cases h; exact .bl b
  | .int i, _, h => by cases h; exact .int i
  | .str x, _, h => by cases h; exact .str x
  | .list ds, _, h => by
    cases h with
    | lst hs ha => exact .lst (ex_l e hs) (dpA_ex e ds _ ha)
  | .tuple ds, _, h => by
    cases h with
    | tup hs ha => exact .tup (ex_t e hs) (dpA_ex e ds _ ha)
  | .dict _, _, h => by cases h
theorem dpA_ex {H H' : Hp} (e : Ex H H') : ∀ (ds : List PyData) (vs : List V), DpAll K H vs ds → DpAll K H' vs ds
  | [], _, h => by cases h; exact .nil
  | d :: ds, _, h => by
    cases h with
    | cons h1 h2 => exact .cons (dp_ex e d _ h1) (dpA_ex e ds _ h2)
end
theorem dpInts {H : Hp} : ∀ ns : List Int, DpAll K H (ns.map V.int) (ns.map PyData.int)
  | [] => .nil
  | n :: r => .cons (.int n) (dpInts r)
section
variable {σ : L2.St} {H : Hp} {ta tb te : TE}
theorem ed_v {v : V} {d : PyData} (h : Ev te σ H v) (hd : Dp K H v d) : EvD K te σ H d := ep_v h fun _ _ e e2 => dp_ex (e.trans e2) _ _ hd
theorem ed_S {ns : List Int} (h : EvS K te σ H (ns.map V.int)) : EvD K te σ H (.list (ns.map .int)) := fun H1 e Q q => h H1 e _ fun p H2 e2 hp => q _ H2 e2 (.lst hp (dpInts ns))
theorem ed_i {i : Int} (h : Ev te σ H (.int i)) : EvD K te σ H (.int i) := ed_v h (.int i)
theorem ev_eqD {d e : PyData} (ha : EvD K ta σ H d) (hb : EvD K tb σ H e) (sd : SeqAt.shaped d = true) (se : SeqAt.shaped e = true) : Ev (tOp (rEqD K) ta tb) σ H (.bl (PyData.eqv d e)) := fun H1 e1 Q q =>
  ha H1 e1 _ fun v H2 e2 hd => hb H2 (e1.trans e2) _ fun u H3 e3 he => ⟨d, e, dp_ex e3 _ _ hd, he, sd, se, q H3 (e2.trans e3)⟩
theorem ev_neD {d e : PyData} (ha : EvD K ta σ H d) (hb : EvD K tb σ H e) (sd : SeqAt.shaped d = true) (se : SeqAt.shaped e = true) : Ev (tOp (rNeD K) ta tb) σ H (.bl (!PyData.eqv d e)) := fun H1 e1 Q q =>
  ha H1 e1 _ fun v H2 e2 hd => hb H2 (e1.trans e2) _ fun u H3 e3 he => ⟨d, e, dp_ex e3 _ _ hd, he, sd, se, q H3 (e2.trans e3)⟩
end
theorem lay_ints : ∀ ns : List Int, PyData.canLayAll0 (ns.map .int) = true
  | [] => by simp [PyData.canLayAll0]
  | n :: r => by
    rw [List.map_cons]
    simp only [PyData.canLayAll0, PyData.canLay0, lay_ints r, Bool.and_self]
theorem dep_ints : ∀ ns : List Int, PyData.depthAll (ns.map .int) = 0
  | [] => by simp [PyData.depthAll]
  | n :: r => by
    rw [List.map_cons]
    simp only [PyData.depthAll, PyData.depth, dep_ints r]
    rfl
theorem sh_ints (ns : List Int) : SeqAt.shaped (.list (ns.map .int)) = true := by
  unfold SeqAt.shaped
  simp only [PyData.canLay0, PyData.depth, lay_ints, dep_ints]
  decide
theorem sh_intsT (ns : List Int) : SeqAt.shaped (.tuple (ns.map .int)) = true := by
  unfold SeqAt.shaped
  simp only [PyData.canLay0, PyData.depth, lay_ints, dep_ints]
  decide
theorem eqv_ints : ∀ ns ms : List Int, PyData.eqvAll (ns.map .int) (ms.map .int) = decide (ns = ms)
  | [], [] => by simp [PyData.eqvAll]
  | [], _ :: _ => by simp [PyData.eqvAll]
  | _ :: _, [] => by simp [PyData.eqvAll]
  | n :: r, m :: t => by
    rw [List.map_cons, List.map_cons]
    simp only [PyData.eqvAll, PyData.eqv, eqv_ints r t]
    by_cases h : n = m
    · subst h; simp
    · simp [h]
theorem eqv_li (ns ms : List Int) : PyData.eqv (.list (ns.map .int)) (.list (ms.map .int)) = decide (ns = ms) := by
  simp only [PyData.eqv]
  exact eqv_ints ns ms
theorem eqv_tu (ns ms : List Int) : PyData.eqv (.tuple (ns.map .int)) (.tuple (ms.map .int)) = decide (ns = ms) := by
  simp only [PyData.eqv]
  exact eqv_ints ns ms
/-- naturals as ints -/
def zs (ns : List Nat) : List Int := ns.map fun (n : Nat) => (n : Int)
theorem vi_map (ns : List Nat) : ns.map vi = (zs ns).map V.int := by unfold zs; rw [List.map_map]; rfl
theorem zs_inj {ns ms : List Nat} (h : zs ns = zs ms) : ns = ms := by
  have key : ∀ {a b : List Nat}, zs a = zs b → a = b := by
    intro a
    induction a with
    | nil => intro b h; cases b with
      | nil => rfl
      | cons y t => cases h
    | cons x r ih => intro b h; cases b with
      | nil => cases h
      | cons y t =>
        have h1 : (x : Int) = y ∧ zs r = zs t := by
          have e : (x : Int) :: zs r = (y : Int) :: zs t := h
          exact List.cons.inj e
        have h2 : x = y := by omega
        rw [h2, ih h1.2]
  exact key h
theorem ed_N {σ : L2.St} {H : Hp} {te : TE} {ns : List Nat} (h : EvS K te σ H (ns.map vi)) : EvD K te σ H (.list ((zs ns).map .int)) := ed_S (by rw [← vi_map]; exact h)
theorem eqv_n (ns ms : List Nat) : PyData.eqv (.list ((zs ns).map .int)) (.list ((zs ms).map .int)) = decide (ns = ms) := by
  rw [eqv_li]
  by_cases h : ns = ms
  · subst h; simp
  · rw [decide_eq_false h, decide_eq_false fun z => h (zs_inj z)]
end Sx


namespace Mth
theorem falls_ge : ∀ {a : Nat} {r : List Nat}, Falls (a :: r) → r.length ≤ a
  | _, [], _ => Nat.zero_le _
  | a, b :: r, h => by
    have h1 := falls_ge h.2
    have h2 := h.1
    show r.length + 1 ≤ a
    omega
theorem least_rank {a : Nat} {r : List Nat} (h : Falls (a :: r)) (e : a = r.length) : rank (a :: r) = 0 := by
  have h1 := rank_lt h
  have h2 : C (a + 1) (r.length + 1) = 1 := by rw [e]; exact C_self _
  rw [C_succ] at h2
  show C a (r.length + 1) + rank r = 0
  omega
theorem least_ovr {t : List Nat} (h : Falls t) (e : rank t = 0) : ovrS t = 0 := by
  have h1 := unrank_rank h
  rw [e] at h1
  have h2 := ovr0 t.length
  unfold ovr at h2
  rw [h1] at h2
  exact h2
/-- one more, the least that lacks -/
theorem ins_ex : ∀ t : List Nat, Falls t → ∃ (s : List Nat) (j : Nat), Falls s ∧ s.length = t.length + 1 ∧ j < s.length ∧ s.eraseIdx j = t ∧ rank s = ovrS t ∧ ∀ b : Nat, (∀ x r, t = x :: r → x < b) → t.length < b → ∀ y u, s = y :: u → y < b
  | [], _ => ⟨[0], 0, trivial, rfl, by decide, rfl, by decide, fun b _ h y u e => by
      have : (0 : Nat) = y := (List.cons.inj e).1
      have h' : 0 < b := h
      omega⟩
  | a :: r, h => by
    have hg := falls_ge h
    by_cases e : a = r.length
    · have h0 := least_rank h e
      refine ⟨(r.length + 1) :: a :: r, 0, ⟨by omega, h⟩, rfl, by simp, rfl, ?_, fun b _ hb y u ey => ?_⟩
      · have h1 : rank ((r.length + 1) :: a :: r) = C (r.length + 1) (r.length + 1 + 1) + rank (a :: r) := rfl
        rw [h1, h0, least_ovr h h0, C_lt (show r.length + 1 < r.length + 1 + 1 by omega)]
      · have e1 : r.length + 1 = y := (List.cons.inj ey).1
        have hb' : r.length + 1 < b := hb
        omega
    · obtain ⟨s, j, h1, h2, h3, h4, h5, h6⟩ := ins_ex r h.tail
      have hd := h6 a (fun x u er => by subst er; exact h.1) (by omega)
      refine ⟨a :: s, j + 1, ?_, by show s.length + 1 = r.length + 1 + 1; omega, by show j + 1 < s.length + 1; omega, by show a :: s.eraseIdx j = a :: r; rw [h4], ?_, fun b hb _ y u ey => ?_⟩
      · cases s with
        | nil => trivial
        | cons y u => exact ⟨hd y u rfl, h1⟩
      · show C a (s.length + 1) + rank s = C a (r.length + 2) + ovrS r
        rw [h2, h5]
      · have e1 : a = y := (List.cons.inj ey).1
        rw [← e1]
        exact hb a r rfl
/-- the numbers of the sets within the first so many -/
theorem shadow_mem {k N r : Nat} (hk : 2 ≤ k) : (∃ n, n < N ∧ ∃ j, j < k ∧ r = rank ((unrank k n).eraseIdx j)) ↔ r < und k N := by
  obtain ⟨i, rfl⟩ : ∃ i, k = i + 1 := ⟨k - 1, by omega⟩
  have g := gal i r N (by omega)
  constructor
  · rintro ⟨n, hn, j, hj, rfl⟩
    have hl : (unrank (i + 1) n).length = i + 1 := unrank_len _ _
    by_cases e : und (i + 1) N ≤ rank ((unrank (i + 1) n).eraseIdx j)
    · exfalso
      have h1 := g.mp e
      have h2 := within (unrank_falls (i + 1) n (by omega)) hl (by omega) (by rw [rank_unrank _ _ (by omega)]; exact hn) h1 (j := j) (by omega)
      omega
    · omega
  · intro h
    have h1 : ¬ N ≤ ovr i r := fun z => by have := g.mpr z; omega
    obtain ⟨s, j, hs, hl, hj, he, hr, _⟩ := ins_ex (unrank i r) (unrank_falls i r (by omega))
    rw [unrank_len] at hl
    have hr2 : rank s = ovr i r := hr
    refine ⟨rank s, by omega, j, by omega, ?_⟩
    have hu := unrank_rank hs
    rw [hl] at hu
    rw [hu, he, rank_unrank _ _ (by omega)]
theorem dropLast_mono : ∀ {s t : List Nat}, s.length = t.length → Falls s → Falls t → rank s ≤ rank t → rank s.dropLast ≤ rank t.dropLast
  | [], _, _, _, _, _ => Nat.zero_le _
  | [a], _, _, _, _, _ => Nat.zero_le _
  | a :: a2 :: r, [], e, _, _, _ => by simp at e
  | a :: a2 :: r, [b], e, _, _, _ => by simp at e
  | a :: a2 :: r, b :: b2 :: u, e, hs, ht, h => by
    have el : (a2 :: r).length = (b2 :: u).length := by simpa using e
    have h1 := rank_lt hs
    have h2 := rank_lt ht
    have h' : C a ((a2 :: r).length + 1) + rank (a2 :: r) ≤ C b ((b2 :: u).length + 1) + rank (b2 :: u) := h
    have g : ∀ x (l : List Nat) (y : Nat), rank (x :: (y :: l).dropLast) = C x ((y :: l).length) + rank (y :: l).dropLast := fun x l y => by
      show C x ((y :: l).dropLast.length + 1) + _ = _
      rw [dropLast_len]
      have : (y :: l).length - 1 + 1 = (y :: l).length := by simp
      rw [this]
    show rank (a :: (a2 :: r).dropLast) ≤ rank (b :: (b2 :: u).dropLast)
    rw [g, g]
    rw [el] at h' h1 ⊢
    by_cases c : a = b
    · subst c
      have ih := dropLast_mono el hs.tail ht.tail (by omega)
      omega
    · have c2 : a < b := by
        by_cases c3 : b < a
        · exfalso
          have h3 : C (b + 1) ((b2 :: u).length + 1) ≤ C a ((b2 :: u).length + 1) := C_mono c3
          rw [C_succ] at h3
          omega
        · omega
      have h4 : C (a + 1) ((b2 :: u).length) ≤ C b ((b2 :: u).length) := C_mono c2
      have e5 : (b2 :: u).length = u.length + 1 := rfl
      have hd : Falls (a :: (a2 :: r).dropLast) := falls_dropLast hs
      have h5 := rank_lt hd
      rw [dropLast_len, el, e5] at h5
      have e6 : u.length + 1 - 1 = u.length := by omega
      rw [e6] at h5
      rw [e5, C_succ] at h4
      rw [e5]
      omega
theorem eraseLast {s : List Nat} {k : Nat} (h : s.length = k + 1) : s.eraseIdx k = s.dropLast := by
  rw [List.eraseIdx_eq_take_drop_succ, List.drop_eq_nil_of_le (by omega), List.append_nil, List.dropLast_eq_take]
  congr 1
  omega
/-- the greatest within -/
theorem lim_iff {k n M : Nat} (hk : 1 ≤ k) : rank ((unrank (k + 1) M).dropLast) < n ↔ M < ovr k n := by
  have hl : (unrank (k + 1) M).length = k + 1 := unrank_len _ _
  have hf := unrank_falls (k + 1) M (by omega)
  have hr : rank (unrank (k + 1) M) = M := rank_unrank _ _ (by omega)
  constructor
  · intro h
    by_cases c : M < ovr k n
    · exact c
    · exfalso
      obtain ⟨g, hg⟩ : ∃ g, g = rank ((unrank (k + 1) M).dropLast) := ⟨_, rfl⟩
      rw [← hg] at h
      have h1 := ovr_mono (n := g + 1) (n' := n) hk (by omega)
      have h2 := gal k (g + 1) (M + 1) (by omega)
      have h3 : g + 1 < und (k + 1) (M + 1) := by
        by_cases z : und (k + 1) (M + 1) ≤ g + 1
        · have := h2.mp z
          omega
        · omega
      obtain ⟨n', hn', j, hj, he⟩ := (shadow_mem (by omega)).mpr h3
      have hl' : (unrank (k + 1) n').length = k + 1 := unrank_len _ _
      have hf' := unrank_falls (k + 1) n' (by omega)
      have h4 := rank_erase j hf' (by omega)
      have h5 := dropLast_mono (by rw [hl', hl]) hf' hf (by rw [hr, rank_unrank _ _ (by omega)]; omega)
      omega
  · intro h
    rw [← eraseLast hl]
    exact within hf hl hk (by rw [hr]; exact h) (Nat.le_refl _) (by omega)
theorem und_small : ∀ k : Nat, k < 5 → ∀ N : Nat, N < 40 → und k N < 64 := by decide +kernel
end Mth

set_option Elab.async false
set_option linter.all false
set_option maxRecDepth 100000
set_option maxHeartbeats 4000000
/-! what several laws want: calls on new lists, drawn states, lists of lists -/
namespace Sx
open PySem PySem.Spec PyProof.Rows L2 Evl Mth
variable {K : PySem.W.Frag} {w : World}
section
variable {σ : L2.St} {H : Hp} {ta tb te : TE}
/-- a call whose one argument is a new list -/
theorem ev_call1L {sp : Sp} {E : XK} {xs : List V} {z : V} (h : EvL te σ H xs) (hs : ∀ p H1, Ex H H1 → H1 p = some (.lst xs) → SpV sp [.ref p] H1 z) : Ev (tCall sp [] E (tCons te tNil)) σ H z := fun H1 e Q q =>
  h H1 e _ fun p H2 _ e2 hp => hs p H2 (e.trans e2) hp H2 (Ex.refl _) Q (fun H3 e3 => q H3 (e2.trans e3)) E
theorem ev_call1P {sp : Sp} {E : XK} {R : Hp → V → Hp → Prop} {z : V} (h : EvP te σ H R) (hs : ∀ v H1 H2, Ex H H1 → Ex H1 H2 → R H1 v H2 → SpV sp [v] H2 z) : Ev (tCall sp [] E (tCons te tNil)) σ H z := fun H1 e Q q =>
  h H1 e _ fun v H2 e2 hr => hs v H1 H2 e e2 hr H2 (Ex.refl _) Q (fun H3 e3 => q H3 (e2.trans e3)) E
theorem ep_call {sp : Sp} {E : XK} {ta : TA} {vs : List V} {R : Hp → V → Hp → Prop} (h : EvA ta σ H vs) (back : ∀ H0 H1 v H2, Ex H0 H1 → R H1 v H2 → R H0 v H2)
    (hs : ∀ H1, Ex H H1 → ∀ Q : VK, (∀ v H2, Ex H1 H2 → R H1 v H2 → Q v H2) → sp (vs ++ []) H1 Q E) : EvP (tCall sp [] E ta) σ H R := fun H1 e Q q =>
  h H1 e _ fun H2 e2 => hs H2 (e.trans e2) Q fun v H3 e3 hr => q v H3 (e2.trans e3) (back H1 H2 v H3 e2 hr)
theorem eo_v {i : Int} (h : Ev te σ H (.int i)) : EvO (tPart te) σ H (some i) := eo_some h
/-- a for over a list that is told by a shape -/
theorem q_forLP {g : TG} {tu tz : TS} {D : Ends} {R : Hp → V → Hp → Prop} (h : EvP te σ H R)
    (k : ∀ v H1, Ex H H1 → R H v H1 → ∃ p xs, v = .ref p ∧ SqL K H1 p xs ∧ ∃ I : Nat → L2.St → Hp → Prop, I 0 σ H1 ∧ (∀ i σ' H', I i σ' H' → SqL K H' p xs) ∧
      (∀ i x σ' H', xs[i]? = some x → I i σ' H' → g x σ' H' fun σ2 H4 => tu { D with nx := I (i + 1), ct := I (i + 1), bk := tz D } σ2 H4) ∧ ∀ σ' H', I xs.length σ' H' → tz D σ' H') : tSeq (tFor (iList K te) g tu) tz D σ H :=
  h H (Ex.refl H) _ fun v H1 e r => by
    obtain ⟨p, xs, rfl, hp, I, h0, hl, hs, hd⟩ := k v H1 e r
    exact ⟨p, rfl, ⟨xs, hp⟩, for_list (D := { D with nx := tz D }) I h0 (fun i σ' H' _ z => hl i σ' H' z) hs hd⟩
end
/-! ### drawn states -/
def lims : List Nat := [4, 30, 5000, 900000]
def tops : List Nat := [3, 5, 8, 20]
theorem lims_at : ∀ j : Nat, j < 4 → (lims.map vi)[j]? = some (vi (lims.getD j 4)) := by decide
theorem tops_at : ∀ j : Nat, j < 4 → (tops.map vi)[j]? = some (vi (tops.getD j 3)) := by decide
theorem lims_ok : ∀ j : Nat, j < 4 → 0 < lims.getD j 4 ∧ lims.getD j 4 ≤ 1000000 := by decide
theorem tops_ok : ∀ j : Nat, j < 4 → 0 < tops.getD j 3 ∧ tops.getD j 3 ≤ 20 := by decide
theorem bt_getD {ns : List Int} (h : ∀ z ∈ ns, Bt 1048576 z) (k : Nat) : Bt 1048576 (ns.getD k 0) := by
  rw [List.getD_eq_getElem?_getD]
  cases e : ns[k]? with
  | none => exact Bt.num (by decide)
  | some z => exact h z (List.mem_of_getElem? e)
/-- a pair of a size and a number -/
def Pst (H : Hp) (x : V) : Prop := ∃ T s n, x = .ref T ∧ H T = some (.tup [vi s, vi n]) ∧ 1 ≤ s ∧ s ≤ 20 ∧ Sm 140 n
theorem Pst.ex {H H' : Hp} {x : V} (h : Pst H x) (e : Ex H H') : Pst H' x := by
  obtain ⟨T, s, n, rfl, hT, r⟩ := h
  exact ⟨T, s, n, rfl, e _ _ hT, r⟩
theorem Pst.put {H : Hp} {x : V} {f : Addr} {L L' : List V} (h : Pst H x) (hf : H f = some (.lst L)) : Pst (upd H f (.lst L')) x := by
  obtain ⟨T, s, n, rfl, hT, r⟩ := h
  refine ⟨T, s, n, rfl, ?_, r⟩
  rw [upd_ne (ne_of hT hf (fun z => by cases z))]
  exact hT
def Sts (H : Hp) (v : V) (H2 : Hp) : Prop := ∃ D L, v = .ref D ∧ H D = none ∧ H2 D = some (.lst L) ∧ L.length ≤ 7 ∧ ∀ x ∈ L, Pst H2 x
def sp__law_states (K : PySem.W.Frag) : Sp := fun vs H Q _ => ∃ (a : Addr) (ns : List Int), vs = [.ref a] ∧ SqL K H a (ns.map V.int) ∧ (∀ z ∈ ns, Bt 1048576 z) ∧ ∀ v H2, Ex H H2 → Sts H v H2 → Q v H2
theorem len__law_states {vs : List V} {H : Hp} {Q : VK} {E : XK} (h : sp__law_states K vs H Q E) : vs.length = 1 := by obtain ⟨a, ns, rfl, _⟩ := h; rfl
theorem bt_mod18 (c : Int) : Bt 6840 (c % 10 ^ 18) := by
  have h1 := Int.emod_nonneg c (show (10 : Int) ^ 18 ≠ 0 by decide)
  have h2 := Int.emod_lt_of_pos c (show (0 : Int) < 10 ^ 18 by decide)
  have h3 : Bt 60 (c % 10 ^ 18) := by
    unfold Bt
    have e : (2 : Nat) ^ 60 = 1152921504606846976 := by decide
    have e2 : (10 : Int) ^ 18 = 1000000000000000000 := by decide
    rw [e2] at h1 h2 ⊢
    omega
  exact h3.up (by decide)
/-- _law_states: 0 _law_script, 1 _law_limit, 2 _law_top, 3 _law_found, 4 _law_k, 5 _law_cell -/
def t__law_states (K : PySem.W.Frag) (w : World) : TS := tSeq (tAsg (tOp (rIxT K) (tTup (tCons (tC (.int 4)) (tCons (tC (.int 30)) (tCons (tC (.int 5000)) (tCons (tC (.int 900000)) tNil))))) (tCall (sp__law_draw K) [] E0 (tCons (tCall (sp__law_cell_at K) [] E0 (tCons (tVar 0) (tCons (tC (.int 0)) tNil))) (tCons (tC (.int 7)) (tCons (tC (.int 4)) tNil))))) (gName 1)) (tSeq (tAsg (tOp (rIxT K) (tTup (tCons (tC (.int 3)) (tCons (tC (.int 5)) (tCons (tC (.int 8)) (tCons (tC (.int 20)) tNil))))) (tCall (sp__law_draw K) [] E0 (tCons (tCall (sp__law_cell_at K) [] E0 (tCons (tVar 0) (tCons (tC (.int 1)) tNil))) (tCons (tC (.int 6)) (tCons (tC (.int 4)) tNil))))) (gName 2)) (tSeq (tAsg (tLst tNil) (gName 3)) (tSeq (tFor (iEnum K (tCons (tSl (rSlL K) (tVar 0) tNoPart (tPart (tIf (tTest (tOp oLt (tVar 2) (tC (.int 8)))) (tC (.int 7)) (tC (.int 2))))) tNil)) (gTup K 2 (gCons (gName 4) (gCons (gName 5) gNil))) (tDrop (tBM K "list" rAppend (tVar 3) (tCons (tTup (tCons (tOp oAdd (tC (.int 1)) (tCall (sp__law_draw K) [] E0 (tCons (tOp oAdd (tOp oMod (tVar 5) (tOp oPow (tC (.int 10)) (tC (.int 18)))) (tOp oMul (tC (.int 977)) (tVar 4))) (tCons (tC (.int 4)) (tCons (tVar 2) tNil))))) (tCons (tCall (sp__law_value K) [] E0 (tCons (tVar 5) (tCons (tVar 4) (tCons (tVar 1) tNil)))) tNil))) tNil)))) (tRet (tVar 3)))))
theorem pure__law_states {vs : List V} {H : Hp} {Q : VK} {E : XK} (h : sp__law_states K vs H Q E) : t__law_states K w { nx := fun _ H' => Q .non H', rt := Q } (start ["_law_script", "_law_limit", "_law_top", "_law_found", "_law_k", "_law_cell"] vs) H := by
  obtain ⟨a, ns, rfl, ha, hns, q⟩ := h
  show t__law_states K w _ [some (.ref a), none, none, none, none, none] H
  have b0 := (bt_getD hns 0).up (show 1048576 ≤ 10000000 by omega)
  have b1 := (bt_getD hns 1).up (show 1048576 ≤ 10000000 by omega)
  have d0 : drawF (ns.getD 0 0) 7 4 < 4 := drawF_lt (by omega)
  have d1 : drawF (ns.getD 1 0) 6 4 < 4 := drawF_lt (by omega)
  obtain ⟨lim, hlim⟩ : ∃ lim, lim = lims.getD (drawF (ns.getD 0 0) 7 4) 4 := ⟨_, rfl⟩
  obtain ⟨top, htop⟩ : ∃ top, top = tops.getD (drawF (ns.getD 1 0) 6 4) 3 := ⟨_, rfl⟩
  have ol := lims_ok _ d0
  have ot := tops_ok _ d1
  rw [← hlim] at ol
  rw [← htop] at ot
  refine q_asg (v := vi lim) (ev_ixU (i := (drawF (ns.getD 0 0) 7 4 : Nat)) (eu_tup (vs := lims.map vi) (ea_cons ev_c (ea_cons ev_c (ea_cons ev_c (ea_cons ev_c ea_nil)))) (by decide)) (ev_call (vs := [.int (ns.getD 0 0), vi 7, vi 4]) (ea_cons (ev_call (vs := [.ref a, vi 0]) (ea_cons (ev_var rfl) (ea_cons ev_c ea_nil)) (v_cell ha)) (ea_cons ev_c (ea_cons ev_c ea_nil))) (v_draw b0 (by omega) (by omega))) (by rw [hlim]; exact atI_nat (lims_at _ d0))) fun H1 e1 => ?_
  refine q_asg (v := vi top) (ev_ixU (i := (drawF (ns.getD 1 0) 6 4 : Nat)) (eu_tup (vs := tops.map vi) (ea_cons ev_c (ea_cons ev_c (ea_cons ev_c (ea_cons ev_c ea_nil)))) (by decide)) (ev_call (vs := [.int (ns.getD 1 0), vi 6, vi 4]) (ea_cons (ev_call (vs := [.ref a, vi 1]) (ea_cons (ev_var rfl) (ea_cons ev_c ea_nil)) (v_cell (ex_l e1 ha))) (ea_cons ev_c (ea_cons ev_c ea_nil))) (v_draw b1 (by omega) (by omega))) (by rw [htop]; exact atI_nat (tops_at _ d1))) fun H2 e2 => ?_
  refine q_asgL (el_lst ea_nil (by decide)) fun f H3 nf e3 hf => ?_
  have e123 := e1.trans (e2.trans e3)
  have nf0 : H f = none := fresh_back (e1.trans e2) nf
  obtain ⟨cN, hcN⟩ : ∃ cN : Nat, cN = if top < 8 then 7 else 2 := ⟨_, rfl⟩
  have hcN7 : cN ≤ 7 := by rw [hcN]; split <;> omega
  have hsl : EvL (tSl (rSlL K) (tVar 0) tNoPart (tPart (tIf (tTest (tOp oLt (tVar 2) (tC (.int 8)))) (tC (.int 7)) (tC (.int 2))))) [some (.ref a), some (vi lim), some (vi top), some (.ref f), none, none] H3 ((ns.map V.int).take cN) := by
    refine el_is (el_slS (es_v (ev_var rfl) (ex_l e123 ha)) eo_none (eo_some (i := (cN : Int)) (ev_if (et_test (ev_lt (ev_var rfl) ev_c)) (fun hb => ?_) fun hb => ?_))) (cut_to _ cN)
    · have hb' := of_decide_eq_true hb
      rw [hcN, if_pos (by omega)]
      exact ev_c
    · have hb' := of_decide_eq_false hb
      rw [hcN, if_neg (by omega)]
      exact ev_c
  refine q_forN (ei_enumN hsl) (fun H4 i σ H5 => ∃ (L : List V) (x y : Option V), Chg H4 f (.lst L) H5 ∧ σ = [some (.ref a), some (vi lim), some (vi top), some (.ref f), x, y] ∧ L.length = i ∧ ∀ x ∈ L, Pst H5 x)
    (fun H4 e4 => ⟨[], none, none, Chg.refl (e4 _ _ hf), rfl, rfl, fun x hx => by cases hx⟩) (fun H4 i σ H5 e4 p o u ho h2 => ?_) (fun H4 i x σ H5 H6 e4 hi p hy => ?_) fun H4 σ H5 e4 p => ?_
  · obtain ⟨L, x, y, c, _⟩ := p
    exact c.2 o u (fun h => by subst h; rw [hf] at ho; cases ho) h2
  · obtain ⟨L, x0, y0, c, rfl, hL, hP⟩ := p
    obtain ⟨T, u, v, rfl, nT, rfl, hu, hv⟩ := hy
    cases hu
    have hi7 : i < 7 := by
      rw [List.length_take] at hi
      omega
    have hv2 : (ns.map V.int)[i]? = some v := by
      have hv : ((ns.map V.int).take cN)[i]? = some v := hv
      rw [List.getElem?_take] at hv
      split at hv
      · exact hv
      · cases hv
    rw [List.getElem?_map] at hv2
    obtain ⟨cl, hcl, rfl⟩ : ∃ cl, ns[i]? = some cl ∧ v = .int cl := by
      cases e : ns[i]? with
      | none => rw [e] at hv2; cases hv2
      | some cl => rw [e] at hv2; exact ⟨cl, rfl, (Option.some.inj hv2).symm⟩
    have bcl := hns cl (List.mem_of_getElem? hcl)
    refine g_pair (st_of upd_same) ?_
    have c6 := c.ex (Ex.new (o := .tup [.int (i : Nat), .int cl]) nT)
    have e56 : Ex H5 (upd H5 T (.tup [.int (i : Nat), .int cl])) := Ex.new nT
    have dd : drawF (cl % 10 ^ 18 + 977 * i) 4 top < top := drawF_lt (by omega)
    have bb : Bt 10000000 (cl % 10 ^ 18 + 977 * (i : Int)) := ((bt_mod18 cl).add (Bt.num (b := 6840) (i := 977 * (i : Int)) (by omega))).up (by omega)
    refine s_appU (ys := [vi (1 + drawF (cl % 10 ^ 18 + 977 * i) 4 top), vi (valF cl i lim)]) c6.1 (ev_var rfl)
      (eu_tup (ea_cons (ev_is (ev_add ev_c (ev_call (vs := [.int (cl % 10 ^ 18 + 977 * i), vi 4, vi top]) (ea_cons (ev_add (ev_mod (ev_var rfl) (ev_pow ev_c ev_c pow18) (by decide)) (ev_mul ev_c (ev_var rfl) (Bt.cmul (Bt.num (b := 977) (by decide)) (Bt.num (b := 100) (by omega)) (by omega)))) (ea_cons ev_c (ea_cons (ev_var rfl) ea_nil))) (v_draw bb (by omega) (by omega)))) rfl)
        (ea_cons (ev_call (vs := [.int cl, vi i, vi lim]) (ea_cons (ev_var rfl) (ea_cons (ev_var rfl) (ea_cons (ev_var rfl) ea_nil))) (v_value bcl (by omega) ol.1 ol.2)) ea_nil)) (show 2 ≤ 100000 by omega)) (by omega) fun p H7 np e7 hp => ?_
    have c7 := (c6.ex e7)
    refine ⟨L ++ [.ref p], _, _, c7.put, rfl, by rw [List.length_append, hL]; rfl, fun x hx => ?_⟩
    rcases List.mem_append.mp hx with hx | hx
    · exact ((hP x hx).ex (e56.trans e7)).put c7.1
    · have ex : x = .ref p := by simpa using hx
      subst ex
      exact Pst.put ⟨p, _, _, rfl, hp, by omega, by omega, valF_sm ol.1 ol.2⟩ c7.1
  · obtain ⟨L, x0, y0, c, rfl, hL, hP⟩ := p
    refine s_ret (ev_var rfl) fun H6 e6 => q _ H6 ((c.ex e6).over (e123.trans e4) nf0) ⟨f, L, rfl, nf0, (c.ex e6).1, ?_, fun x hx => (hP x hx).ex e6⟩
    rw [hL, List.length_take]
    omega
/-! ### data: lists of lists -/
def dl (ns : List Nat) : PyData := .list ((zs ns).map .int)
theorem lay_dls : ∀ L : List (List Nat), PyData.canLayAll0 (L.map dl) = true
  | [] => by simp [PyData.canLayAll0]
  | n :: r => by
    rw [List.map_cons]
    simp only [PyData.canLayAll0, dl, PyData.canLay0, lay_ints, lay_dls r, Bool.and_self]
theorem dep_dls : ∀ L : List (List Nat), PyData.depthAll (L.map dl) ≤ 1
  | [] => by simp [PyData.depthAll]
  | n :: r => by
    have ih := dep_dls r
    rw [List.map_cons]
    simp only [PyData.depthAll, dl, PyData.depth, dep_ints]
    show max (0 + 1) (PyData.depthAll (r.map dl)) ≤ 1
    omega
theorem sh_dls (L : List (List Nat)) : SeqAt.shaped (.list (L.map dl)) = true := by
  have h := dep_dls L
  unfold SeqAt.shaped
  simp only [PyData.canLay0, PyData.depth, lay_dls, Bool.true_and]
  exact decide_eq_true (by omega)
theorem eqv_dls : ∀ L : List (List Nat), PyData.eqvAll (L.map dl) (L.map dl) = true
  | [] => by simp [PyData.eqvAll]
  | n :: r => by
    rw [List.map_cons]
    simp only [PyData.eqvAll, dl]
    rw [eqv_li, decide_eq_true rfl, eqv_dls r]
    rfl
theorem eqv_dl2 (L : List (List Nat)) : PyData.eqv (.list (L.map dl)) (.list (L.map dl)) = true := by
  simp only [PyData.eqv]
  exact eqv_dls L
theorem dp_n {H : Hp} {p : Addr} {ns : List Nat} (h : SqL K H p (ns.map vi)) : Dp K H (.ref p) (dl ns) := by
  rw [vi_map] at h
  exact .lst h (dpInts _)
/-- the values xs are lists that read as f 0, f 1, .. -/
theorem dpA_at {H : Hp} : ∀ {xs : List V} {L : List (List Nat)}, xs.length = L.length → (∀ (i : Nat) (x : V) (l : List Nat), xs[i]? = some x → L[i]? = some l → Dp K H x (dl l)) → DpAll K H xs (L.map dl)
  | [], [], _, _ => .nil
  | [], _ :: _, h, _ => by simp at h
  | _ :: _, [], h, _ => by simp at h
  | x :: xs, l :: L, h, k => .cons (k 0 x l rfl rfl) (dpA_at (by simpa using h) fun i y m h1 h2 => k (i + 1) y m (by simpa using h1) (by simpa using h2))
/-- the sets within, as lists -/
def bts (ns : List Nat) : List (List Nat) := (List.range ns.length).map fun i => ns.eraseIdx i
theorem bth_dp {ns : List Nat} {H : Hp} {v : V} {H2 : Hp} (h : Bth ns H v H2) : Dp K H2 v (.list ((bts ns).map dl)) := by
  obtain ⟨D, L, rfl, _, hD, hl, hx⟩ := h
  refine .lst (sq_of hD) (dpA_at (by rw [hl]; unfold bts; rw [List.length_map, List.length_range]) fun i x l h1 h2 => ?_)
  obtain ⟨p, rfl, _, hp⟩ := hx i x h1
  have e : l = ns.eraseIdx i := by
    unfold bts at h2
    rw [List.getElem?_map] at h2
    have hi : i < ns.length := by
      have := (List.getElem?_eq_some_iff.mp h1).1
      omega
    rw [List.getElem?_range hi] at h2
    exact (Option.some.inj h2).symm
  subst e
  exact dp_n (sq_of hp)
theorem v_beneath {H : Hp} {p : Addr} {ns : List Nat} (hp : SqL K H p (ns.map vi)) (hl : ns.length ≤ 20) (hf : Falls ns) {σ : L2.St} {te : TE} (h : Ev te σ H (.ref p)) : EvP (tCall (sp_beneath K) [] E0 (tCons te tNil)) σ H (Bth ns) :=
  ep_call (vs := [.ref p]) (ea_cons h ea_nil) (fun H0 H1 v H2 e r => r.back e) fun H1 e Q q => ⟨p, ns, rfl, ex_l e hp, hl, hf, q⟩
section
variable {σ : L2.St} {H : Hp} {ta tb te : TE} {t : TT}
theorem ep_if {R : Hp → V → Hp → Prop} {b : Bool} (h : EvT t σ H b) (back : ∀ H0 H1 v H2, Ex H0 H1 → R H1 v H2 → R H0 v H2) (h1 : b = true → EvP ta σ H R) (h2 : b = false → EvP tb σ H R) : EvP (tIf t ta tb) σ H R := fun H1 e Q q => h H1 e _ fun H2 e2 => by
  cases b with
  | true => exact iteT (h1 rfl H2 (e.trans e2) Q fun v H3 e3 r => q v H3 (e2.trans e3) (back _ _ _ _ e2 r))
  | false => exact iteF (h2 rfl H2 (e.trans e2) Q fun v H3 e3 r => q v H3 (e2.trans e3) (back _ _ _ _ e2 r))
theorem ep_call1L {sp : Sp} {E : XK} {xs : List V} {R : Hp → V → Hp → Prop} (h : EvL te σ H xs) (back : ∀ H0 H1 v H2, Ex H0 H1 → R H1 v H2 → R H0 v H2)
    (hs : ∀ p H1, Ex H H1 → H1 p = some (.lst xs) → ∀ Q : VK, (∀ v H2, Ex H1 H2 → R H1 v H2 → Q v H2) → sp ([.ref p] ++ []) H1 Q E) : EvP (tCall sp [] E (tCons te tNil)) σ H R := fun H1 e Q q =>
  h H1 e _ fun p H2 _ e2 hp => hs p H2 (e.trans e2) hp Q fun v H3 e3 hr => q v H3 (e2.trans e3) (back H1 H2 v H3 e2 hr)
end
theorem Sts.back {H H1 : Hp} {v : V} {H2 : Hp} (e : Ex H H1) (h : Sts H1 v H2) : Sts H v H2 := by
  obtain ⟨D, L, rfl, n0, r⟩ := h
  exact ⟨D, L, rfl, fresh_back e n0, r⟩
theorem el_N {σ : L2.St} {H : Hp} {te : TE} {n : Nat} {f : Nat → Nat} (h : EvL te σ H ((List.range n).map fun i => vi (f i))) : EvL te σ H (((List.range n).map f).map vi) := by
  rw [List.map_map]
  exact h
theorem s_forLP {K : PySem.W.Frag} {σ : L2.St} {H : Hp} {te : TE} {g : TG} {tu : TS} {D : Ends} {R : Hp → V → Hp → Prop} (h : EvP te σ H R)
    (k : ∀ v H1, Ex H H1 → R H v H1 → ∃ p xs, v = .ref p ∧ SqL K H1 p xs ∧ ∃ I : Nat → L2.St → Hp → Prop, I 0 σ H1 ∧ (∀ i σ' H', I i σ' H' → SqL K H' p xs) ∧
      (∀ i x σ' H', xs[i]? = some x → I i σ' H' → g x σ' H' fun σ2 H4 => tu { D with nx := I (i + 1), ct := I (i + 1), bk := D.nx } σ2 H4) ∧ ∀ σ' H', I xs.length σ' H' → D.nx σ' H') : tFor (iList K te) g tu D σ H :=
  h H (Ex.refl H) _ fun v H1 e r => by
    obtain ⟨p, xs, rfl, hp, I, h0, hl, hs, hd⟩ := k v H1 e r
    exact ⟨p, rfl, ⟨xs, hp⟩, for_list (D := D) I h0 (fun i σ' H' _ z => hl i σ' H' z) hs hd⟩
theorem q_parL {σ : L2.St} {H : Hp} {ta tb : TE} {tz : TS} {D : Ends} {i j : Nat} {xs : List V} {w : V} (h : EvL ta σ H xs) (h2 : ∀ H1, Ex H H1 → Ev tb σ H1 w)
    (k : ∀ p H1, H p = none → Ex H H1 → H1 p = some (.lst xs) → tz D ((σ.set i (some (.ref p))).set j (some w)) H1) : tSeq (tPar i j (tCons ta (tCons tb tNil))) tz D σ H :=
  h H (Ex.refl _) _ fun p H1 n e hp => h2 H1 e H1 (Ex.refl _) _ fun H2 e2 => ⟨.ref p, w, rfl, k p H2 n (e.trans e2) (e2 _ _ hp)⟩
/-! ### the laws' own sets by numbers, and counts -/
abbrev sp__law_set (K : PySem.W.Frag) : Sp := sp_told_by K
theorem len__law_set {vs : List V} {H : Hp} {Q : VK} {E : XK} (h : sp__law_set K vs H Q E) : vs.length = 2 := len_told_by h
/-- _law_set: 0 _law_size, 1 _law_number, 2 _law_found, 3 _law_left, 4 _law_rest, 5 _law_low, 6 _law_step -/
def t__law_set (K : PySem.W.Frag) (w : World) : TS := tSeq (tPar 2 3 (tCons (tLst tNil) (tCons (tVar 1) tNil))) (tSeq (tFor (iRng3 (tCons (tVar 0) (tCons (tC (.int 0)) (tCons (tUn oNeg (tC (.int 1))) tNil)))) (gName 4) (tSeq (tPar 5 6 (tCons (tOp oSub (tVar 4) (tC (.int 1))) (tCons (tC (.int 1)) tNil))) (tSeq (tWhile (tTest (tOp oLe (tCall (sp_picks K) [] E0 (tCons (tOp oAdd (tVar 5) (tVar 6)) (tCons (tVar 4) tNil))) (tVar 3))) (tAsg (tOp oMul (tC (.int 2)) (tVar 6)) (gName 6))) (tSeq (tWhile (tTest (tOp oGt (tVar 6) (tC (.int 0)))) (tSeq (tIfS (tTest (tOp oLe (tCall (sp_picks K) [] E0 (tCons (tOp oAdd (tVar 5) (tVar 6)) (tCons (tVar 4) tNil))) (tVar 3))) (tAsg (tOp oAdd (tVar 5) (tVar 6)) (gName 5)) tNext) (tAsg (tOp oDiv (tVar 6) (tC (.int 2))) (gName 6)))) (tSeq (tDrop (tBM K "list" rAppend (tVar 2) (tCons (tVar 5) tNil))) (tAsg (tOp oSub (tVar 3) (tCall (sp_picks K) [] E0 (tCons (tVar 5) (tCons (tVar 4) tNil)))) (gName 3))))))) (tRet (tVar 2)))
theorem pure__law_set {vs : List V} {H : Hp} {Q : VK} {E : XK} (h : sp__law_set K vs H Q E) : t__law_set K w { nx := fun _ H' => Q .non H', rt := Q } (start ["_law_size", "_law_number", "_law_found", "_law_left", "_law_rest", "_law_low", "_law_step"] vs) H := by
  obtain ⟨k, n, rfl, hk, hn, q⟩ := h
  show t__law_set K w _ [some (vi k), some (vi n), none, none, none, none, none] H
  refine q_parL (el_lst ea_nil (by decide)) (fun H1 e1 => ev_var rfl) fun f H1 nf e1 hf => ?_
  show tSeq _ _ _ [some (vi k), some (vi n), some (.ref f), some (vi n), none, none, none] H1
  refine q_forN (ei_rngD (ev_var rfl) ev_c (ev_neg ev_c) (by omega) (by omega)) (fun H2 i σ H3 => ∃ (L : List Nat) (r : Nat) (x y z : Option V), Chg H2 f (.lst (L.map vi)) H3 ∧ σ = [some (vi k), some (vi n), some (.ref f), some (vi r), x, y, z] ∧ r ≤ n ∧ L.length = i ∧ L ++ unrank (k - i) r = unrank k n)
    (fun H2 e2 => ⟨[], n, none, none, none, Chg.refl (e2 _ _ hf), rfl, Nat.le_refl _, rfl, rfl⟩) (fun H2 i σ H3 e2 p a o ha h2 => ?_) (fun H2 i x σ H3 H4 e2 hi p y => ?_) fun H2 σ H3 e2 p => ?_
  · obtain ⟨L, r, x, y, z, c, _⟩ := p
    exact c.2 a o (fun h => by subst h; rw [hf] at ha; cases ha) h2
  · obtain ⟨L, r, x0, y0, z0, c, rfl, hr, hl, hu⟩ := p
    obtain ⟨rfl, rfl⟩ := y
    obtain ⟨j, hj⟩ : ∃ j, k - i = j + 1 := ⟨k - i - 1, by omega⟩
    have hjv : ((k : Int) - (i : Int)) = ((j + 1 : Nat) : Int) := by omega
    have hsr : Sm 1000000 r := hn.le hr
    have hj20 : j + 1 ≤ 20 := by omega
    have smb : ∀ m : Nat, m ≤ j + 1 + (4 * r + 4) → Sm 2000000 m := fun m hm => by
      have a1 : Sm 1000001 (r + r) := hsr.add hsr
      have a2 : Sm 1000002 (r + r + (r + r)) := a1.add a1
      exact ((a2.add (Sm.num (b := 1000002) (n := 25) (by omega))).le (by omega)).up (by omega)
    rw [hj] at hu
    dsimp only
    rw [hjv]
    -- the row of steps
    refine q_par (v := vi j) (w := vi 1) (ea_cons (ev_is (ev_sub (ev_var rfl) ev_c) (by show V.int _ = V.int _; congr 1; omega)) (ea_cons ev_c ea_nil)) fun H5 e5 => ?_
    have c5 := c.ex e5
    refine q_while (fun m σ H6 => Ex H5 H6 ∧ ∃ t : Nat, σ = [some (vi k), some (vi n), some (.ref f), some (vi r), some (vi (j + 1)), some (vi j), some (vi (2 ^ t))] ∧ 2 ^ t ≤ 2 * r + 1 ∧ m = 2 * r + 2 - 2 ^ t) (2 * r + 2 - 2 ^ 0)
      ⟨Ex.refl _, 0, rfl, by omega, rfl⟩ fun m σ H6 hW => ?_
    obtain ⟨e6, t, rfl, ht, hm⟩ := hW
    have hpos : 0 < 2 ^ t := Nat.pow_pos (by omega)
    have cC : Ev (tCall (sp_picks K) [] E0 (tCons (tOp oAdd (tVar 5) (tVar 6)) (tCons (tVar 4) tNil))) [some (vi k), some (vi n), some (.ref f), some (vi r), some (vi (j + 1)), some (vi j), some (vi (2 ^ t))] H6 (vi (C (j + 2 ^ t) (j + 1))) :=
      ev_call (vs := [vi (j + 2 ^ t), vi (j + 1)]) (ea_cons (ev_is (ev_add (ev_var rfl) (ev_var rfl)) rfl) (ea_cons (ev_var rfl) ea_nil)) (v_picks (by omega) (smb _ (by omega)))
    refine ⟨_, et_test (ev_le cC (ev_var rfl)), fun hb H7 e7 => ?_, fun hb H7 e7 => ?_⟩
    · have hc : C (j + 2 ^ t) (j + 1) ≤ r := by have := of_decide_eq_true hb; omega
      have hg := C_ge (n := j + 2 ^ t) (k := j + 1) (by omega) (by omega)
      refine ⟨fun σ H8 => Ex H5 H8 ∧ σ = [some (vi k), some (vi n), some (.ref f), some (vi r), some (vi (j + 1)), some (vi j), some (vi (2 ^ (t + 1)))], fun σ2 H8 h => ?_, s_asg (ev_is (ev_mul ev_c (ev_var rfl) (mul_sm (a := 2) (b := 2000000) (m := 2) (Sm.num (by omega)) (smb _ (by omega)) (by omega))) ?_) fun H8 e8 => ⟨e6.trans (e7.trans e8), rfl⟩⟩
      · obtain ⟨e8, rfl⟩ := h
        have hp2 : 2 ^ (t + 1) = 2 * 2 ^ t := by rw [Nat.pow_succ]; omega
        exact ⟨2 * r + 2 - 2 ^ (t + 1), by omega, e8, t + 1, rfl, by omega, rfl⟩
      · show V.int (2 * ((2 ^ t : Nat) : Int)) = V.int ((2 ^ (t + 1) : Nat) : Int)
        congr 1
        have hp2 : 2 ^ (t + 1) = 2 * 2 ^ t := by rw [Nat.pow_succ]; omega
        rw [hp2]
        omega
    · have hc : r < C (j + 2 ^ t) (j + 1) := by have := of_decide_eq_false hb; omega
      refine q_while (fun m σ H8 => Ex H5 H8 ∧ ∃ lo st : Nat, σ = [some (vi k), some (vi n), some (.ref f), some (vi r), some (vi (j + 1)), some (vi lo), some (vi st)] ∧ j ≤ lo ∧ C lo (j + 1) ≤ r ∧ ((st = 0 ∧ r < C (lo + 1) (j + 1)) ∨ ∃ u, st = 2 ^ u ∧ r < C (lo + 2 * 2 ^ u) (j + 1)) ∧ lo + 2 * st ≤ j + (4 * r + 4) ∧ m = st) (2 ^ t)
        ⟨e6.trans e7, j, 2 ^ t, rfl, Nat.le_refl _, by rw [C_lt (by omega)]; omega, .inr ⟨t, rfl, Nat.lt_of_lt_of_le hc (C_mono (by omega))⟩, by omega, rfl⟩ fun m2 σ H8 hW => ?_
      obtain ⟨e8, lo, st, rfl, h1, h2, h3, h4, h5⟩ := hW
      refine ⟨_, et_test (ev_gt (ev_var rfl) ev_c), fun hb H9 e9 => ?_, fun hb H9 e9 => ?_⟩
      · have hst : 0 < st := by have := of_decide_eq_true hb; omega
        obtain ⟨u, rfl, hu3⟩ : ∃ u, st = 2 ^ u ∧ r < C (lo + 2 * 2 ^ u) (j + 1) := by
          rcases h3 with ⟨z, _⟩ | h3
          · omega
          · exact h3
        have hpw : 0 < 2 ^ u := Nat.pow_pos (by omega)
        refine ⟨fun σ H10 => Ex H5 H10 ∧ ∃ lo2 : Nat, σ = [some (vi k), some (vi n), some (.ref f), some (vi r), some (vi (j + 1)), some (vi lo2), some (vi (2 ^ u / 2))] ∧ j ≤ lo2 ∧ C lo2 (j + 1) ≤ r ∧ r < C (lo2 + 2 ^ u) (j + 1) ∧ lo2 + 2 ^ u ≤ j + (4 * r + 4), fun σ2 H10 h => ?_, ?_⟩
        · obtain ⟨e10, lo2, rfl, a1, a2, a3, a4⟩ := h
          refine ⟨2 ^ u / 2, by omega, e10, lo2, 2 ^ u / 2, rfl, a1, a2, ?_, by omega, rfl⟩
          cases u with
          | zero => exact .inl ⟨rfl, a3⟩
          | succ v =>
            have e2 : 2 ^ (v + 1) / 2 = 2 ^ v := by rw [Nat.pow_succ]; omega
            refine .inr ⟨v, e2, ?_⟩
            have e3 : 2 * 2 ^ v = 2 ^ (v + 1) := by rw [Nat.pow_succ]; omega
            rw [e3]
            exact a3
        · refine q_cutN (M := fun σ H10 => Ex H5 H10 ∧ ∃ lo2 : Nat, σ = [some (vi k), some (vi n), some (.ref f), some (vi r), some (vi (j + 1)), some (vi lo2), some (vi (2 ^ u))] ∧ j ≤ lo2 ∧ C lo2 (j + 1) ≤ r ∧ r < C (lo2 + 2 ^ u) (j + 1) ∧ lo2 + 2 ^ u ≤ j + (4 * r + 4)) ?_ ?_
          · refine fun D z1 z2 => s_when (et_test (ev_le (ev_call (vs := [vi (lo + 2 ^ u), vi (j + 1)]) (ea_cons (ev_is (ev_add (ev_var rfl) (ev_var rfl)) rfl) (ea_cons (ev_var rfl) ea_nil)) (v_picks (by omega) (smb _ (by omega)))) (ev_var rfl))) (fun hb2 H10 e10 => ?_) fun hb2 H10 e10 => ?_
            · have hc2 : C (lo + 2 ^ u) (j + 1) ≤ r := by have := of_decide_eq_true hb2; omega
              refine s_asg (v := vi (lo + 2 ^ u)) (ev_is (ev_add (ev_var rfl) (ev_var rfl)) rfl) fun H11 e11 => z2 _ _ ⟨e8.trans (e9.trans (e10.trans e11)), lo + 2 ^ u, rfl, by omega, hc2, ?_, by omega⟩
              have e4 : lo + 2 ^ u + 2 ^ u = lo + 2 * 2 ^ u := by omega
              rw [e4]
              exact hu3
            · have hc2 : r < C (lo + 2 ^ u) (j + 1) := by have := of_decide_eq_false hb2; omega
              exact z2 _ _ ⟨e8.trans (e9.trans e10), lo, rfl, h1, h2, hc2, by omega⟩
          · rintro σ2 H10 ⟨e10, lo2, rfl, a1, a2, a3, a4⟩
            exact s_asg (ev_is (ev_div (ev_var rfl) ev_c ⟨by decide, by decide⟩) rfl) fun H11 e11 => ⟨e10.trans e11, lo2, rfl, a1, a2, a3, a4⟩
      · have hst : st = 0 := by have := of_decide_eq_false hb; omega
        have hlt : r < C (lo + 1) (j + 1) := by
          rcases h3 with ⟨_, z⟩ | ⟨u, z, _⟩
          · exact z
          · have : 0 < 2 ^ u := Nat.pow_pos (by omega)
            omega
        have htop : top (j + 1) r = lo := top_is (by omega) ⟨h2, hlt⟩
        have e59 := e8.trans e9
        have c9 := c5.ex e59
        refine q_app c9.1 (ev_var rfl) (ev_var rfl) (by rw [List.length_map]; omega) fun H10 e10 => ?_
        have c10 := (c9.ex e10).put (o' := .lst (L.map vi ++ [vi lo]))
        refine s_asg (v := vi (r - C lo (j + 1))) (ev_is (ev_sub (ev_var rfl) (ev_call (vs := [vi lo, vi (j + 1)]) (ea_cons (ev_var rfl) (ea_cons (ev_var rfl) ea_nil)) (v_picks (by omega) (smb _ (by omega))))) ?_) fun H11 e11 => ?_
        · show V.int _ = V.int _
          congr 1
          omega
        · refine ⟨L ++ [lo], r - C lo (j + 1), _, _, _, ?_, rfl, by omega, by rw [List.length_append, hl]; rfl, ?_⟩
          · rw [List.map_append]
            exact c10.ex e11
          · have e : k - (i + 1) = j := by omega
            rw [e, List.append_assoc, ← hu]
            show L ++ (lo :: unrank j (r - C lo (j + 1))) = L ++ (top (j + 1) r :: unrank j (r - C (top (j + 1) r) (j + 1)))
            rw [htop]
  · obtain ⟨L, r, x0, y0, z0, c, rfl, hr, hl, hu⟩ := p
    have e0 : k - ((k : Int) - 0).toNat = 0 := by omega
    rw [e0] at hu
    have hL : L = unrank k n := by rw [← hu]; exact (List.append_nil L).symm
    refine s_ret (ev_var rfl) fun H4 e4 => q f H4 nf ((c.ex e4).over (e1.trans e2) nf) ?_
    rw [← hL]
    exact (c.ex e4).1
abbrev sp__law_moved (K : PySem.W.Frag) : Sp := sp_moved K
theorem len__law_moved {vs : List V} {H : Hp} {Q : VK} {E : XK} (h : sp__law_moved K vs H Q E) : vs.length = 3 := len_moved h
/-- _law_moved: 0 _law_size, 1 _law_number, 2 _law_by, 3 _law_found, 4 _law_at, 5 _law_one -/
def t__law_moved (K : PySem.W.Frag) (w : World) : TS := tSeq (tAsg (tC (.int 0)) (gName 3)) (tSeq (tFor (iEnum K (tCons (tCall (sp__law_set K) [] E0 (tCons (tVar 0) (tCons (tVar 1) tNil))) tNil)) (gTup K 2 (gCons (gName 4) (gCons (gName 5) gNil))) (tIfS (tTest (tOp oGe (tVar 5) (tOp oSub (tVar 0) (tVar 4)))) (tAsg (tOp oAdd (tVar 3) (tCall (sp_picks K) [] E0 (tCons (tVar 5) (tCons (tOp oAdd (tOp oSub (tVar 0) (tVar 4)) (tVar 2)) tNil)))) (gName 3)) tNext)) (tRet (tVar 3)))
theorem pure__law_moved {vs : List V} {H : Hp} {Q : VK} {E : XK} (h : sp__law_moved K vs H Q E) : t__law_moved K w { nx := fun _ H' => Q .non H', rt := Q } (start ["_law_size", "_law_number", "_law_by", "_law_found", "_law_at", "_law_one"] vs) H := by
  obtain ⟨k, n, d, rfl, hd, hk, hkd, hn, q⟩ := h
  show t__law_moved K w _ [some (vi k), some (vi n), some (.int ((d : Int) - 1)), none, none, none] H
  refine q_asg (v := vi 0) ev_c fun H1 e1 => ?_
  have hlen : (unrank k n).length = k := unrank_len k n
  refine q_forN (ei_enumN (el_call (sp := sp__law_set K) (ea_cons (ev_var rfl) (ea_cons (ev_var rfl) ea_nil)) (v_told_by hk hn)))
    (fun H2 i σ H3 => Ex H2 H3 ∧ ∃ (f : Nat) (x y : Option V), σ = [some (vi k), some (vi n), some (.int ((d : Int) - 1)), some (vi f), x, y] ∧ f + mov d ((unrank k n).drop i) = mov d (unrank k n))
    (fun H2 e2 => ⟨Ex.refl _, 0, none, none, rfl, by rw [List.drop_zero, Nat.zero_add]⟩) (fun H2 i σ H3 e2 p a o _ h2 => p.1 a o h2) (fun H2 i x σ H3 H4 e2 hi p hy => ?_) fun H2 σ H3 e2 p => ?_
  · obtain ⟨e3, f, x0, y0, rfl, hf⟩ := p
    obtain ⟨T, a, b, rfl, nT, rfl, ha, hb⟩ := hy
    cases ha
    obtain ⟨m, hm, rfl⟩ := vi_at hb
    rw [List.length_map, hlen] at hi
    refine g_pair (st_of upd_same) ?_
    have e4 : Ex H2 (upd H3 T (.tup [.int (i : Nat), vi m])) := e3.trans (Ex.new nT)
    have hms := sm_unrank hk hn hm
    have hdr := mov_drop (d := d) hm
    rw [hlen] at hdr
    refine s_when (et_test (ev_ge (ev_var rfl) (ev_sub (ev_var rfl) (ev_var rfl)))) (fun hb H6 e6 => ?_) fun hb H6 e6 => ?_
    · have hle : k - i ≤ m := by have := of_decide_eq_true hb; omega
      rw [if_pos hle] at hdr
      refine s_asg (v := vi (f + C m (k - i - 1 + d))) (ev_is (ev_add (ev_var rfl) (ev_call (vs := [vi m, vi (k - i - 1 + d)]) (ea_cons (ev_var rfl) (ea_cons (ev_is (ev_add (ev_sub (ev_var rfl) (ev_var rfl)) (ev_var rfl)) (by show V.int _ = V.int _; congr 1; omega)) ea_nil)) (v_picks (by omega) hms))) rfl) fun H7 e7 => ?_
      refine ⟨e4.trans (e6.trans e7), f + C m (k - i - 1 + d), _, _, rfl, by omega⟩
    · have hle : ¬ k - i ≤ m := by have := of_decide_eq_false hb; omega
      rw [if_neg hle] at hdr
      exact ⟨e4.trans e6, f, _, _, rfl, by omega⟩
  · obtain ⟨e3, f, x0, y0, rfl, hf⟩ := p
    rw [List.length_map, List.drop_eq_nil_of_le (Nat.le_refl _)] at hf
    have ef : f = mov d (unrank k n) := by rw [← hf]; rfl
    subst ef
    exact s_ret (ev_var rfl) fun H4 e4 => q H4 (e1.trans (e2.trans (e3.trans e4)))
/-! ### how long counts are -/
theorem mov_sm {b d : Nat} (hd : d ≤ 2) : ∀ {s : List Nat}, s.length ≤ 20 → (∀ m ∈ s, Sm b m) → Sm (b * 22 + 2 + s.length) (mov d s)
  | [], _, _ => Sm.num (Nat.zero_le _)
  | m :: r, hl, h => by
    have hl' : r.length + 1 ≤ 20 := hl
    have h1 : Sm (b * 22 + 2 + r.length) (C m (r.length + d)) := ((h m List.mem_cons_self).C (k := r.length + d)).up (by
      have : b * (r.length + d) ≤ b * 22 := Nat.mul_le_mul_left _ (by omega)
      omega)
    have h2 := mov_sm hd (s := r) (by omega) fun n hn => h n (List.mem_cons_of_mem _ hn)
    show Sm (b * 22 + 2 + (r.length + 1)) ((if r.length + 1 ≤ m then C m (r.length + d) else 0) + mov d r)
    have h3 : Sm (b * 22 + 2 + r.length) (if r.length + 1 ≤ m then C m (r.length + d) else 0) := by
      split
      · exact h1
      · exact Sm.num (Nat.zero_le _)
    exact (h3.add h2).up (by omega)
theorem el_sm {b k n : Nat} (hb : 5 ≤ b) (hk : k ≤ 20) (hn : Sm b n) : ∀ m ∈ unrank k n, Sm (b + 1) m := fun m hm => by
  obtain ⟨i, hi⟩ := List.getElem?_of_mem hm
  have h1 := unrank_le k n i m hi
  have h2 : Sm b k := Nat.lt_of_le_of_lt hk (Nat.lt_of_lt_of_le (by decide : 20 < 2 ^ 5) (Nat.pow_le_pow_right (by omega) hb))
  exact (hn.add h2).le (by omega)
theorem ovr_sm {b k n : Nat} (hb : 5 ≤ b) (hk : k ≤ 20) (hn : Sm b n) : Sm (b * 22 + 44) (ovr k n) := by
  have h := mov_sm (d := 2) (by omega) (s := unrank k n) (by rw [unrank_len]; exact hk) (el_sm hb hk hn)
  rw [mov_ovr, unrank_len] at h
  exact h.up (by omega)
theorem und_sm {b k n : Nat} (hb : 5 ≤ b) (hk : k ≤ 20) (hn : Sm b n) : Sm (b * 22 + 44) (und k n) := by
  have h := mov_sm (d := 0) (by omega) (s := unrank k n) (by rw [unrank_len]; exact hk) (el_sm hb hk hn)
  rw [mov_und, unrank_len] at h
  exact h.up (by omega)
end Sx


set_option Elab.async false
set_option linter.all false
set_option maxRecDepth 100000
set_option maxHeartbeats 4000000
/-! own classes: made, asked, told apart -/
namespace Sx
open PySem PySem.Spec PyProof.Rows L2 Evl Mth
/-- C(), where there is no __init__ but object's -/
def tMade0 (C : Addr) : TE := fun σ H Q => ∀ x dx, H x = none → H dx = none → dx ≠ x → Q (.ref x) (upd (upd H dx (.own x)) x (.ins C dx []))
structure Mk0 (K : PySem.W.Frag) (C : Addr) : Prop where
  makes : PySem.W.makesIn K C = true
  init : PySem.W.findIn K (.ref C) "__init__" = some (some (.builtin "object.__init__"))
  kp : PySem.W.keepIn K (.ref C) = true
section
variable {X : Cx} {pins : List (Addr × Obj)} {σ : L2.St} {H : Hp} {s : Shared} {Q : VK} {C : Addr}
theorem run_made0 (M : Mk0 X.K C) (I : Inv X pins σ H s) (h : ∀ x dx, H x = none → H dx = none → dx ≠ x → Q (.ref x) (upd (upd H dx (.own x)) x (.ins C dx []))) :
    wpAny (model X.prog X.w) X.A (call (.ref C) []) (EP X pins σ Q) X.xe s := by
  have hq := h (s.heap.objs.size + 1) s.heap.objs.size (I.hok.fresh (Nat.le_succ _)) (I.hok.fresh (Nat.le_refl _)) (Nat.ne_of_lt (Nat.lt_succ_self _))
  have I2 := Inv.made (C := C) I
  have e2 : ((s.heap.push PySem.W.emptyDict).push (PySem.W.instObj C s.heap.objs.size)).get? (s.heap.objs.size + 1) = some (PySem.W.instObj C s.heap.objs.size) := by
    have := Heap.get?_push_size (s.heap.push PySem.W.emptyDict) (o := PySem.W.instObj C s.heap.objs.size) rfl
    rwa [Heap.size_push] at this
  refine wpAny_call (make_map0 I.kIn M.makes M.init (fun self => PySem.W.Looks.of_pure (PySem.W.oi_bind _)) ?_)
  have t1 : PySem.W.Looks (model X.prog X.w) ((s.heap.push PySem.W.emptyDict).push (PySem.W.instObj C s.heap.objs.size)) (typeOf (.ref (s.heap.objs.size + 1))) (.ref C) := NwA.type_at e2 rfl
  have t2 : PySem.W.Looks (model X.prog X.w) ((s.heap.push PySem.W.emptyDict).push (PySem.W.instObj C s.heap.objs.size)) (isInstance (.ref (s.heap.objs.size + 1)) (.type "object")) true := t1.andThen (PySem.W.looks_mroIn I2.kIn (mro_obj M.makes))
  refine codeAny_call_builtin PySem.W.oi_plain PySem.W.entry_oi (@PySem.W.check_slot (model X.prog X.w) _ _ _ "object.__init__" "object" "__init__" (.ref (s.heap.objs.size + 1)) [] [] _ PySem.W.oi_kind PySem.W.oi_split t2 (PySem.W.oi_args _) ?_)
  rw [PySem.W.oi_run]
  exact wpAny_pure (And.intro rfl ⟨V.ref (s.heap.objs.size + 1), _, I2, rfl, hq⟩)
theorem pe_made0 {x : Str} {p pos : Pos} (M : Mk0 X.K C) (hg : Gl X x) (hm : X.mg x = some (.ref C)) (hdb : (x == ("__debug__" : Str)) = false := by decide) : PE X (.Call (.Name x p) [] [] pos) (tMade0 C) := by
  refine ⟨fun pins s σ H Q I h => ?_⟩
  refine wpAny_Call_Name_kw (ld_glob I hg hm ?_ hdb)
  exact PySem.W.callWith_K0 I.kIn M.kp (run_made0 M I h)
end
/-! ### methods and makers, by their promises -/
structure MetOk (P : Program) (w : World) (K : PySem.W.Frag) (mg : Str → Option Value) (base : Heap) (CX : CXT) (k : Nat) (C : Addr) (m : Str) (ps : List Str) (sp : Sp) : Prop where
  ex : ∃ (f : Addr) (fd : FuncData), Cls K C ∧ Meth K C m f ∧ Binds K fd ps [] ∧ FnOk P w K mg base CX k f fd ps sp
structure MakOk (P : Program) (w : World) (K : PySem.W.Frag) (mg : Str → Option Value) (base : Heap) (CX : CXT) (k : Nat) (x : Str) (C : Addr) (ps : List Str) (sp : Sp) : Prop where
  ex : ∃ (f : Addr) (fd : FuncData), mg x = some (.ref C) ∧ Mk K C f ∧ Binds K fd ps [] ∧ FnOk P w K mg base CX k f fd ps sp
section
variable {X : Cx} {k : Nat} {C : Addr} {x m : Str} {ps : List Str} {sp : Sp} {p pos apos : Pos} {e o : Expr} {es : List Expr} {ta : TE} {t : TA}
theorem pe_makD (c : MakOk X.prog X.w X.K X.mg X.base CX0 k x C ps sp) (hr : Room (k + 1) X.A) (hg : Gl X x) (ha : PA X (e :: es) t)
    (hdb : (x == ("__debug__" : Str)) = false := by decide) (he : starEach (e :: es) X.env = (false, eval e X.env) :: starEach es X.env := by rfl) (hpl : (backTo pos (starEach es X.env)).any (·.1) = false := by rfl) :
    PE X (.Call (.Name x p) (e :: es) [] pos) (tMake C sp [] E0 t) := by
  obtain ⟨f, fd, hm, M, b, F⟩ := c.ex
  exact pe_make M F hr hg hm b .nil pass0 ha hdb he hpl
theorem pe_metD {pl : Sem Bool} (c : MetOk X.prog X.w X.K X.mg X.base CX0 k C m ps sp) (hr : Room k X.A) (he : PE X o ta) (ha : PA X (e :: es) t)
    (hst : starEach (e :: es) X.env = (false, eval e X.env) :: starEach es X.env := by rfl) (hpl : (backTo pos (starEach es X.env)).any (·.1) = false := by rfl)
    (ht : eval (.Call (.Attribute o m apos) (e :: es) [] pos) X.env = (do
      let ov ← eval o X.env
      standAt apos.atName
      let (f, first) ← holding [ov] (getMethod ov m pl)
      callWith pos f first (backTo pos (starEach (e :: es) X.env)) (backToKw pos (keywordEach [] X.env))) := by rfl) :
    PE X (.Call (.Attribute o m apos) (e :: es) [] pos) (tMeth C m sp [] E0 ta t) := by
  obtain ⟨f, fd, hc, hm, b, F⟩ := c.ex
  exact pe_meth (pl := pl) he hc hm F hr b .nil pass0 ha hst hpl ht
end
/-! ### what is asked of the two classes -/
abbrev cCan (K : PySem.W.Frag) : Addr := He.ga K "Can"
abbrev cBar (K : PySem.W.Frag) : Addr := He.ga K "Barred"
abbrev cAns (K : PySem.W.Frag) : Addr := He.ga K "Answer"
def insB (K : PySem.W.Frag) (C : Addr) : Bool := He.eqO (PySem.W.findIn K (.ref C) "__class__") (some (some (.builtin "object.__class__"))) &&
  (decide (PySem.W.mroIn K C (.type "object") = some true))
def clsTest (K : PySem.W.Frag) : Bool := He.eqO (PySem.W.specialIn K (.builtin "object.__class__") "__get__") (some (some (.builtin "getset_descriptor.__get__"))) &&
  (decide (PySem.W.takesIn K (.builtin "object.__class__") = some true) && (insB K (cCan K) && insB K (cBar K)))
def kitTest (K : PySem.W.Frag) : Bool := (decide (PySem.W.kitOne K (.ref (cCan K)) (.ref (cCan K)) = some true) && (decide (PySem.W.kitOne K (.ref (cCan K)) (.ref (cBar K)) = some false) && decide (PySem.W.kitOne K (.ref (cCan K)) (.ref (cAns K)) = some true))) &&
  (decide (PySem.W.kitOne K (.ref (cBar K)) (.ref (cCan K)) = some false) && (decide (PySem.W.kitOne K (.ref (cBar K)) (.ref (cBar K)) = some true) && decide (PySem.W.kitOne K (.ref (cBar K)) (.ref (cAns K)) = some true)))
def mk0Test (K : PySem.W.Frag) : Bool := PySem.W.makesIn K (cCan K) && (He.eqO (PySem.W.findIn K (.ref (cCan K)) "__init__") (some (some (.builtin "object.__init__"))) && PySem.W.keepIn K (.ref (cCan K)))
theorem mk0_of {K : PySem.W.Frag} (h : mk0Test K = true) : Mk0 K (cCan K) := by
  obtain ⟨h1, h2⟩ := He.ba h
  obtain ⟨h2, h3⟩ := He.ba h2
  exact ⟨h1, He.eqO_ok h2, h3⟩
/-- the classes' facts -/
structure CF (K : PySem.W.Frag) : Prop where
  cc : Cls K (cCan K)
  cb : Cls K (cBar K)
  ns : NoAttr K (cBar K) "size"
  nm : NoAttr K (cBar K) "most"
/-- an answer -/
def IsC (K : PySem.W.Frag) (H : Hp) (v : V) : Prop := ∃ x dx, v = .ref x ∧ H x = some (.ins (cCan K) dx [])
def IsB (K : PySem.W.Frag) (H : Hp) (v : V) (s m : V) : Prop := ∃ x dx, v = .ref x ∧ H x = some (.ins (cBar K) dx [("size", s), ("most", m)])
theorem IsC.ex {K : PySem.W.Frag} {H H' : Hp} {v : V} (h : IsC K H v) (e : Ex H H') : IsC K H' v := by
  obtain ⟨x, dx, rfl, q⟩ := h
  exact ⟨x, dx, rfl, e _ _ q⟩
theorem IsB.ex {K : PySem.W.Frag} {H H' : Hp} {v s m : V} (h : IsB K H v s m) (e : Ex H H') : IsB K H' v s m := by
  obtain ⟨x, dx, rfl, q⟩ := h
  exact ⟨x, dx, rfl, e _ _ q⟩
section
variable {K : PySem.W.Frag} {σ : L2.St} {H : Hp} {ta tb te : TE}
theorem ev_size {v s m : V} (cf : CF K) (h : Ev ta σ H v) (hb : IsB K H v s m) : Ev (tFld K ta "size") σ H s := fun H1 e Q q => h H1 e _ fun H2 e2 => by
  obtain ⟨x, dx, rfl, hx⟩ := hb.ex (e.trans e2)
  exact ⟨x, _, dx, _, s, rfl, hx, cf.cb, cf.ns, rfl, q H2 e2⟩
theorem ev_most {v s m : V} (cf : CF K) (h : Ev ta σ H v) (hb : IsB K H v s m) : Ev (tFld K ta "most") σ H m := fun H1 e Q q => h H1 e _ fun H2 e2 => by
  obtain ⟨x, dx, rfl, hx⟩ := hb.ex (e.trans e2)
  exact ⟨x, _, dx, _, m, rfl, hx, cf.cb, cf.nm, rfl, q H2 e2⟩
/-- Can() -/
theorem ep_can : EvP (tMade0 (cCan K)) σ H fun H1 v H2 => (∃ x, v = .ref x ∧ H1 x = none) ∧ IsC K H2 v := fun H1 e Q q x dx hx hd ne =>
  q _ _ ((Ex.new hd).trans (Ex.new (by rw [upd_ne (fun z => ne z.symm)]; exact hx))) ⟨⟨x, rfl, hx⟩, x, dx, rfl, upd_same⟩
end
def sp_Barred_init (K : PySem.W.Frag) : Sp := fun vs H Q _ => ∃ x dx a b, vs = [.ref x, a, b] ∧ H x = some (.ins (cBar K) dx []) ∧ CF K ∧ Q .non (upd (upd H x (.ins (cBar K) dx [("size", a)])) x (.ins (cBar K) dx [("size", a), ("most", b)]))
theorem len_Barred_init {K : PySem.W.Frag} {vs : List V} {H : Hp} {Q : VK} {E : XK} (h : sp_Barred_init K vs H Q E) : vs.length = 3 := by obtain ⟨x, dx, a, b, rfl, _⟩ := h; rfl
section
variable {K : PySem.W.Frag} {σ : L2.St} {H : Hp} {ta tb te : TE}
/-- Barred(s, m) -/
theorem ep_bar {s m : V} (cf : CF K) (ha : Ev ta σ H s) (hb : Ev tb σ H m) : EvP (tMake (cBar K) (sp_Barred_init K) [] E0 (tCons ta (tCons tb tNil))) σ H fun H1 v H2 => (∃ x, v = .ref x ∧ H1 x = none) ∧ IsB K H2 v s m := fun H1 e Q q =>
  ea_cons ha (ea_cons hb ea_nil) H1 e _ fun H2 e2 x dx hx hd ne => by
    refine ⟨x, dx, s, m, rfl, upd_same, cf, rfl, q _ _ (e2.trans fun a o ho => ?_) ⟨⟨x, rfl, fresh_back e2 hx⟩, x, dx, rfl, upd_same⟩⟩
    have h1 : a ≠ x := fun z => by subst z; rw [hx] at ho; cases ho
    have h2 : a ≠ dx := fun z => by subst z; rw [hd] at ho; cases ho
    rw [upd_ne h1, upd_ne h1, upd_ne h1, upd_ne h2]
    exact ho
end
end Sx

set_option Elab.async false
set_option linter.all false
set_option maxRecDepth 100000
set_option maxHeartbeats 4000000
/-! rows and answers -/
namespace Sx
open PySem PySem.Spec PyProof.Rows L2 Evl Mth
variable {K : PySem.W.Frag} {w : World}
/-- the least bar, s the size of the first -/
def barF : Nat → List Nat → Option (Nat × Nat)
  | s, a :: b :: r => if ovr s a < b then some (s + 1, ovr s a) else barF (s + 1) (b :: r)
  | _, _ => none
def bar (ns : List Nat) : Option (Nat × Nat) := barF 1 ns
def barP (ns : List Nat) : Nat × Nat := (bar ns).getD (0, 0)
def barI (ns : List Nat) : Option (Int × Int) := (bar ns).map fun q => ((q.1 : Int), (q.2 : Int))
theorem barF_lt : ∀ (l : List Nat) (s x y : Nat), barF s l = some (x, y) → s < x
  | [], _, _, _, h => by cases h
  | [_], _, _, _, h => by cases h
  | a :: b :: r, s, x, y, h => by
    unfold barF at h
    split at h
    · have := (Prod.mk.inj (Option.some.inj h)).1
      omega
    · have := barF_lt (b :: r) (s + 1) x y h
      omega
theorem bar_ge {ns : List Nat} {x y : Nat} (h : bar ns = some (x, y)) : 2 ≤ x := barF_lt ns 1 x y h
theorem barF_step {ns : List Nat} {s i a b : Nat} (ha : ns[i]? = some a) (hb : ns[i + 1]? = some b) : barF s (ns.drop i) = if ovr s a < b then some (s + 1, ovr s a) else barF (s + 1) (ns.drop (i + 1)) := by
  have h1 := List.getElem?_eq_some_iff.mp ha
  have h2 := List.getElem?_eq_some_iff.mp hb
  obtain ⟨l1, e1⟩ := h1
  obtain ⟨l2, e2⟩ := h2
  rw [List.drop_eq_getElem_cons l1, List.drop_eq_getElem_cons l2, e1, e2]
  rfl
theorem barF_end {ns : List Nat} {s i : Nat} (h : ns.length ≤ i + 1) : barF s (ns.drop i) = none := by
  have hl : (ns.drop i).length ≤ 1 := by rw [List.length_drop]; omega
  match ns.drop i, hl with
  | [], _ => rfl
  | [_], _ => rfl
  | _ :: _ :: _, h => simp at h
section
variable {σ : L2.St} {H : Hp} {ta tb te : TE}
def SpU (sp : Sp) (vs : List V) (H : Hp) (xs : List V) : Prop := ∀ H1, Ex H H1 → ∀ Q : VK, (∀ p H2, H1 p = none → Ex H1 H2 → H2 p = some (.tup xs) → Q (.ref p) H2) → ∀ E : XK, sp vs H1 Q E
def RetU (xs : List V) (H : Hp) (Q : VK) : Prop := ∀ p H2, H p = none → Ex H H2 → H2 p = some (.tup xs) → Q (.ref p) H2
theorem eu_call {sp : Sp} {dvs vs xs : List V} {E : XK} {ta : TA} (h : EvA ta σ H vs) (hs : SpU sp (vs ++ dvs) H xs) : EvU (tCall sp dvs E ta) σ H xs := fun H1 e Q q =>
  h H1 e _ fun H2 e2 => hs H2 (e.trans e2) Q (fun p H3 hp e3 h3 => q p H3 (fresh_back e2 hp) (e2.trans e3) h3) E
theorem ed_U {ns : List Int} (h : EvU te σ H (ns.map V.int)) : EvD K te σ H (.tuple (ns.map .int)) := fun H1 e Q q => h H1 e _ fun p H2 _ e2 hp => q _ H2 e2 (.tup (st_of hp) (dpInts ns))
theorem ep_U {R : Hp → V → Hp → Prop} {xs : List V} (h : EvU te σ H xs) (hR : ∀ p H1 H2, Ex H H1 → H1 p = none → Ex H1 H2 → H2 p = some (.tup xs) → R H1 (.ref p) H2) : EvP te σ H R :=
  fun H1 e Q q => h H1 e _ fun p H2 n e2 hp => q (.ref p) H2 e2 (hR p H1 H2 e n e2 hp)
end
/-! ### the first bar -/
def sp_first_bar (K : PySem.W.Frag) : Sp := fun vs H Q _ => ∃ (p : Addr) (ns : List Nat), vs = [.ref p] ∧ SqL K H p (ns.map vi) ∧ ns.length ≤ 21 ∧ (∀ n ∈ ns, Sm 200000 n) ∧ RetU [vi (barP ns).1, vi (barP ns).2] H Q
theorem len_first_bar {vs : List V} {H : Hp} {Q : VK} {E : XK} (h : sp_first_bar K vs H Q E) : vs.length = 1 := by obtain ⟨a, ns, rfl, _⟩ := h; rfl
/-- first_bar: 0 row, 1 size, 2 most -/
def t_first_bar (K : PySem.W.Frag) (w : World) : TS := tSeq (tFor (iRng2 (tCons (tC (.int 1)) (tCons (tCB (rLenS K) (tCons (tVar 0) tNil)) tNil))) (gName 1) (tSeq (tAsg (tCall (sp_moved K) [] E0 (tCons (tVar 1) (tCons (tOp (rIxL K) (tVar 0) (tOp oSub (tVar 1) (tC (.int 1)))) (tCons (tC (.int 1)) tNil)))) (gName 2)) (tIfS (tTest (tOp oGt (tOp (rIxL K) (tVar 0) (tVar 1)) (tVar 2))) (tRet (tTup (tCons (tOp oAdd (tVar 1) (tC (.int 1))) (tCons (tVar 2) tNil)))) tNext))) (tRet (tTup (tCons (tC (.int 0)) (tCons (tC (.int 0)) tNil))))
theorem pure_first_bar {vs : List V} {H : Hp} {Q : VK} {E : XK} (h : sp_first_bar K vs H Q E) : t_first_bar K w { nx := fun _ H' => Q .non H', rt := Q } (start ["row", "size", "most"] vs) H := by
  obtain ⟨p, ns, rfl, hp, hl, hs, q⟩ := h
  show t_first_bar K w _ [some (.ref p), none, none] H
  refine q_forN (ei_rng2 (i := 1) (j := (ns.length : Int)) ev_c (ev_is (ev_lenS (es_v (ev_var rfl) hp)) (by rw [List.length_map])) (by decide) (by omega)) (fun H2 i σ H3 => Ex H2 H3 ∧ bar ns = barF (1 + i) (ns.drop i) ∧ ∃ x y : Option V, σ = [some (.ref p), x, y])
    (fun H2 e2 => ⟨Ex.refl _, rfl, _, _, rfl⟩) (fun H2 i σ H3 e2 r a o ha ho => r.1 a o ho) (fun H2 i x σ H3 H4 e2 hi r hy => ?_) fun H2 σ H3 e2 r => ?_
  · obtain ⟨e3, hb, x0, y0, rfl⟩ := r
    obtain ⟨rfl, rfl⟩ := hy
    have hi2 : i + 1 < ns.length := by omega
    obtain ⟨a, ha⟩ : ∃ a, ns[i]? = some a := ⟨_, List.getElem?_eq_getElem (by omega)⟩
    obtain ⟨b, hb2⟩ : ∃ b, ns[i + 1]? = some b := ⟨_, List.getElem?_eq_getElem hi2⟩
    have hp3 := ex_l (e2.trans e3) hp
    have ea : (ns.map vi)[i]? = some (vi a) := by rw [List.getElem?_map, ha]; rfl
    have eb : (ns.map vi)[i + 1]? = some (vi b) := by rw [List.getElem?_map, hb2]; rfl
    obtain ⟨s, hsz⟩ : ∃ s, s = 1 + i := ⟨_, rfl⟩
    have hsI : (1 : Int) + (i : Nat) = (s : Int) := by omega
    dsimp only
    rw [hsI]
    have sa := (hs a (List.mem_of_getElem? ha)).up (show 200000 ≤ 1000000 by omega)
    refine q_asg (v := vi (ovr s a)) (ev_call (vs := [vi s, vi a, .int 1]) (ea_cons (ev_var rfl) (ea_cons (ev_ixS (i := ((i : Nat) : Int)) (es_v (ev_var rfl) hp3) (ev_is (ev_sub (ev_var rfl) ev_c) (by show V.int _ = V.int _; congr 1; omega)) (atI_nat ea)) (ea_cons ev_c ea_nil))) (v_mvO (by omega) sa)) fun H5 e5 => ?_
    have st := barF_step (s := s) ha hb2
    refine s_when (et_test (ev_gt (ev_ixS (i := ((i + 1 : Nat) : Int)) (es_v (ev_var rfl) (ex_l e5 hp3)) (ev_is (ev_var rfl) (by show V.int _ = V.int _; congr 1; omega)) (atI_nat eb)) (ev_var rfl))) (fun hc H6 e6 => ?_) fun hc H6 e6 => ⟨e3.trans (e5.trans e6), ?_, _, _, rfl⟩
    · have hc2 := of_decide_eq_true hc
      have eb : barP ns = (s + 1, ovr s a) := by
        unfold barP
        rw [hb, ← hsz, st, if_pos (by omega)]
        rfl
      refine s_retU (eu_tup (vs := [vi (s + 1), vi (ovr s a)]) (ea_cons (ev_is (ev_add (ev_var rfl) ev_c) rfl) (ea_cons (ev_var rfl) ea_nil)) (by show 2 ≤ 100000; omega)) fun t H7 nt e7 ht => q t H7 (fresh_back (e2.trans (e3.trans (e5.trans e6))) nt) ((e2.trans (e3.trans (e5.trans e6))).trans e7) ?_
      rw [eb]
      exact ht
    · have hc2 := of_decide_eq_false hc
      rw [hb, ← hsz, st, if_neg (by omega), show 1 + (i + 1) = s + 1 by omega]
  · obtain ⟨e3, hb, x0, y0, rfl⟩ := r
    have eb : barP ns = (0, 0) := by
      unfold barP
      rw [hb, barF_end (by omega)]
      rfl
    refine s_retU (eu_tup (vs := [vi 0, vi 0]) (ea_cons ev_c (ea_cons ev_c ea_nil)) (by show 2 ≤ 100000; omega)) fun t H7 nt e7 ht => q t H7 (fresh_back (e2.trans e3) nt) ((e2.trans e3).trans e7) ?_
    rw [eb]
    exact ht
theorem v_first_bar {H : Hp} {p : Addr} {ns : List Nat} (hp : SqL K H p (ns.map vi)) (hl : ns.length ≤ 21) (hs : ∀ n ∈ ns, Sm 200000 n) : SpU (sp_first_bar K) [.ref p] H [vi (barP ns).1, vi (barP ns).2] := fun H1 e Q q E => ⟨p, ns, rfl, ex_l e hp, hl, hs, q⟩
/-! ### the answers' words -/
def sp_Can_shows (K : PySem.W.Frag) : Sp := fun vs H Q _ => ∃ (x p : Addr) (ns : List Nat), vs = [.ref x, .ref p] ∧ SqL K H p (ns.map vi) ∧ ns.length ≤ 21 ∧ (∀ n ∈ ns, Sm 200000 n) ∧ RetV (.bl (decide (bar ns = none))) H Q
theorem len_Can_shows {vs : List V} {H : Hp} {Q : VK} {E : XK} (h : sp_Can_shows K vs H Q E) : vs.length = 2 := by obtain ⟨a, p, ns, rfl, _⟩ := h; rfl
theorem barP_none (ns : List Nat) : (barP ns = (0, 0)) ↔ bar ns = none := by
  unfold barP
  cases e : bar ns with
  | none => simp
  | some q =>
    obtain ⟨x, y⟩ := q
    have := bar_ge e
    constructor
    · intro h
      have h1 : x = 0 := congrArg Prod.fst h
      omega
    · intro h
      cases h
/-- Can_shows: 0 self, 1 row -/
def t_Can_shows (K : PySem.W.Frag) (w : World) : TS := tRet (tOp (rEqD K) (tCall (sp_first_bar K) [] E0 (tCons (tVar 1) tNil)) (tTup (tCons (tC (.int 0)) (tCons (tC (.int 0)) tNil))))
theorem pure_Can_shows {vs : List V} {H : Hp} {Q : VK} {E : XK} (h : sp_Can_shows K vs H Q E) : t_Can_shows K w { nx := fun _ H' => Q .non H', rt := Q } (start ["self", "row"] vs) H := by
  obtain ⟨x, p, ns, rfl, hp, hl, hs, q⟩ := h
  show t_Can_shows K w _ [some (.ref x), some (.ref p)] H
  refine s_ret (ev_is (ev_eqD (d := .tuple ([((barP ns).1 : Int), ((barP ns).2 : Int)].map .int)) (e := .tuple ([(0 : Int), 0].map .int)) (ed_U (eu_call (vs := [.ref p]) (ea_cons (ev_var rfl) ea_nil) (v_first_bar hp hl hs))) (ed_U (eu_tup (ea_cons ev_c (ea_cons ev_c ea_nil)) (by decide))) (sh_intsT _) (sh_intsT _)) ?_) fun H1 e1 => q H1 e1
  rw [eqv_tu]
  show V.bl _ = V.bl _
  congr 1
  rw [decide_eq_decide, ← barP_none]
  constructor
  · intro h
    have h1 : ((barP ns).1 : Int) = 0 ∧ ((barP ns).2 : Int) = 0 := by simpa using h
    have : (barP ns).1 = 0 := by omega
    have : (barP ns).2 = 0 := by omega
    exact Prod.ext (by assumption) (by assumption)
  · intro h
    rw [h]
    rfl
theorem v_Can_shows {H : Hp} {x p : Addr} {ns : List Nat} (hp : SqL K H p (ns.map vi)) (hl : ns.length ≤ 21) (hs : ∀ n ∈ ns, Sm 200000 n) : SpV (sp_Can_shows K) [.ref x, .ref p] H (.bl (decide (bar ns = none))) := fun H1 e Q q E => ⟨x, p, ns, rfl, ex_l e hp, hl, hs, q⟩
/-- Barred_init: 0 self, 1 size, 2 most -/
def t_Barred_init (K : PySem.W.Frag) (w : World) : TS := tSeq (sFld K (tVar 0) (tVar 1) "size") (sFld K (tVar 0) (tVar 2) "most")
theorem pure_Barred_init {vs : List V} {H : Hp} {Q : VK} {E : XK} (h : sp_Barred_init K vs H Q E) : t_Barred_init K w { nx := fun _ H' => Q .non H', rt := Q } (start ["self", "size", "most"] vs) H := by
  obtain ⟨x, dx, a, b, rfl, hx, cf, q⟩ := h
  show t_Barred_init K w _ [some (.ref x), some a, some b] H
  refine ⟨a, rfl, .ref x, rfl, x, cBar K, dx, [], rfl, hx, cf.cb, cf.ns, by decide, b, rfl, .ref x, rfl, x, cBar K, dx, _, rfl, upd_same, cf.cb, cf.nm, (by show 1 < 1000; decide), q⟩
def sp_Barred_shows (K : PySem.W.Frag) : Sp := fun vs H Q _ => ∃ (v : V) (p : Addr) (ns : List Nat) (s m : Int), vs = [v, .ref p] ∧ IsB K H v (.int s) (.int m) ∧ CF K ∧ SqL K H p (ns.map vi) ∧ ns.length ≤ 21 ∧ (∀ n ∈ ns, Sm 200000 n) ∧ RetV (.bl (decide (barI ns = some (s, m)))) H Q
theorem len_Barred_shows {vs : List V} {H : Hp} {Q : VK} {E : XK} (h : sp_Barred_shows K vs H Q E) : vs.length = 2 := by obtain ⟨a, p, ns, s, m, rfl, _⟩ := h; rfl
theorem barI_of {ns : List Nat} {s m : Int} (h2 : 2 ≤ s) : ([((barP ns).1 : Int), ((barP ns).2 : Int)] = [s, m]) ↔ barI ns = some (s, m) := by
  unfold barP barI
  cases e : bar ns with
  | none =>
    simp
    omega
  | some q => simp [Prod.ext_iff]
theorem barI_lt {ns : List Nat} {s m : Int} (h2 : s < 2) : barI ns ≠ some (s, m) := by
  unfold barI
  cases e : bar ns with
  | none => intro h; cases h
  | some q =>
    obtain ⟨x, y⟩ := q
    have := bar_ge e
    intro h
    have h1 : (x : Int) = s := congrArg (fun z : Option (Int × Int) => (z.getD (0, 0)).1) h
    omega
/-- Barred_shows: 0 self, 1 row -/
def t_Barred_shows (K : PySem.W.Frag) (w : World) : TS := tSeq (tIfS (tOr (tNot (tB (tCall (sp_is_whole K) [] E0 (tCons (tFld K (tVar 0) "size") tNil)))) (tOr (tNot (tB (tCall (sp_is_whole K) [] E0 (tCons (tFld K (tVar 0) "most") tNil)))) (tTest (tOp oLt (tFld K (tVar 0) "size") (tC (.int 2)))))) (tRet (tC (.bl false))) tNext) (tRet (tOp (rEqD K) (tCall (sp_first_bar K) [] E0 (tCons (tVar 1) tNil)) (tTup (tCons (tFld K (tVar 0) "size") (tCons (tFld K (tVar 0) "most") tNil)))))
theorem pure_Barred_shows {vs : List V} {H : Hp} {Q : VK} {E : XK} (h : sp_Barred_shows K vs H Q E) : t_Barred_shows K w { nx := fun _ H' => Q .non H', rt := Q } (start ["self", "row"] vs) H := by
  obtain ⟨v, p, ns, s, m, rfl, hv, cf, hp, hl, hs, q⟩ := h
  show t_Barred_shows K w _ [some v, some (.ref p)] H
  refine q_when (et_is (et_or (a := false) (et_not (et_B (ev_call (ea_cons (ev_size cf (ev_var rfl) hv) ea_nil) v_whole_int))) fun _ => et_or (a := false) (et_not (et_B (ev_call (ea_cons (ev_most cf (ev_var rfl) hv) ea_nil) v_whole_int))) fun _ => et_test (ev_lt (ev_size cf (ev_var rfl) hv) ev_c)) (b := decide (s < 2)) rfl) (fun hb H1 e1 => ?_) fun hb H1 e1 => ?_
  · refine s_ret ev_c fun H2 e2 => ?_
    have hb2 := of_decide_eq_true hb
    have g := q H2 (e1.trans e2)
    rw [decide_eq_false (barI_lt hb2)] at g
    exact g
  · have hb2 := of_decide_eq_false hb
    have hv1 := hv.ex e1
    refine s_ret (ev_is (ev_eqD (d := .tuple ([((barP ns).1 : Int), ((barP ns).2 : Int)].map .int)) (e := .tuple ([s, m].map .int)) (ed_U (eu_call (vs := [.ref p]) (ea_cons (ev_var rfl) ea_nil) (v_first_bar (ex_l e1 hp) hl hs))) (ed_U (eu_tup (ea_cons (ev_size cf (ev_var rfl) hv1) (ea_cons (ev_most cf (ev_var rfl) hv1) ea_nil)) (by show 2 ≤ 100000; omega))) (sh_intsT _) (sh_intsT _)) ?_) fun H2 e2 => q H2 (e1.trans e2)
    rw [eqv_tu]
    show V.bl _ = V.bl _
    congr 1
    rw [decide_eq_decide]
    exact barI_of (by omega)
theorem v_Barred_shows {H : Hp} {v : V} {p : Addr} {ns : List Nat} {s m : Int} (hv : IsB K H v (.int s) (.int m)) (cf : CF K) (hp : SqL K H p (ns.map vi)) (hl : ns.length ≤ 21) (hs : ∀ n ∈ ns, Sm 200000 n) : SpV (sp_Barred_shows K) [v, .ref p] H (.bl (decide (barI ns = some (s, m)))) :=
  fun H1 e Q q E => ⟨v, p, ns, s, m, rfl, hv.ex e, cf, ex_l e hp, hl, hs, q⟩
/-! ### the laws' own look -/
def DueV (ns : List Nat) (H : Hp) (v : V) (H2 : Hp) : Prop := (bar ns = none ∧ v = .non) ∨ ∃ s m t, bar ns = some (s, m) ∧ v = .ref t ∧ H t = none ∧ H2 t = some (.tup [vi s, vi m])
def sp__law_least (K : PySem.W.Frag) : Sp := fun vs H Q _ => ∃ (p : Addr) (ns : List Nat), vs = [.ref p] ∧ SqL K H p (ns.map vi) ∧ ns.length ≤ 21 ∧ (∀ n ∈ ns, Sm 200000 n) ∧ ∀ v H2, Ex H H2 → DueV ns H v H2 → Q v H2
theorem len__law_least {vs : List V} {H : Hp} {Q : VK} {E : XK} (h : sp__law_least K vs H Q E) : vs.length = 1 := by obtain ⟨a, ns, rfl, _⟩ := h; rfl
/-- _law_least: 0 _law_row_here, 1 _law_size, 2 _law_limit -/
def t__law_least (K : PySem.W.Frag) (w : World) : TS := tSeq (tFor (iRng2 (tCons (tC (.int 1)) (tCons (tCB (rLenS K) (tCons (tVar 0) tNil)) tNil))) (gName 1) (tSeq (tAsg (tCall (sp__law_moved K) [] E0 (tCons (tVar 1) (tCons (tOp (rIxL K) (tVar 0) (tOp oSub (tVar 1) (tC (.int 1)))) (tCons (tC (.int 1)) tNil)))) (gName 2)) (tIfS (tTest (tOp oGt (tOp (rIxL K) (tVar 0) (tVar 1)) (tVar 2))) (tRet (tTup (tCons (tOp oAdd (tVar 1) (tC (.int 1))) (tCons (tVar 2) tNil)))) tNext))) (tRet (tC .non))
theorem pure__law_least {vs : List V} {H : Hp} {Q : VK} {E : XK} (h : sp__law_least K vs H Q E) : t__law_least K w { nx := fun _ H' => Q .non H', rt := Q } (start ["_law_row_here", "_law_size", "_law_limit"] vs) H := by
  obtain ⟨p, ns, rfl, hp, hl, hs, q⟩ := h
  show t__law_least K w _ [some (.ref p), none, none] H
  refine q_forN (ei_rng2 (i := 1) (j := (ns.length : Int)) ev_c (ev_is (ev_lenS (es_v (ev_var rfl) hp)) (by rw [List.length_map])) (by decide) (by omega)) (fun H2 i σ H3 => Ex H2 H3 ∧ bar ns = barF (1 + i) (ns.drop i) ∧ ∃ x y : Option V, σ = [some (.ref p), x, y])
    (fun H2 e2 => ⟨Ex.refl _, rfl, _, _, rfl⟩) (fun H2 i σ H3 e2 r a o ha ho => r.1 a o ho) (fun H2 i x σ H3 H4 e2 hi r hy => ?_) fun H2 σ H3 e2 r => ?_
  · obtain ⟨e3, hb, x0, y0, rfl⟩ := r
    obtain ⟨rfl, rfl⟩ := hy
    have hi2 : i + 1 < ns.length := by omega
    obtain ⟨a, ha⟩ : ∃ a, ns[i]? = some a := ⟨_, List.getElem?_eq_getElem (by omega)⟩
    obtain ⟨b, hb2⟩ : ∃ b, ns[i + 1]? = some b := ⟨_, List.getElem?_eq_getElem hi2⟩
    have hp3 := ex_l (e2.trans e3) hp
    have ea : (ns.map vi)[i]? = some (vi a) := by rw [List.getElem?_map, ha]; rfl
    have eb : (ns.map vi)[i + 1]? = some (vi b) := by rw [List.getElem?_map, hb2]; rfl
    obtain ⟨s, hsz⟩ : ∃ s, s = 1 + i := ⟨_, rfl⟩
    have hsI : (1 : Int) + (i : Nat) = (s : Int) := by omega
    dsimp only
    rw [hsI]
    have sa := (hs a (List.mem_of_getElem? ha)).up (show 200000 ≤ 1000000 by omega)
    refine q_asg (v := vi (ovr s a)) (ev_call (sp := sp__law_moved K) (vs := [vi s, vi a, .int 1]) (ea_cons (ev_var rfl) (ea_cons (ev_ixS (i := ((i : Nat) : Int)) (es_v (ev_var rfl) hp3) (ev_is (ev_sub (ev_var rfl) ev_c) (by show V.int _ = V.int _; congr 1; omega)) (atI_nat ea)) (ea_cons ev_c ea_nil))) (v_mvO (by omega) sa)) fun H5 e5 => ?_
    have st := barF_step (s := s) ha hb2
    refine s_when (et_test (ev_gt (ev_ixS (i := ((i + 1 : Nat) : Int)) (es_v (ev_var rfl) (ex_l e5 hp3)) (ev_is (ev_var rfl) (by show V.int _ = V.int _; congr 1; omega)) (atI_nat eb)) (ev_var rfl))) (fun hc H6 e6 => ?_) fun hc H6 e6 => ⟨e3.trans (e5.trans e6), ?_, _, _, rfl⟩
    · have hc2 := of_decide_eq_true hc
      have eb : bar ns = some (s + 1, ovr s a) := by rw [hb, ← hsz, st, if_pos (by omega)]
      refine s_retU (eu_tup (vs := [vi (s + 1), vi (ovr s a)]) (ea_cons (ev_is (ev_add (ev_var rfl) ev_c) rfl) (ea_cons (ev_var rfl) ea_nil)) (by show 2 ≤ 100000; omega)) fun t H7 nt e7 ht => q _ H7 ((e2.trans (e3.trans (e5.trans e6))).trans e7) (.inr ⟨_, _, t, eb, rfl, fresh_back (e2.trans (e3.trans (e5.trans e6))) nt, ht⟩)
    · have hc2 := of_decide_eq_false hc
      rw [hb, ← hsz, st, if_neg (by omega), show 1 + (i + 1) = s + 1 by omega]
  · obtain ⟨e3, hb, x0, y0, rfl⟩ := r
    have eb : bar ns = none := by rw [hb, barF_end (by omega)]
    exact s_ret ev_c fun H7 e7 => q _ H7 ((e2.trans e3).trans e7) (.inl ⟨eb, rfl⟩)
def sp__law_says (K : PySem.W.Frag) : Sp := fun vs H Q _ => ∃ a b : Bool, vs = [.bl a, .bl b] ∧ RetV (.bl (a == b)) H Q
theorem len__law_says {vs : List V} {H : Hp} {Q : VK} {E : XK} (h : sp__law_says K vs H Q E) : vs.length = 2 := by obtain ⟨a, ns, rfl, _⟩ := h; rfl
/-- _law_says: 0 _law_said, 1 _law_due -/
def t__law_says (K : PySem.W.Frag) (w : World) : TS := tRet (tAndV (tCB (rIsi K) (tCons (tVar 0) (tCons (tC (.ty "bool")) tNil))) (tOp rEq (tVar 0) (tVar 1)))
theorem pure__law_says {vs : List V} {H : Hp} {Q : VK} {E : XK} (h : sp__law_says K vs H Q E) : t__law_says K w { nx := fun _ H' => Q .non H', rt := Q } (start ["_law_said", "_law_due"] vs) H := by
  obtain ⟨a, b, rfl, q⟩ := h
  show t__law_says K w _ [some (.bl a), some (.bl b)] H
  exact s_ret (ev_is (ev_andV (a := true) (b := a == b) (ev_isiT (ev_var rfl) ty_bl (by decide)) fun _ => ev_eqB (ev_var rfl) (ev_var rfl)) rfl) fun H1 e1 => q H1 e1
theorem v_says {H : Hp} {a b : Bool} : SpV (sp__law_says K) [.bl a, .bl b] H (.bl (a == b)) := fun H1 e Q q E => ⟨a, b, rfl, q⟩
end Sx


set_option Elab.async false
set_option linter.all false
set_option maxRecDepth 100000
set_option maxHeartbeats 4000000
/-! drawn rows -/
namespace Sx
open PySem PySem.Spec PyProof.Rows L2 Evl Mth
variable {K : PySem.W.Frag} {w : World}
theorem atI_last {xs : List V} {n : Nat} {v : V} (hl : xs.length = n + 1) (h : xs[n]? = some v) : atI xs (-1) = some v := by
  unfold atI ixN
  rw [if_neg (by omega), if_pos (by omega), hl]
  have : (-1 + ((n + 1 : Nat) : Int)).toNat = n := by omega
  rw [this]
  exact h
theorem q_ifAsg {σ : L2.St} {H : Hp} {t : TT} {te : TE} {tz : TS} {D : Ends} {v : V} {b : Bool} {i : Nat} (h : EvT t σ H b) (h1 : b = true → Ev te σ H v) (h2 : b = false → σ.set i (some v) = σ) (k : ∀ H1, Ex H H1 → tz D (σ.set i (some v)) H1) : tSeq (tIfS t (tAsg te (gName i)) tNext) tz D σ H :=
  s_ifAsg (D := { D with nx := tz D }) h h1 h2 k
/-- a row's own bound -/
theorem row_sm {N n j : Nat} (hN : N = 10 ^ 40) (hj : j < 20) (h : n ≤ C N (j + 1)) : Sm 3000 n := by
  have h1 : Sm 133 N := by
    unfold Sm
    rw [hN]
    decide
  have h2 := Sm.C (k := j + 1) h1
  exact (h2.le h).up (by omega)
theorem max_nat {a b : Nat} : (if ((a : Int) - (b : Int)) > 0 then ((a : Int) - (b : Int)) else 0) = ((a - b : Nat) : Int) := by split <;> omega
theorem min_nat {a b : Nat} : (if (b : Int) < (a : Int) then (b : Int) else (a : Int)) = ((min a b : Nat) : Int) := by split <;> omega
def Row (H : Hp) (v : V) (H2 : Hp) : Prop := ∃ (p : Addr) (rs : List Nat), v = .ref p ∧ H p = none ∧ H2 p = some (.lst (rs.map vi)) ∧ rs.length ≤ 20 ∧ ∀ n ∈ rs, Sm 4000 n
def sp__law_row (K : PySem.W.Frag) : Sp := fun vs H Q _ => ∃ (a : Addr) (ns : List Int), vs = [.ref a] ∧ SqL K H a (ns.map V.int) ∧ (∀ z ∈ ns, Bt 1048576 z) ∧ ∀ v H2, Ex H H2 → Row H v H2 → Q v H2
theorem len__law_row {vs : List V} {H : Hp} {Q : VK} {E : XK} (h : sp__law_row K vs H Q E) : vs.length = 1 := by obtain ⟨a, ns, rfl, _⟩ := h; rfl
theorem Row.back {H H1 : Hp} {v : V} {H2 : Hp} (e : Ex H H1) (h : Row H1 v H2) : Row H v H2 := by
  obtain ⟨D, L, rfl, n0, r⟩ := h
  exact ⟨D, L, rfl, fresh_back e n0, r⟩
def longs : List Nat := [2, 4, 6, 8]
theorem longs_at : ∀ j : Nat, j < 4 → (longs.map vi)[j]? = some (vi (longs.getD j 2)) := by decide
theorem longs_ok : ∀ j : Nat, j < 4 → longs.getD j 2 ≤ 8 := by decide
theorem mem_set {ns : List Nat} {j : Nat} {x y : Nat} (h : y ∈ ns.set j x) : y ∈ ns ∨ y = x := List.mem_or_eq_of_mem_set h
/-- _law_row: 0 _law_script, 1 _law_kind, 2 _law_long, 3 _law_row_here, 4 _law_k, 5 _law_cell, 6 _law_limit, 7 _law_number, 8 _law_at -/
def t__law_row (K : PySem.W.Frag) (w : World) : TS := tSeq (tAsg (tCall (sp__law_draw K) [] E0 (tCons (tCall (sp__law_cell_at K) [] E0 (tCons (tVar 0) (tCons (tC (.int 0)) tNil))) (tCons (tC (.int 6)) (tCons (tC (.int 7)) tNil)))) (gName 1)) (tSeq (tAsg (tOp (rIxT K) (tTup (tCons (tC (.int 2)) (tCons (tC (.int 4)) (tCons (tC (.int 6)) (tCons (tC (.int 8)) tNil))))) (tCall (sp__law_draw K) [] E0 (tCons (tCall (sp__law_cell_at K) [] E0 (tCons (tVar 0) (tCons (tC (.int 1)) tNil))) (tCons (tC (.int 7)) (tCons (tC (.int 4)) tNil))))) (gName 2)) (tSeq (tIfS (tTest (tOp rEq (tCall (sp__law_draw K) [] E0 (tCons (tCall (sp__law_cell_at K) [] E0 (tCons (tVar 0) (tCons (tC (.int 1)) tNil))) (tCons (tC (.int 8)) (tCons (tC (.int 16)) tNil)))) (tC (.int 3)))) (tAsg (tC (.int 20)) (gName 2)) tNext) (tSeq (tIfS (tTest (tOp rEq (tVar 1) (tC (.int 0)))) (tRet (tLc (iEnum K (tCons (tSl (rSlL K) (tVar 0) tNoPart (tPart (tCB rMin2 (tCons (tVar 2) (tCons (tC (.int 5)) tNil))))) tNil)) (gTup K 2 (gCons (gName 4) (gCons (gName 5) gNil))) tYes (tCall (sp__law_value K) [] E0 (tCons (tVar 5) (tCons (tVar 4) (tCons (tC (.int 40)) tNil)))) [4, 5])) tNext) (tSeq (tAsg (tLst tNil) (gName 3)) (tSeq (tFor (iEnum K (tCons (tSl (rSlL K) (tVar 0) tNoPart (tPart (tVar 2))) tNil)) (gTup K 2 (gCons (gName 4) (gCons (gName 5) gNil))) (tSeq (tAsg (tIf (tTest (tOp oGt (tVar 4) (tC (.int 0)))) (tCall (sp__law_moved K) [] E0 (tCons (tVar 4) (tCons (tOp (rIxL K) (tVar 3) (tUn oNeg (tC (.int 1)))) (tCons (tC (.int 1)) tNil)))) (tOp oPow (tC (.int 10)) (tC (.int 40)))) (gName 6)) (tSeq (tAsg (tIf (tTest (tOp oLt (tVar 2) (tC (.int 5)))) (tCall (sp__law_value K) [] E0 (tCons (tVar 5) (tCons (tVar 4) (tCons (tC (.int 30)) tNil)))) (tCall (sp__law_draw K) [] E0 (tCons (tOp oAdd (tOp oMod (tVar 5) (tOp oPow (tC (.int 10)) (tC (.int 18)))) (tOp oMul (tC (.int 31)) (tVar 4))) (tCons (tC (.int 5)) (tCons (tC (.int 24)) tNil))))) (gName 7)) (tSeq (tIfS (tAnd (tTest (tOp oGt (tCall (sp__law_draw K) [] E0 (tCons (tOp oMod (tVar 5) (tOp oPow (tC (.int 10)) (tC (.int 18)))) (tCons (tC (.int 3)) (tCons (tC (.int 3)) tNil)))) (tC (.int 0)))) (tTest (tOp oGt (tVar 4) (tC (.int 0))))) (tAsg (tCB rMax2 (tCons (tC (.int 0)) (tCons (tOp oSub (tVar 6) (tOp oMod (tVar 7) (tC (.int 4)))) tNil))) (gName 7)) tNext) (tDrop (tBM K "list" rAppend (tVar 3) (tCons (tCB rMin2 (tCons (tVar 6) (tCons (tVar 7) tNil))) tNil))))))) (tSeq (tIfS (tAnd (tTest (tOp oGt (tVar 1) (tC (.int 4)))) (tTest (tOp (rNeD K) (tVar 3) (tLst tNil)))) (tSeq (tAsg (tCall (sp__law_draw K) [] E0 (tCons (tCall (sp__law_cell_at K) [] E0 (tCons (tVar 0) (tCons (tC (.int 2)) tNil))) (tCons (tC (.int 8)) (tCons (tCB (rLenS K) (tCons (tVar 3) tNil)) tNil)))) (gName 8)) (tAsg (tIf (tTest (tOp rEq (tVar 1) (tC (.int 5)))) (tOp oAdd (tOp (rIxL K) (tVar 3) (tVar 8)) (tC (.int 1))) (tCB rMax2 (tCons (tC (.int 0)) (tCons (tOp oSub (tOp (rIxL K) (tVar 3) (tVar 8)) (tC (.int 2))) tNil)))) (gSub (tVar 3) (tVar 8) rSetL))) tNext) (tRet (tVar 3))))))))
theorem pure__law_row {vs : List V} {H : Hp} {Q : VK} {E : XK} (h : sp__law_row K vs H Q E) : t__law_row K w { nx := fun _ H' => Q .non H', rt := Q } (start ["_law_script", "_law_kind", "_law_long", "_law_row_here", "_law_k", "_law_cell", "_law_limit", "_law_number", "_law_at"] vs) H := by
  obtain ⟨a, ns, rfl, ha, hns, q⟩ := h
  show t__law_row K w _ [some (.ref a), none, none, none, none, none, none, none, none] H
  have b0 := (bt_getD hns 0).up (show 1048576 ≤ 10000000 by omega)
  have b1 := (bt_getD hns 1).up (show 1048576 ≤ 10000000 by omega)
  have b2 := (bt_getD hns 2).up (show 1048576 ≤ 10000000 by omega)
  have d1 : drawF (ns.getD 1 0) 7 4 < 4 := drawF_lt (by omega)
  obtain ⟨kd, hkd⟩ : ∃ kd, kd = drawF (ns.getD 0 0) 6 7 := ⟨_, rfl⟩
  obtain ⟨l0, hl0⟩ : ∃ l0, l0 = longs.getD (drawF (ns.getD 1 0) 7 4) 2 := ⟨_, rfl⟩
  have ol := longs_ok _ d1
  rw [← hl0] at ol
  have cellv : ∀ {σ : L2.St} {H : Hp} {k : Nat}, σ[0]? = some (some (.ref a)) → SqL K H a (ns.map V.int) → Ev (tCall (sp__law_cell_at K) [] E0 (tCons (tVar 0) (tCons (tC (.int k)) tNil))) σ H (.int (ns.getD k 0)) := fun hσ ha => ev_call (vs := [.ref a, vi _]) (ea_cons (ev_var hσ) (ea_cons ev_c ea_nil)) (v_cell ha)
  refine q_asg (v := vi kd) (ev_is (ev_call (vs := [.int (ns.getD 0 0), vi 6, vi 7]) (ea_cons (cellv (k := 0) rfl ha) (ea_cons ev_c (ea_cons ev_c ea_nil))) (v_draw b0 (by omega) (by omega))) (by rw [hkd])) fun H1 e1 => ?_
  refine q_asg (v := vi l0) (ev_ixU (i := (drawF (ns.getD 1 0) 7 4 : Nat)) (eu_tup (vs := longs.map vi) (ea_cons ev_c (ea_cons ev_c (ea_cons ev_c (ea_cons ev_c ea_nil)))) (by decide)) (ev_call (vs := [.int (ns.getD 1 0), vi 7, vi 4]) (ea_cons (cellv (k := 1) rfl (ex_l e1 ha)) (ea_cons ev_c (ea_cons ev_c ea_nil))) (v_draw b1 (by omega) (by omega))) (by rw [hl0]; exact atI_nat (longs_at _ d1))) fun H2 e2 => ?_
  have e12 := e1.trans e2
  obtain ⟨lg, hlg⟩ : ∃ lg, lg = if drawF (ns.getD 1 0) 8 16 = 3 then 20 else l0 := ⟨_, rfl⟩
  have hlg20 : lg ≤ 20 := by rw [hlg]; split <;> omega
  refine q_ifAsg (v := vi lg) (et_test (ev_eqI (j := 3) (ev_call (vs := [.int (ns.getD 1 0), vi 8, vi 16]) (ea_cons (cellv (k := 1) rfl (ex_l e12 ha)) (ea_cons ev_c (ea_cons ev_c ea_nil))) (v_draw b1 (by omega) (by omega))) ev_c)) (fun hb => ?_) (fun hb => ?_) fun H3 e3 => ?_
  · have hb' := of_decide_eq_true hb
    rw [hlg, if_pos (by omega)]
    exact ev_c
  · have hb' := of_decide_eq_false hb
    rw [hlg, if_neg (by omega)]
    rfl
  have e123 := e12.trans e3
  have ha3 := ex_l e123 ha
  -- any counts
  refine q_when (et_test (ev_eqI (i := (kd : Int)) (j := 0) (ev_var rfl) ev_c)) (fun hb H4 e4 => ?_) fun hb H4 e4 => ?_
  · have hrow : EvL (tLc (iEnum K (tCons (tSl (rSlL K) (tVar 0) tNoPart (tPart (tCB rMin2 (tCons (tVar 2) (tCons (tC (.int 5)) tNil))))) tNil)) (gTup K 2 (gCons (gName 4) (gCons (gName 5) gNil))) tYes (tCall (sp__law_value K) [] E0 (tCons (tVar 5) (tCons (tVar 4) (tCons (tC (.int 40)) tNil)))) [4, 5])
        [some (.ref a), some (vi kd), some (vi lg), none, none, none, none, none, none] H4 ((List.range ((ns.map V.int).take (min lg 5)).length).map fun j => vi (valF (ns.getD j 0) j 40)) := by
      refine el_lc2 _ (ei_enum (es_L (el_is (el_slS (es_v (ev_var rfl) (ex_l e4 ha3)) eo_none (eo_some (i := ((min lg 5 : Nat) : Int)) (ev_is (ev_minI (ev_var rfl) ev_c) (by show V.int _ = V.int _; congr 1; exact min_nat (b := 5))))) (cut_to _ _)))) ?_ (fun _ _ => rfl) fun j x y H5 hj hx hy e => ?_
      · rw [List.length_take]
        omega
      · cases hx
        have hy2 : ((ns.map V.int).take (min lg 5))[j]? = some y := hy
        rw [List.getElem?_take] at hy2
        split at hy2
        · rename_i hjl
          rw [List.getElem?_map] at hy2
          obtain ⟨cl, hcl, rfl⟩ : ∃ cl, ns[j]? = some cl ∧ y = .int cl := by
            cases e : ns[j]? with
            | none => rw [e] at hy2; cases hy2
            | some cl => rw [e] at hy2; exact ⟨cl, rfl, (Option.some.inj hy2).symm⟩
          have ecl : ns.getD j 0 = cl := by rw [List.getD_eq_getElem?_getD, hcl]; rfl
          rw [ecl]
          exact ev_call (vs := [.int cl, vi j, vi 40]) (ea_cons (ev_var rfl) (ea_cons (ev_var rfl) (ea_cons ev_c ea_nil))) (v_value (hns cl (List.mem_of_getElem? hcl)) (by omega) (by omega) (by omega))
        · cases hy2
    refine s_retL (el_N hrow) fun p H5 np e5 hp => q _ H5 (e123.trans (e4.trans e5)) ⟨p, _, rfl, fresh_back (e123.trans e4) np, hp, ?_, fun n hn => ?_⟩
    · rw [List.length_map, List.length_range, List.length_take]
      omega
    · obtain ⟨j, _, rfl⟩ := List.mem_map.mp hn
      exact (valF_sm (by omega) (by omega)).up (by omega)
  -- no more than can be
  have e14 := e123.trans e4
  refine q_asgL (el_lst ea_nil (by decide)) fun f H5 nf e5 hf => ?_
  have nf0 : H f = none := fresh_back e14 nf
  have e15 := e14.trans e5
  obtain ⟨N, hN⟩ : ∃ N : Nat, N = 10 ^ 40 := ⟨_, rfl⟩
  have hsl : EvL (tSl (rSlL K) (tVar 0) tNoPart (tPart (tVar 2))) [some (.ref a), some (vi kd), some (vi lg), some (.ref f), none, none, none, none, none] H5 ((ns.map V.int).take lg) :=
    el_is (el_slS (es_v (ev_var rfl) (ex_l e15 ha)) eo_none (eo_some (i := (lg : Int)) (ev_var rfl))) (cut_to _ lg)
  refine q_forN (ei_enumN hsl) (fun H6 i σ H7 => ∃ (L : List Nat) (x4 x5 x6 x7 : Option V), Chg H6 f (.lst (L.map vi)) H7 ∧ σ = [some (.ref a), some (vi kd), some (vi lg), some (.ref f), x4, x5, x6, x7, none] ∧ L.length = i ∧ ∀ (j n : Nat), L[j]? = some n → n ≤ C N (j + 1))
    (fun H6 e6 => ⟨[], _, _, _, _, Chg.refl (e6 _ _ hf), rfl, rfl, fun j n h => by simp at h⟩) (fun H6 i σ H7 e6 p o u ho h2 => ?_) (fun H6 i x σ H7 H8 e6 hi p hy => ?_) fun H6 σ H7 e6 p => ?_
  · obtain ⟨L, x4, x5, x6, x7, c, _⟩ := p
    exact c.2 o u (fun h => by subst h; rw [hf] at ho; cases ho) h2
  · obtain ⟨L, x4, x5, x6, x7, c, rfl, hL, hB⟩ := p
    obtain ⟨T, u, v, rfl, nT, rfl, hu, hv⟩ := hy
    cases hu
    have hi20 : i < 20 := by
      rw [List.length_take] at hi
      omega
    have hv2 : (ns.map V.int)[i]? = some v := by
      have hv : ((ns.map V.int).take lg)[i]? = some v := hv
      rw [List.getElem?_take] at hv
      split at hv
      · exact hv
      · cases hv
    rw [List.getElem?_map] at hv2
    obtain ⟨cl, hcl, rfl⟩ : ∃ cl, ns[i]? = some cl ∧ v = .int cl := by
      cases e : ns[i]? with
      | none => rw [e] at hv2; cases hv2
      | some cl => rw [e] at hv2; exact ⟨cl, rfl, (Option.some.inj hv2).symm⟩
    have bcl := hns cl (List.mem_of_getElem? hcl)
    refine g_pair (st_of upd_same) ?_
    have c8 := c.ex (Ex.new (o := .tup [.int (i : Nat), .int cl]) nT)
    obtain ⟨lim, hlim⟩ : ∃ lim, lim = if i = 0 then N else ovr i (L.getD (i - 1) 0) := ⟨_, rfl⟩
    obtain ⟨n1, hn1⟩ : ∃ n1, n1 = if lg < 5 then valF cl i 30 else drawF (cl % 10 ^ 18 + 31 * i) 5 24 := ⟨_, rfl⟩
    obtain ⟨dd, hdd⟩ : ∃ dd, dd = drawF (cl % 10 ^ 18) 3 3 := ⟨_, rfl⟩
    obtain ⟨n2, hn2⟩ : ∃ n2, n2 = if 0 < dd ∧ 0 < i then lim - n1 % 4 else n1 := ⟨_, rfl⟩
    have blim : lim ≤ C N (i + 1) := by
      rw [hlim]
      split
      · rename_i h0
        rw [h0, Nat.zero_add, C_one]
        exact Nat.le_refl _
      · rename_i h0
        have hlast : L[i - 1]? = some (L.getD (i - 1) 0) := by
          rw [List.getD_eq_getElem?_getD, List.getElem?_eq_getElem (by omega)]
          rfl
        have := hB _ _ hlast
        rw [show i - 1 + 1 = i by omega] at this
        exact ovr_bound (by rw [hN]; omega) (by omega) this
    refine q_asg (v := vi lim) (ev_if (et_test (ev_gt (i := ((i : Nat) : Int)) (ev_var rfl) ev_c)) (fun hb => ?_) fun hb => ?_) fun H9 e9 => ?_
    · have hb' := of_decide_eq_true hb
      have hlast : L[i - 1]? = some (L.getD (i - 1) 0) := by
        rw [List.getD_eq_getElem?_getD, List.getElem?_eq_getElem (by omega)]
        rfl
      have hB1 := hB _ _ hlast
      have hlastV : (L.map vi)[i - 1]? = some (vi (L.getD (i - 1) 0)) := by rw [List.getElem?_map, hlast]; rfl
      rw [hlim, if_neg (by omega)]
      exact ev_call (sp := sp__law_moved K) (vs := [vi i, vi (L.getD (i - 1) 0), .int 1]) (ea_cons (ev_var rfl) (ea_cons (ev_ixS (i := -1) (es_v (ev_var rfl) (sq_of c8.1)) (ev_neg ev_c) (atI_last (n := i - 1) (by rw [List.length_map]; omega) hlastV)) (ea_cons ev_c ea_nil))) (v_mvO (by omega) ((row_sm hN (by omega) hB1).up (by omega)))
    · have hb' := of_decide_eq_false hb
      rw [hlim, if_pos (by omega), hN]
      exact ev_is (ev_pow ev_c ev_c pow40) rfl
    refine q_asg (v := vi n1) (ev_if (et_test (ev_lt (i := (lg : Int)) (ev_var rfl) ev_c)) (fun hb => ?_) fun hb => ?_) fun H10 e10 => ?_
    · have hb' := of_decide_eq_true hb
      rw [hn1, if_pos (by omega)]
      exact ev_call (vs := [.int cl, vi i, vi 30]) (ea_cons (ev_var rfl) (ea_cons (ev_var rfl) (ea_cons ev_c ea_nil))) (v_value bcl (by omega) (by omega) (by omega))
    · have hb' := of_decide_eq_false hb
      rw [hn1, if_neg (by omega)]
      have bb : Bt 10000000 (cl % 10 ^ 18 + 31 * (i : Int)) := ((bt_mod18 cl).add (Bt.num (b := 6840) (i := 31 * (i : Int)) (by omega))).up (by omega)
      exact ev_call (vs := [.int (cl % 10 ^ 18 + 31 * i), vi 5, vi 24]) (ea_cons (ev_add (ev_mod (ev_var rfl) (ev_pow ev_c ev_c pow18) (by decide)) (ev_mul ev_c (ev_var rfl) (Bt.cmul (Bt.num (b := 31) (by decide)) (Bt.num (b := 100) (by omega)) (by omega)))) (ea_cons ev_c (ea_cons ev_c ea_nil))) (v_draw bb (by omega) (by omega))
    refine q_ifAsg (v := vi n2) (b := decide (0 < dd ∧ 0 < i)) (et_is (et_and (et_test (ev_gt (i := ((dd : Nat) : Int)) (ev_is (ev_call (vs := [.int (cl % 10 ^ 18), vi 3, vi 3]) (ea_cons (ev_mod (ev_var rfl) (ev_pow ev_c ev_c pow18) (by decide)) (ea_cons ev_c (ea_cons ev_c ea_nil))) (v_draw ((bt_mod18 cl).up (by omega)) (by omega) (by omega))) (by rw [hdd])) ev_c)) fun _ => et_test (ev_gt (i := ((i : Nat) : Int)) (ev_var rfl) ev_c)) ?_) (fun hb => ?_) (fun hb => ?_) fun H11 e11 => ?_
    · by_cases h1 : 0 < dd <;> by_cases h2 : 0 < i <;> simp [h1, h2]
    · rw [hn2, if_pos (of_decide_eq_true hb)]
      exact ev_is (ev_maxI ev_c (ev_sub (ev_var rfl) (ev_is (ev_mod (ev_var rfl) ev_c (by decide)) (w := vi (n1 % 4)) rfl))) (by show V.int _ = V.int _; congr 1; exact max_nat)
    · rw [hn2, if_neg (of_decide_eq_false hb)]
      rfl
    have c11 := c8.ex (e9.trans (e10.trans e11))
    refine s_app c11.1 (ev_var rfl) (ev_is (ev_minI (ev_var rfl) (ev_var rfl)) (w := vi (min lim n2)) (by show V.int _ = V.int _; congr 1; exact min_nat)) (by rw [List.length_map]; omega) fun H12 e12 => ⟨L ++ [min lim n2], _, _, _, _, ?_, rfl, by rw [List.length_append, hL]; rfl, fun j n h => ?_⟩
    · rw [List.map_append]
      exact (c11.ex e12).put
    · by_cases hj : j < i
      · rw [List.getElem?_append_left (by omega)] at h
        exact hB j n h
      · have hj2 : j = i := by
          have := (List.getElem?_eq_some_iff.mp h).1
          rw [List.length_append] at this
          have h1 : [min lim n2].length = 1 := rfl
          omega
        subst hj2
        rw [List.getElem?_append_right (by omega), hL, Nat.sub_self] at h
        have : min lim n2 = n := Option.some.inj h
        omega
  · obtain ⟨L, x4, x5, x6, x7, c, rfl, hL, hB⟩ := p
    have hL20 : L.length ≤ 20 := by
      rw [hL, List.length_take]
      omega
    have hsm : ∀ n ∈ L, Sm 3000 n := fun n hn => by
      obtain ⟨j, hj⟩ := List.getElem?_of_mem hn
      have := (List.getElem?_eq_some_iff.mp hj).1
      exact row_sm hN (by omega) (hB j n hj)
    have ha7 : SqL K H7 a (ns.map V.int) := by
      have h6 := ex_l (e15.trans e6) ha
      exact ex_l (c.over (e14.trans (e5.trans e6)) nf0) ha
    refine q_when (b := decide (4 < kd ∧ L ≠ [])) (et_is (et_and (et_test (ev_gt (i := (kd : Int)) (ev_var rfl) ev_c)) fun _ => et_test (ev_neD (ed_v (ev_var rfl) (dp_n (ns := L) (sq_of c.1))) (ed_N (ns := []) (es_L (el_lst ea_nil (by decide)))) (sh_ints _) (sh_ints _))) ?_) (fun hb H8 e8 => ?_) fun hb H8 e8 => ?_
    · unfold dl
      rw [eqv_n]
      by_cases h1 : 4 < kd
      · have h3 : (4 : Int) < (kd : Int) := by omega
        by_cases h2 : L = [] <;> simp [h1, h2, h3]
      · have h3 : ¬ (4 : Int) < (kd : Int) := by omega
        by_cases h2 : L = [] <;> simp [h1, h2, h3]
    · have hb' := of_decide_eq_true hb
      have hpos : 0 < L.length := List.length_pos_iff.mpr hb'.2
      have c8 := c.ex e8
      obtain ⟨at_, hat⟩ : ∃ at_, at_ = drawF (ns.getD 2 0) 8 L.length := ⟨_, rfl⟩
      have hatl : at_ < L.length := by rw [hat]; exact drawF_lt hpos
      refine q_asg (v := vi at_) (ev_is (ev_call (vs := [.int (ns.getD 2 0), vi 8, vi L.length]) (ea_cons (cellv (k := 2) rfl (ex_l e8 ha7)) (ea_cons ev_c (ea_cons (ev_is (ev_lenS (es_v (ev_var rfl) (sq_of c8.1))) (by rw [List.length_map])) ea_nil))) (v_draw b2 (by omega) hpos)) (by rw [hat])) fun H9 e9 => ?_
      obtain ⟨o, ho⟩ : ∃ o, L[at_]? = some o := ⟨_, List.getElem?_eq_getElem hatl⟩
      have c9 := c8.ex e9
      have hoV : (L.map vi)[at_]? = some (vi o) := by rw [List.getElem?_map, ho]; rfl
      have so := hsm o (List.mem_of_getElem? ho)
      obtain ⟨o2, ho2⟩ : ∃ o2, o2 = if kd = 5 then o + 1 else o - 2 := ⟨_, rfl⟩
      have so2 : Sm 4000 o2 := by
        rw [ho2]
        split
        · exact (so.add (Sm.num (b := 3000) (n := 1) (by omega))).up (by omega)
        · exact (so.le (Nat.sub_le _ _)).up (by omega)
      have ev_o : ∀ {σ : L2.St}, σ[3]? = some (some (.ref f)) → σ[8]? = some (some (vi at_)) → Ev (tOp (rIxL K) (tVar 3) (tVar 8)) σ H9 (vi o) := fun h1 h2 => ev_ixS (i := ((at_ : Nat) : Int)) (es_v (ev_var h1) (sq_of c9.1)) (ev_var h2) (atI_nat hoV)
      refine s_setL (j := at_) (v := vi o2) c9.1 (ev_if (et_test (ev_eqI (i := (kd : Int)) (ev_var rfl) ev_c)) (fun hb => ?_) fun hb => ?_) (ev_var rfl) (ev_var rfl) (by rw [List.length_map]; exact hatl) fun H10 e10 => ?_
      · have hk5 := of_decide_eq_true hb
        rw [ho2, if_pos (by omega)]
        exact ev_is (ev_add (ev_o rfl rfl) ev_c) rfl
      · have hk5 := of_decide_eq_false hb
        rw [ho2, if_neg (by omega)]
        exact ev_is (ev_maxI ev_c (ev_sub (ev_o rfl rfl) ev_c)) (by show V.int _ = V.int _; congr 1; exact max_nat (b := 2))
      · have c10 := (c9.ex e10).put (o' := .lst ((L.map vi).set at_ (vi o2)))
        refine s_ret (ev_var rfl) fun H11 e11 => q _ H11 ((c10.ex e11).over (e15.trans e6) nf0) ⟨f, L.set at_ o2, rfl, nf0, ?_, by rw [List.length_set]; exact hL20, fun n hn => ?_⟩
        · rw [List.map_set]
          exact (c10.ex e11).1
        · rcases mem_set hn with h | rfl
          · exact (hsm n h).up (by omega)
          · exact so2
    · refine s_ret (ev_var rfl) fun H9 e9 => q _ H9 (((c.ex e8).ex e9).over (e15.trans e6) nf0) ⟨f, L, rfl, nf0, ((c.ex e8).ex e9).1, hL20, fun n hn => (hsm n hn).up (by omega)⟩
end Sx


set_option Elab.async false
set_option linter.all false
set_option maxRecDepth 100000
set_option maxHeartbeats 4000000
/-! lists in a tuple, pairs in a list; the answers' words -/
namespace Sx
open PySem PySem.Spec PyProof.Rows L2 Evl Mth
variable {K : PySem.W.Frag} {w : World}
/-- lists of naturals, at these addresses -/
inductive LA (K : PySem.W.Frag) (H : Hp) : List V → List (List Nat) → Prop where
  | nil : LA K H [] []
  | cons {p : Addr} {ns : List Nat} {vs : List V} {Ls : List (List Nat)} (h : SqL K H p (ns.map vi)) (r : LA K H vs Ls) : LA K H (.ref p :: vs) (ns :: Ls)
theorem LA.ex {H H' : Hp} (e : Ex H H') : ∀ {vs : List V} {Ls : List (List Nat)}, LA K H vs Ls → LA K H' vs Ls
  | _, _, .nil => .nil
  | _, _, .cons h r => .cons (ex_l e h) (r.ex e)
theorem LA.at {H : Hp} : ∀ {vs : List V} {Ls : List (List Nat)}, LA K H vs Ls → ∀ {i : Nat} {x : V}, vs[i]? = some x → ∃ p ns, x = .ref p ∧ Ls[i]? = some ns ∧ SqL K H p (ns.map vi)
  | _, _, .nil, i, x, h => by simp at h
  | _, _, .cons (p := p) (ns := ns) h r, 0, x, e => ⟨p, ns, (Option.some.inj e).symm, rfl, h⟩
  | _, _, .cons h r, i + 1, x, e => r.at (i := i) (x := x) e
theorem LA.len {H : Hp} : ∀ {vs : List V} {Ls : List (List Nat)}, LA K H vs Ls → vs.length = Ls.length
  | _, _, .nil => rfl
  | _, _, .cons _ r => congrArg Nat.succ r.len
def EvX (K : PySem.W.Frag) (ta : TA) (σ : L2.St) (H : Hp) (Ls : List (List Nat)) : Prop := ∀ H1, Ex H H1 → ∀ Q : List V → Hp → Prop, (∀ vs H2, Ex H1 H2 → LA K H2 vs Ls → Q vs H2) → ta σ H1 Q
/-- pairs of ints -/
inductive PA (K : PySem.W.Frag) (H : Hp) : List V → List (Int × Int) → Prop where
  | nil : PA K H [] []
  | cons {p : Addr} {a b : Int} {vs : List V} {Ls : List (Int × Int)} (h : SqT K H p [.int a, .int b]) (r : PA K H vs Ls) : PA K H (.ref p :: vs) ((a, b) :: Ls)
theorem PA.ex {H H' : Hp} (e : Ex H H') : ∀ {vs : List V} {Ls : List (Int × Int)}, PA K H vs Ls → PA K H' vs Ls
  | _, _, .nil => .nil
  | _, _, .cons h r => .cons (ex_t e h) (r.ex e)
theorem PA.at {H : Hp} : ∀ {vs : List V} {Ls : List (Int × Int)}, PA K H vs Ls → ∀ {i : Nat} {x : V}, vs[i]? = some x → ∃ p a b, x = .ref p ∧ SqT K H p [.int a, .int b]
  | _, _, .nil, i, x, h => by simp at h
  | _, _, .cons (p := p) (a := a) (b := b) h r, 0, x, e => ⟨p, a, b, (Option.some.inj e).symm, h⟩
  | _, _, .cons h r, i + 1, x, e => r.at (i := i) (x := x) e
theorem PA.app {H : Hp} : ∀ {vs us : List V} {Ls Ms : List (Int × Int)}, PA K H vs Ls → PA K H us Ms → PA K H (vs ++ us) (Ls ++ Ms)
  | _, _, _, _, .nil, h => h
  | _, _, _, _, .cons a r, h => .cons a (r.app h)
theorem PA.len {H : Hp} : ∀ {vs : List V} {Ls : List (Int × Int)}, PA K H vs Ls → vs.length = Ls.length
  | _, _, .nil => rfl
  | _, _, .cons _ r => congrArg Nat.succ r.len
def EvQ (K : PySem.W.Frag) (ta : TA) (σ : L2.St) (H : Hp) (Ls : List (Int × Int)) : Prop := ∀ H1, Ex H H1 → ∀ Q : List V → Hp → Prop, (∀ vs H2, Ex H1 H2 → PA K H2 vs Ls → Q vs H2) → ta σ H1 Q
section
variable {σ : L2.St} {H : Hp} {ta tb te : TE} {tr : TA}
theorem ex_nil : EvX K tNil σ H [] := fun H1 _ Q q => q [] H1 (Ex.refl _) .nil
theorem ex_cons {ns : List Nat} {Ls : List (List Nat)} (h : EvS K te σ H (ns.map vi)) (hr : EvX K tr σ H Ls) : EvX K (tCons te tr) σ H (ns :: Ls) := fun H1 e Q q =>
  h H1 e _ fun p H2 e2 hp => hr H2 (e.trans e2) _ fun vs H3 e3 r => q _ H3 (e2.trans e3) (.cons (ex_l e3 hp) r)
theorem ep_X {Ls : List (List Nat)} (h : EvX K tr σ H Ls) (hl : Ls.length ≤ 100000) : EvP (tTup tr) σ H fun _ v H2 => ∃ p vs, v = .ref p ∧ SqT K H2 p vs ∧ LA K H2 vs Ls := fun H1 e Q q =>
  h H1 e _ fun vs H2 e2 r => ⟨sz_of (by rw [r.len]; exact hl), fun p hp => q _ _ (e2.trans (Ex.new hp)) ⟨p, vs, rfl, st_of upd_same, r.ex (Ex.new hp)⟩⟩
theorem eq_nil : EvQ K tNil σ H [] := fun H1 _ Q q => q [] H1 (Ex.refl _) .nil
theorem eq_cons {a b : Int} {Ls : List (Int × Int)} (h : Ev ta σ H (.int a)) (h2 : Ev tb σ H (.int b)) (hr : EvQ K tr σ H Ls) : EvQ K (tCons (tTup (tCons ta (tCons tb tNil))) tr) σ H ((a, b) :: Ls) := fun H1 e Q q =>
  (eu_tup (vs := [.int a, .int b]) (ea_cons h (ea_cons h2 ea_nil)) (by show 2 ≤ 100000; decide)) H1 e _ fun p H2 _ e2 hp => hr H2 (e.trans e2) _ fun vs H3 e3 r => q _ H3 (e2.trans e3) (.cons (ex_t e3 (st_of hp)) r)
theorem ep_Q {Ls : List (Int × Int)} (h : EvQ K tr σ H Ls) (hl : Ls.length ≤ 100000) : EvP (tLst tr) σ H fun _ v H2 => ∃ p vs, v = .ref p ∧ H2 p = some (.lst vs) ∧ PA K H2 vs Ls := fun H1 e Q q =>
  h H1 e _ fun vs H2 e2 r => ⟨sz_of (by rw [r.len]; exact hl), fun p hp => q _ _ (e2.trans (Ex.new hp)) ⟨p, vs, rfl, upd_same, r.ex (Ex.new hp)⟩⟩
theorem el_catV {l m : Addr} {xs ys : List V} (ha : Ev ta σ H (.ref l)) (hb : Ev tb σ H (.ref m)) (hl : H l = some (.lst xs)) (hm : H m = some (.lst ys)) (hz : xs.length + ys.length ≤ 100000) : EvL (tOp rCat ta tb) σ H (xs ++ ys) := fun H1 e Q q =>
  ha H1 e _ fun H2 e2 => hb H2 (e.trans e2) _ fun H3 e3 => ⟨l, m, xs, ys, rfl, rfl, ((e.trans e2).trans e3) _ _ hl, ((e.trans e2).trans e3) _ _ hm, sz_of hz, fun d hd => q d _ (fresh_back (e2.trans e3) hd) ((e2.trans e3).trans (Ex.new hd)) upd_same⟩
/-- a for over a tuple that is told by a shape -/
theorem q_forTP {g : TG} {tu tz : TS} {D : Ends} {R : Hp → V → Hp → Prop} (h : EvP te σ H R)
    (k : ∀ v H1, Ex H H1 → R H v H1 → ∃ p xs, v = .ref p ∧ SqT K H1 p xs ∧ ∃ I : Nat → L2.St → Hp → Prop, I 0 σ H1 ∧ (∀ i σ' H', I i σ' H' → SqT K H' p xs) ∧
      (∀ i x σ' H', xs[i]? = some x → I i σ' H' → g x σ' H' fun σ2 H4 => tu { D with nx := I (i + 1), ct := I (i + 1), bk := tz D } σ2 H4) ∧ ∀ σ' H', I xs.length σ' H' → tz D σ' H') : tSeq (tFor (iTup K te) g tu) tz D σ H :=
  h H (Ex.refl H) _ fun v H1 e r => by
    obtain ⟨p, xs, rfl, hp, I, h0, hl, hs, hd⟩ := k v H1 e r
    exact ⟨p, rfl, ⟨xs, hp⟩, for_tup (D := { D with nx := tz D }) I h0 (fun i σ' H' _ z => hl i σ' H' z) hs hd⟩
/-- i, j = a pair -/
theorem q_asgT2 {tz : TS} {D : Ends} {i j : Nat} {R : V → V → Hp → Prop} (h : EvP te σ H fun _ v H2 => ∃ t a b, v = .ref t ∧ SqT K H2 t [a, b] ∧ R a b H2) (k : ∀ a b H1, Ex H H1 → R a b H1 → tz D ((σ.set i (some a)).set j (some b)) H1) :
    tSeq (tAsg te (gTup K 2 (gCons (gName i) (gCons (gName j) gNil)))) tz D σ H := h H (Ex.refl H) _ fun v H1 e r => by
  obtain ⟨t, a, b, rfl, ht, hr⟩ := r
  exact g_pair ht (k a b H1 e hr)
/-! ### x.shows(row) -/
theorem ev_can_shows {ns : List Nat} (hx : EvP ta σ H fun _ v H2 => IsC K H2 v) (hp : EvS K tb σ H (ns.map vi)) (hl : ns.length ≤ 21) (hs : ∀ n ∈ ns, Sm 200000 n) :
    Ev (tMeth (cCan K) "shows" (sp_Can_shows K) [] E0 ta (tCons tb tNil)) σ H (.bl (decide (bar ns = none))) := fun H1 e Q q => hx H1 e _ fun v H2 e2 hc => by
  obtain ⟨x, dx, rfl, hx2⟩ := hc
  exact ⟨x, dx, [], rfl, hx2, rfl, hp H2 (e.trans e2) _ fun p H3 e3 hp3 => ⟨x, p, ns, rfl, hp3, hl, hs, fun H4 e4 => q H4 (e2.trans (e3.trans e4))⟩⟩
theorem ev_bar_shows {ns : List Nat} {s m : Int} (cf : CF K) (hx : EvP ta σ H fun _ v H2 => IsB K H2 v (.int s) (.int m)) (hp : EvS K tb σ H (ns.map vi)) (hl : ns.length ≤ 21) (hs : ∀ n ∈ ns, Sm 200000 n) :
    Ev (tMeth (cBar K) "shows" (sp_Barred_shows K) [] E0 ta (tCons tb tNil)) σ H (.bl (decide (barI ns = some (s, m)))) := fun H1 e Q q => hx H1 e _ fun v H2 e2 hc => by
  obtain ⟨x, dx, rfl, hx2⟩ := hc
  exact ⟨x, dx, _, rfl, hx2, rfl, hp H2 (e.trans e2) _ fun p H3 e3 hp3 => ⟨.ref x, p, ns, s, m, rfl, IsB.ex ⟨x, dx, rfl, hx2⟩ e3, cf, hp3, hl, hs, fun H4 e4 => q H4 (e2.trans (e3.trans e4))⟩⟩
end
/-! ### what is due, as data -/
def dueD (ns : List Nat) : PyData := match bar ns with
  | none => .none
  | some (s, m) => .tuple ([(s : Int), (m : Int)].map .int)
theorem DueV.dp {ns : List Nat} {H H2 : Hp} {v : V} (h : DueV ns H v H2) : Dp K H2 v (dueD ns) := by
  unfold dueD
  rcases h with ⟨e, rfl⟩ | ⟨s, m, t, e, rfl, _, ht⟩
  · rw [e]
    exact .non
  · rw [e]
    exact .tup (st_of ht) (dpInts [(s : Int), (m : Int)])
theorem sh_due (ns : List Nat) : SeqAt.shaped (dueD ns) = true := by
  unfold dueD
  cases bar ns with
  | none => decide
  | some q => exact sh_intsT _
theorem eqv_due (ns : List Nat) (s m : Int) : PyData.eqv (dueD ns) (.tuple ([s, m].map .int)) = decide (barI ns = some (s, m)) := by
  unfold dueD barI
  cases bar ns with
  | none => simp [PyData.eqv]
  | some q =>
    obtain ⟨x, y⟩ := q
    dsimp only
    rw [eqv_tu]
    simp
end Sx

set_option Elab.async false
set_option linter.all false
set_option maxRecDepth 100000
set_option maxHeartbeats 4000000
/-! list(range(a, b, c)); isinstance with the two classes -/
namespace Sx
open PySem PySem.Spec PyProof.Rows L2 Evl Mth
/-- the ints i, i + c, .. -/
def rgC (i c : Int) (n : Nat) : List V := (List.range n).map fun k => V.int (i + (k : Nat) * c)
def tLstR3 (ta : TA) : TE := fun σ H Q => ta σ H fun vs H1 => ∃ (i j c : Int) (n : Nat), vs = [.int i, .int j, .int c] ∧ RgC i j c n ∧ n ≤ 100000 ∧ ∀ q, H1 q = none → Q (.ref q) (upd H1 q (.lst (rgC i c n)))
theorem vals_rgC {i c : Int} {n : Nat} {acc : Array Value} (h : ItemsOf (fun k v => ∃ t, v = .int (i + k * c) t) acc n) : Vals (rgC i c n) acc.toList := by
  have e : acc.toList.length = n := by rw [Array.length_toList]; exact h.1
  unfold rgC
  rw [← e]
  refine vals_of_get acc.toList _ fun j u hj => ?_
  obtain ⟨t, rfl⟩ := h.2 j u (by rw [← hj, Array.getElem?_toList])
  exact ⟨t, rfl⟩
section
variable {X : Cx}
theorem pe_listR3 {a b c : Expr} {ta : TA} {p pos p2 pos2 : Pos} (hcm : X.calm = true) (hgl : Gl X "list") (hml : X.mg "list" = none) (hg : Gl X "range") (hm : X.mg "range" = none) (ha : L2.PA X [a, b, c] ta)
    (hs : starEach [a, b, c] X.env = (false, eval a X.env) :: starEach [b, c] X.env := by rfl) (hpl : (backTo pos (starEach [b, c] X.env)).any (·.1) = false := by rfl)
    (na : starEach [.Call (.Name "range" p) [a, b, c] [] pos] X.env = (false, eval (.Call (.Name "range" p) [a, b, c] [] pos) X.env) :: starEach [] X.env := by rfl) :
    PE X (.Call (.Name "list" p2) [.Call (.Name "range" p) [a, b, c] [] pos] [] pos2) (tLstR3 ta) := by
  refine ⟨fun pins s σ H Q I h => ?_⟩
  have hr : wpAny (model X.prog X.w) X.A (eval (.Call (.Name "range" p) [a, b, c] [] pos) X.env) (fun x s' => ∃ r i j k t u v n H', x = .ref r ∧ IsRange s'.heap r i j k t u v ∧ Inv X pins σ H' s' ∧ RgC i j k n ∧ n ≤ 100000 ∧ ∀ q, H' q = none → Q (.ref q) (upd H' q (.lst (rgC i k n)))) X.xe s := by
    refine Call_ (ld_blt I hg hm boot_range (PyProof.Rows.callWith_type1 (thn (ha.run pos pins s σ H _ I h) fun us s1 ⟨vs, H1, I1, r1, q1⟩ => ?_) hs hpl))
    obtain ⟨i, j, k, n, e, ok, hn, q⟩ := q1
    subst e
    cases r1 with
    | cons r rr =>
      cases rr with
      | cons r' rr =>
        cases rr with
        | cons r'' rr =>
          cases rr
          obtain ⟨t, rfl⟩ := r
          obtain ⟨t', rfl⟩ := r'
          obtain ⟨t'', rfl⟩ := r''
          refine call_range_3 ok.1 ?_ (.inl (PyProof.noPylong_small ok.2.1))
          exact ⟨_, i, j, k, _, _, _, n, H1, rfl, IsRange.new _ _ _ _ _ _ _, I1.kept fun b u e => Heap.get?_push_of_some _ e, ok, hn, q⟩
  refine Call_ (ld_blt I hgl hml boot_list (PyProof.Rows.callWith_type1 (args_cons (thn hr fun x s1 ⟨r, i, j, k, t, u, v, n, H1, ex, hr, I1, ok, hn, q⟩ => args_nil ?_) na) na))
  subst ex
  refine call_list_range (n := n) (I1.ok.hd hcm) hr ok.2.2.1 ok.2.2.2 (by omega) fun h' tk acc c' hk e' hi => ?_
  refine ⟨.ref s1.heap.objs.size, upd H1 s1.heap.objs.size (.lst (rgC i k n)), I1.laid hk (Nat.le_refl _) (show ObjOk X.prog X.w _ _ _ (.lst (rgC i k n)) from ⟨?_, acc.toList, c', vals_rgC hi, ?_⟩), rfl, q _ (I1.hok.fresh (Nat.le_refl _))⟩
  · unfold rgC
    rw [List.length_map, List.length_range, sizeLine_eq]
    omega
  · rw [Array.toArray_toList]; exact e'
end
section
variable {σ : L2.St} {H : Hp} {ta tb te : TE} {K : PySem.W.Frag}
theorem el_lrg3 {i j : Int} (ha : Ev ta σ H (.int i)) (hb : Ev tb σ H (.int j)) (hc : Ev te σ H (.int (-1))) (h0 : -100000 ≤ i ∧ i ≤ 50000) (h1 : -50000 ≤ j ∧ j ≤ 100000) : EvL (tLstR3 (tCons ta (tCons tb (tCons te tNil)))) σ H (rgC i (-1) (i - j).toNat) := fun H1 e Q q =>
  ea_cons ha (ea_cons hb (ea_cons hc ea_nil)) H1 e _ fun H2 e2 => ⟨i, j, -1, _, rfl, RgC.neg (by omega) (by omega) (by omega) (by omega), by omega, fun p hp => q p _ (fresh_back e2 hp) (e2.trans (Ex.new hp)) upd_same⟩
theorem el_lrg2 {i j : Int} (ha : Ev ta σ H (.int i)) (hb : Ev tb σ H (.int j)) (h0 : 0 ≤ i ∧ i ≤ 100000) (h1 : 0 ≤ j ∧ j ≤ 100000) : EvL (tLstRg (tRg2 ta tb)) σ H (rgV i j) := fun H1 e Q q =>
  ha H1 e _ fun H2 e2 => hb H2 (e.trans e2) _ fun H3 e3 => ⟨i, j, rfl, rfl, RgOk.of_le (by omega) (by omega) (by omega) (by omega), fun p hp => q p _ (fresh_back (e2.trans e3) hp) ((e2.trans e3).trans (Ex.new hp)) upd_same⟩
end
theorem el_lrg {σ : L2.St} {H : Hp} {te : TE} {u : Nat} (h : Ev te σ H (vi u)) (hu : u ≤ 1000000) : EvL (tLstRg (tRg1 te)) σ H ((List.range u).map vi) := fun H1 e Q q => h H1 e _ fun H2 e2 => ⟨(u : Int), rfl, RgOk.of_le (by omega) (by omega) (by omega) (by omega), fun p hp => by
  have ez : rgV 0 (u : Int) = (List.range u).map vi := by
    unfold rgV
    rw [show ((u : Int) - 0).toNat = u by omega]
    refine List.map_congr_left fun i _ => ?_
    rw [Int.zero_add]
  refine q p _ (fresh_back e2 hp) (e2.trans (Ex.new hp)) ?_
  rw [ez]
  exact upd_same⟩
/-! ### what isinstance says of the two classes -/
structure CI (K : PySem.W.Frag) : Prop extends CF K where
  tc : ∀ {H : Hp} {x dx : Addr} {fs : List (Str × V)}, H x = some (.ins (cCan K) dx fs) → TyX K H (.ref x) (.ref (cCan K))
  tb : ∀ {H : Hp} {x dx : Addr} {fs : List (Str × V)}, H x = some (.ins (cBar K) dx fs) → TyX K H (.ref x) (.ref (cBar K))
  kcc : PySem.W.kitOne K (.ref (cCan K)) (.ref (cCan K)) = some true
  kcb : PySem.W.kitOne K (.ref (cCan K)) (.ref (cBar K)) = some false
  kca : PySem.W.kitOne K (.ref (cCan K)) (.ref (cAns K)) = some true
  kbc : PySem.W.kitOne K (.ref (cBar K)) (.ref (cCan K)) = some false
  kbb : PySem.W.kitOne K (.ref (cBar K)) (.ref (cBar K)) = some true
  kba : PySem.W.kitOne K (.ref (cBar K)) (.ref (cAns K)) = some true
theorem ci_of {K : PySem.W.Frag} (cf : CF K) (h1 : kitTest K = true) (h2 : clsTest K = true) : CI K := by
  obtain ⟨a, b⟩ := He.ba h1
  obtain ⟨a1, a⟩ := He.ba a
  obtain ⟨a2, a3⟩ := He.ba a
  obtain ⟨b1, b⟩ := He.ba b
  obtain ⟨b2, b3⟩ := He.ba b
  obtain ⟨c1, c⟩ := He.ba h2
  obtain ⟨c2, c⟩ := He.ba c
  obtain ⟨c3, c4⟩ := He.ba c
  obtain ⟨d1, d2⟩ := He.ba c3
  obtain ⟨e1, e2⟩ := He.ba c4
  exact { cf with
    tc := fun e => .base (.ins e cf.cc (He.eqO_ok d1) (He.eqO_ok c1) (of_decide_eq_true c2) (of_decide_eq_true d2))
    tb := fun e => .base (.ins e cf.cb (He.eqO_ok e1) (He.eqO_ok c1) (of_decide_eq_true c2) (of_decide_eq_true e2))
    kcc := of_decide_eq_true a1, kcb := of_decide_eq_true a2, kca := of_decide_eq_true a3
    kbc := of_decide_eq_true b1, kbb := of_decide_eq_true b2, kba := of_decide_eq_true b3 }
section
variable {K : PySem.W.Frag} {σ : L2.St} {H : Hp} {ta : TE} {v : V}
theorem IsC.ty (ci : CI K) (h : IsC K H v) : TyS K H v (.ref (cCan K)) := fun H' e => by
  obtain ⟨x, dx, rfl, hx⟩ := h.ex e
  exact ci.tc hx
theorem IsB.ty {s m : V} (ci : CI K) (h : IsB K H v s m) : TyS K H v (.ref (cBar K)) := fun H' e => by
  obtain ⟨x, dx, rfl, hx⟩ := h.ex e
  exact ci.tb hx
theorem ev_isiO {C : Addr} {b : Bool} {t : Value} (h : Ev ta σ H v) (ty : TyS K H v t) (hk : PySem.W.kitOne K t (.ref C) = some b) : Ev (tCB (rIsi K) (tCons ta (tCons (tC (.ref C)) tNil))) σ H (.bl b) :=
  ev_isi h ev_c (.own C) ty hk
end
def tEither (t u : TE) : TE := fun σ H Q => t σ H Q ∨ u σ H Q
end Sx

set_option Elab.async false
set_option linter.all false
set_option maxRecDepth 100000
set_option maxHeartbeats 4000000
/-! rows: looked at, told, asked -/
namespace Sx
open PySem PySem.Spec PyProof.Rows L2 Evl Mth
variable {K : PySem.W.Frag} {w : World}
theorem barF_le : ∀ (l : List Nat) (s : Nat), barF s l = none → ∀ (k a b : Nat), l[k]? = some a → l[k + 1]? = some b → b ≤ ovr (s + k) a
  | [], _, _, _, _, _, h, _ => by simp at h
  | [_], _, _, k, _, _, _, h => by simp at h
  | x :: y :: r, s, h, k, a, b, ha, hb => by
    unfold barF at h
    split at h
    · cases h
    · rename_i hn
      cases k with
      | zero =>
        have e1 : x = a := by simpa using ha
        have e2 : y = b := by simpa using hb
        subst e1 e2
        rw [Nat.add_zero]
        omega
      | succ k =>
        have := barF_le (y :: r) (s + 1) h k a b (by simpa using ha) (by simpa using hb)
        rw [show s + (k + 1) = s + 1 + k by omega]
        exact this
/-- whether the family has the set -/
def inF (ns so : List Nat) : Bool := decide (so.length = 0) || (decide (so.length ≤ ns.length) && decide (rank so < ns.getD (so.length - 1) 0))
/-! ### a row, looked at -/
def sp_check_row (K : PySem.W.Frag) : Sp := fun vs H Q _ => ∃ (p : Addr) (ns : List Nat), vs = [.ref p] ∧ SqL K H p (ns.map vi) ∧ ns.length ≤ 20 ∧ RetV .non H Q
theorem len_check_row {vs : List V} {H : Hp} {Q : VK} {E : XK} (h : sp_check_row K vs H Q E) : vs.length = 1 := by obtain ⟨p, ns, rfl, _⟩ := h; rfl
/-- check_row: 0 row, 1 number -/
def t_check_row (K : PySem.W.Frag) (w : World) : TS := tIfS (tOr (tNot (tB (tCB (rIsi K) (tCons (tVar 0) (tCons (tC (.ty "list")) tNil))))) (tOr (tTest (tOp oGt (tCB (rLenS K) (tCons (tVar 0) tNil)) (tC (.int 20)))) (tNot (tB (tCB (rAll K) (tCons (tLc (iList K (tVar 0)) (gName 1) tYes (tCall (sp_is_count K) [] E0 (tCons (tVar 1) tNil)) [1]) tNil)))))) tNever tNext
theorem pure_check_row {vs : List V} {H : Hp} {Q : VK} {E : XK} (h : sp_check_row K vs H Q E) : t_check_row K w { nx := fun _ H' => Q .non H', rt := Q } (start ["row", "number"] vs) H := by
  obtain ⟨p, ns, rfl, hp, hl, q⟩ := h
  show t_check_row K w _ [some (.ref p), none] H
  have h1 : EvL (tLc (iList K (tVar 0)) (gName 1) tYes (tCall (sp_is_count K) [] E0 (tCons (tVar 1) tNil)) [1]) [some (.ref p), none] H ((List.range (ns.map vi).length).map fun _ => V.bl true) :=
    el_lcL1 _ (ei_list (es_v (ev_var rfl) hp)) (by rw [List.length_map]; omega) (fun _ => rfl) fun i x H1 hx e => by
      obtain ⟨m, hm, rfl⟩ := vi_at hx
      exact ev_is (ev_call (ea_cons (ev_var rfl) ea_nil) v_count_int) (by rw [decide_eq_true (by omega)])
  rw [map_bl] at h1
  refine s_when (b := false) (et_is (et_or (et_not (et_B (ev_isiT (ev_var rfl) (ty_lst hp) kit_ll))) fun _ => et_or (et_test (ev_gt (ev_lenS (es_v (ev_var rfl) hp)) ev_c)) fun _ => et_not (et_B (ev_all (es_L h1)))) ?_) (fun hb => by cases hb) fun _ H1 e1 => q H1 e1
  rw [all_true, decide_eq_false (by rw [List.length_map]; omega)]
  rfl
theorem v_check_row {H : Hp} {p : Addr} {ns : List Nat} (hp : SqL K H p (ns.map vi)) (hl : ns.length ≤ 20) : SpV (sp_check_row K) [.ref p] H .non := fun H1 e Q q E => ⟨p, ns, rfl, ex_l e hp, hl, q⟩
def sp_check_can (K : PySem.W.Frag) : Sp := fun vs H Q _ => ∃ (p : Addr) (ns : List Nat), vs = [.ref p] ∧ SqL K H p (ns.map vi) ∧ ns.length ≤ 20 ∧ (∀ n ∈ ns, Sm 200000 n) ∧ bar ns = none ∧ RetV .non H Q
theorem len_check_can {vs : List V} {H : Hp} {Q : VK} {E : XK} (h : sp_check_can K vs H Q E) : vs.length = 1 := by obtain ⟨p, ns, rfl, _⟩ := h; rfl
/-- check_can: 0 row -/
def t_check_can (K : PySem.W.Frag) (w : World) : TS := tSeq (tDrop (tCall (sp_check_row K) [] E0 (tCons (tVar 0) tNil))) (tIfS (tTest (tOp (rNeD K) (tCall (sp_first_bar K) [] E0 (tCons (tVar 0) tNil)) (tTup (tCons (tC (.int 0)) (tCons (tC (.int 0)) tNil))))) tNever tNext)
theorem pure_check_can {vs : List V} {H : Hp} {Q : VK} {E : XK} (h : sp_check_can K vs H Q E) : t_check_can K w { nx := fun _ H' => Q .non H', rt := Q } (start ["row"] vs) H := by
  obtain ⟨p, ns, rfl, hp, hl, hs, hb, q⟩ := h
  show t_check_can K w _ [some (.ref p)] H
  have e0 : barP ns = (0, 0) := (barP_none ns).mpr hb
  refine q_drop (ev_call (ea_cons (ev_var rfl) ea_nil) (v_check_row hp hl)) fun H1 e1 => ?_
  refine s_when (b := false) (et_is (et_test (ev_neD (d := .tuple ([((barP ns).1 : Int), ((barP ns).2 : Int)].map .int)) (e := .tuple ([(0 : Int), 0].map .int)) (ed_U (eu_call (vs := [.ref p]) (ea_cons (ev_var rfl) ea_nil) (v_first_bar (ex_l e1 hp) (by omega) hs))) (ed_U (eu_tup (ea_cons ev_c (ea_cons ev_c ea_nil)) (by decide))) (sh_intsT _) (sh_intsT _))) ?_) (fun hb => by cases hb) fun _ H2 e2 => q H2 (e1.trans e2)
  rw [eqv_tu, e0]
  rfl
theorem v_check_can {H : Hp} {p : Addr} {ns : List Nat} (hp : SqL K H p (ns.map vi)) (hl : ns.length ≤ 20) (hs : ∀ n ∈ ns, Sm 200000 n) (hb : bar ns = none) : SpV (sp_check_can K) [.ref p] H .non := fun H1 e Q q E => ⟨p, ns, rfl, ex_l e hp, hl, hs, hb, q⟩
/-! ### the answer -/
def Told (K : PySem.W.Frag) (ns : List Nat) (H : Hp) (v : V) : Prop := (bar ns = none ∧ IsC K H v) ∨ ∃ s m, bar ns = some (s, m) ∧ IsB K H v (vi s) (vi m)
theorem Told.ex {ns : List Nat} {H H' : Hp} {v : V} (h : Told K ns H v) (e : Ex H H') : Told K ns H' v := by
  rcases h with ⟨h1, h2⟩ | ⟨s, m, h1, h2⟩
  · exact .inl ⟨h1, h2.ex e⟩
  · exact .inr ⟨s, m, h1, h2.ex e⟩
def sp_told (K : PySem.W.Frag) : Sp := fun vs H Q _ => ∃ (p : Addr) (ns : List Nat), vs = [.ref p] ∧ SqL K H p (ns.map vi) ∧ ns.length ≤ 20 ∧ (∀ n ∈ ns, Sm 200000 n) ∧ CF K ∧ ∀ v H2, Ex H H2 → Told K ns H2 v → Q v H2
theorem len_told {vs : List V} {H : Hp} {Q : VK} {E : XK} (h : sp_told K vs H Q E) : vs.length = 1 := by obtain ⟨p, ns, rfl, _⟩ := h; rfl
/-- told: 0 row, 1 size, 2 greatest -/
def t_told (K : PySem.W.Frag) (w : World) : TS := tSeq (tDrop (tCall (sp_check_row K) [] E0 (tCons (tVar 0) tNil))) (tSeq (tAsg (tCall (sp_first_bar K) [] E0 (tCons (tVar 0) tNil)) (gTup K 2 (gCons (gName 1) (gCons (gName 2) gNil)))) (tSeq (tIfS (tTest (tOp oGt (tVar 1) (tC (.int 0)))) (tRet (tMake (cBar K) (sp_Barred_init K) [] E0 (tCons (tVar 1) (tCons (tVar 2) tNil)))) tNext) (tRet (tMade0 (cCan K)))))
theorem pure_told {vs : List V} {H : Hp} {Q : VK} {E : XK} (h : sp_told K vs H Q E) : t_told K w { nx := fun _ H' => Q .non H', rt := Q } (start ["row", "size", "greatest"] vs) H := by
  obtain ⟨p, ns, rfl, hp, hl, hs, cf, q⟩ := h
  show t_told K w _ [some (.ref p), none, none] H
  refine q_drop (ev_call (ea_cons (ev_var rfl) ea_nil) (v_check_row hp hl)) fun H1 e1 => ?_
  refine q_asgT2 (R := fun a b _ => a = vi (barP ns).1 ∧ b = vi (barP ns).2) (ep_U (eu_call (vs := [.ref p]) (ea_cons (ev_var rfl) ea_nil) (v_first_bar (ex_l e1 hp) (by omega) hs)) fun t Ha Hb _ _ _ ht => ⟨t, _, _, rfl, st_of ht, rfl, rfl⟩) fun a b H2 e2 r => ?_
  obtain ⟨rfl, rfl⟩ := r
  refine q_when (et_test (ev_gt (ev_var rfl) ev_c)) (fun hb H3 e3 => ?_) fun hb H3 e3 => ?_
  · have hb' := of_decide_eq_true hb
    refine s_retP (ep_bar cf (s := vi (barP ns).1) (m := vi (barP ns).2) (ev_var rfl) (ev_var rfl)) fun v H4 e4 r => q v H4 (e1.trans (e2.trans (e3.trans e4))) (.inr ?_)
    cases hbar : bar ns with
    | none =>
      have e0 : barP ns = (0, 0) := (barP_none ns).mpr hbar
      rw [e0] at hb'
      exact absurd hb' (by decide)
    | some z =>
      have e0 : barP ns = z := by unfold barP; rw [hbar]; rfl
      obtain ⟨s, m⟩ := z
      rw [e0] at r
      exact ⟨s, m, rfl, r.2⟩
  · have hb' := of_decide_eq_false hb
    refine s_retP ep_can fun v H4 e4 r => q v H4 (e1.trans (e2.trans (e3.trans e4))) (.inl ⟨?_, r.2⟩)
    cases hbar : bar ns with
    | none => rfl
    | some z =>
      obtain ⟨s, m⟩ := z
      have e0 : barP ns = (s, m) := by unfold barP; rw [hbar]; rfl
      have := bar_ge hbar
      rw [e0] at hb'
      dsimp only at hb'
      omega
/-! ### asked of a family -/
def sp_has (K : PySem.W.Frag) : Sp := fun vs H Q _ => ∃ (p s : Addr) (ns so : List Nat), vs = [.ref p, .ref s] ∧ SqL K H p (ns.map vi) ∧ ns.length ≤ 20 ∧ (∀ n ∈ ns, Sm 200000 n) ∧ bar ns = none ∧ SqL K H s (so.map vi) ∧ (∀ n ∈ so, Sm 2000000 n) ∧ so.length ≤ 20 ∧ Falls so ∧ RetV (.bl (inF ns so)) H Q
theorem len_has {vs : List V} {H : Hp} {Q : VK} {E : XK} (h : sp_has K vs H Q E) : vs.length = 2 := by obtain ⟨p, s, ns, so, rfl, _⟩ := h; rfl
/-- has: 0 row, 1 some -/
def t_has (K : PySem.W.Frag) (w : World) : TS := tSeq (tDrop (tCall (sp_check_can K) [] E0 (tCons (tVar 0) tNil))) (tSeq (tDrop (tCall (sp_check_set K) [] E0 (tCons (tVar 1) tNil))) (tSeq (tIfS (tTest (tOp rEq (tCB (rLenS K) (tCons (tVar 1) tNil)) (tC (.int 0)))) (tRet (tC (.bl true))) tNext) (tRet (tAndV (tOp oLe (tCB (rLenS K) (tCons (tVar 1) tNil)) (tCB (rLenS K) (tCons (tVar 0) tNil))) (tOp oLt (tCall (sp_place_of K) [] E0 (tCons (tVar 1) tNil)) (tOp (rIxL K) (tVar 0) (tOp oSub (tCB (rLenS K) (tCons (tVar 1) tNil)) (tC (.int 1)))))))))
theorem pure_has {vs : List V} {H : Hp} {Q : VK} {E : XK} (h : sp_has K vs H Q E) : t_has K w { nx := fun _ H' => Q .non H', rt := Q } (start ["row", "some"] vs) H := by
  obtain ⟨p, s, ns, so, rfl, hp, hl, hs, hb, hso, hsm, hsl, hsf, q⟩ := h
  show t_has K w _ [some (.ref p), some (.ref s)] H
  refine q_drop (ev_call (ea_cons (ev_var rfl) ea_nil) (v_check_can hp hl hs hb)) fun H1 e1 => ?_
  refine q_drop (ev_call (ea_cons (ev_var rfl) ea_nil) (v_check_set (ex_l e1 hso) hsl hsf)) fun H2 e2 => ?_
  have hso2 := ex_l (e1.trans e2) hso
  have hp2 := ex_l (e1.trans e2) hp
  have lenS : ∀ {H' : Hp}, Ex H2 H' → Ev (tCB (rLenS K) (tCons (tVar 1) tNil)) [some (.ref p), some (.ref s)] H' (vi so.length) := fun e => ev_is (ev_lenS (es_v (ev_var rfl) (ex_l e hso2))) (by rw [List.length_map])
  refine q_when (et_test (ev_eqI (i := ((so.length : Nat) : Int)) (lenS (Ex.refl _)) ev_c)) (fun hb H3 e3 => ?_) fun hb H3 e3 => ?_
  · have hb' := of_decide_eq_true hb
    refine s_ret ev_c fun H4 e4 => ?_
    have g := q H4 (e1.trans (e2.trans (e3.trans e4)))
    unfold inF at g
    rw [decide_eq_true (show so.length = 0 by omega)] at g
    exact g
  · have hb' := of_decide_eq_false hb
    have e123 := e1.trans (e2.trans e3)
    refine s_ret (v := .bl (inF ns so)) ?_ fun H4 e4 => q H4 (e123.trans e4)
    unfold inF
    rw [decide_eq_false (show ¬ so.length = 0 by omega), Bool.false_or]
    refine ev_andV (ev_is (ev_le (lenS e3) (ev_is (ev_lenS (es_v (ev_var rfl) (ex_l e3 hp2))) (by rw [List.length_map]))) (congrArg V.bl (by rw [decide_eq_decide]; omega))) fun hle => ?_
    have hle' := of_decide_eq_true hle
    obtain ⟨x, hx⟩ : ∃ x, ns[so.length - 1]? = some x := ⟨_, List.getElem?_eq_getElem (by omega)⟩
    have hxd : ns.getD (so.length - 1) 0 = x := by rw [List.getD_eq_getElem?_getD, hx]; rfl
    have hxV : (ns.map vi)[so.length - 1]? = some (vi x) := by rw [List.getElem?_map, hx]; rfl
    rw [hxd]
    exact ev_is (ev_lt (ev_call (vs := [.ref s]) (ea_cons (ev_var rfl) ea_nil) (v_place_of (ex_l e3 hso2) (by omega) hsm)) (ev_ixS (i := ((so.length - 1 : Nat) : Int)) (es_v (ev_var rfl) (ex_l e3 hp2)) (ev_is (ev_sub (lenS e3) ev_c) (by show V.int _ = V.int _; congr 1; omega)) (atI_nat hxV))) (congrArg V.bl (by rw [decide_eq_decide]; omega))
theorem v_has {H : Hp} {p s : Addr} {ns so : List Nat} (hp : SqL K H p (ns.map vi)) (hl : ns.length ≤ 20) (hs : ∀ n ∈ ns, Sm 200000 n) (hb : bar ns = none) (hso : SqL K H s (so.map vi)) (hsm : ∀ n ∈ so, Sm 2000000 n) (hsl : so.length ≤ 20) (hsf : Falls so) :
    SpV (sp_has K) [.ref p, .ref s] H (.bl (inF ns so)) := fun H1 e Q q E => ⟨p, s, ns, so, rfl, ex_l e hp, hl, hs, hb, ex_l e hso, hsm, hsl, hsf, q⟩
def sp_most (K : PySem.W.Frag) : Sp := fun vs H Q _ => ∃ (p : Addr) (ns : List Nat) (l : Nat), vs = [.ref p] ∧ SqL K H p (ns.map vi) ∧ ns.length < 20 ∧ (∀ n ∈ ns, Sm 200000 n) ∧ bar ns = none ∧ 0 < ns.length ∧ ns[ns.length - 1]? = some l ∧ RetV (vi (ovr ns.length l)) H Q
theorem len_most {vs : List V} {H : Hp} {Q : VK} {E : XK} (h : sp_most K vs H Q E) : vs.length = 1 := by obtain ⟨p, ns, l, rfl, _⟩ := h; rfl
/-- most: 0 row -/
def t_most (K : PySem.W.Frag) (w : World) : TS := tSeq (tDrop (tCall (sp_check_can K) [] E0 (tCons (tVar 0) tNil))) (tSeq (tIfS (tNot (tTest (tChain oLe oLt (tC (.int 1)) (tCB (rLenS K) (tCons (tVar 0) tNil)) (tC (.int 20))))) tNever tNext) (tRet (tCall (sp_moved K) [] E0 (tCons (tCB (rLenS K) (tCons (tVar 0) tNil)) (tCons (tOp (rIxL K) (tVar 0) (tUn oNeg (tC (.int 1)))) (tCons (tC (.int 1)) tNil))))))
theorem pure_most {vs : List V} {H : Hp} {Q : VK} {E : XK} (h : sp_most K vs H Q E) : t_most K w { nx := fun _ H' => Q .non H', rt := Q } (start ["row"] vs) H := by
  obtain ⟨p, ns, l, rfl, hp, hl, hs, hb, h0, hlast, q⟩ := h
  show t_most K w _ [some (.ref p)] H
  refine q_drop (ev_call (ea_cons (ev_var rfl) ea_nil) (v_check_can hp (by omega) hs hb)) fun H1 e1 => ?_
  have hp1 := ex_l e1 hp
  have lenS : ∀ {H' : Hp}, Ex H1 H' → Ev (tCB (rLenS K) (tCons (tVar 0) tNil)) [some (.ref p)] H' (vi ns.length) := fun e => ev_is (ev_lenS (es_v (ev_var rfl) (ex_l e hp1))) (by rw [List.length_map])
  refine q_when (b := false) (et_is (et_not (et_test (ev_chLl ev_c (lenS (Ex.refl _)) ev_c))) ?_) (fun hb => by cases hb) fun _ H2 e2 => ?_
  · rw [decide_eq_true (by omega), decide_eq_true (by omega)]
    rfl
  · refine s_ret (ev_call (vs := [vi ns.length, vi l, .int 1]) (ea_cons (lenS e2) (ea_cons (ev_ixS (i := -1) (es_v (ev_var rfl) (ex_l e2 hp1)) (ev_neg ev_c) (atI_last (n := ns.length - 1) (by rw [List.length_map]; omega) (by rw [List.getElem?_map, hlast]; rfl))) (ea_cons ev_c ea_nil))) (v_mvO (by omega) ((hs l (List.mem_of_getElem? hlast)).up (by omega)))) fun H3 e3 => q H3 (e1.trans (e2.trans e3))
theorem v_most {H : Hp} {p : Addr} {ns : List Nat} {l : Nat} (hp : SqL K H p (ns.map vi)) (hl : ns.length < 20) (hs : ∀ n ∈ ns, Sm 200000 n) (hb : bar ns = none) (h0 : 0 < ns.length) (hlast : ns[ns.length - 1]? = some l) : SpV (sp_most K) [.ref p] H (vi (ovr ns.length l)) :=
  fun H1 e Q q E => ⟨p, ns, l, rfl, ex_l e hp, hl, hs, hb, h0, hlast, q⟩
/-! ### what is due -/
def Fnd (K : PySem.W.Frag) (H : Hp) (v : V) (o : Option (Int × Int)) : Prop := (o = none ∧ IsC K H v) ∨ ∃ s m, o = some (s, m) ∧ IsB K H v (.int s) (.int m)
theorem Fnd.ex {o : Option (Int × Int)} {H H' : Hp} {v : V} (h : Fnd K H v o) (e : Ex H H') : Fnd K H' v o := by
  rcases h with ⟨h1, h2⟩ | ⟨s, m, h1, h2⟩
  · exact .inl ⟨h1, h2.ex e⟩
  · exact .inr ⟨s, m, h1, h2.ex e⟩
theorem Told.fnd {ns : List Nat} {H : Hp} {v : V} (h : Told K ns H v) : Fnd K H v (barI ns) := by
  unfold barI
  rcases h with ⟨h1, h2⟩ | ⟨s, m, h1, h2⟩
  · rw [h1]
    exact .inl ⟨rfl, h2⟩
  · rw [h1]
    exact .inr ⟨s, m, rfl, h2⟩
theorem barI_none {ns : List Nat} : (bar ns = none) ↔ barI ns = none := by
  unfold barI
  cases bar ns <;> simp
def sp__law_due (K : PySem.W.Frag) : Sp := fun vs H Q _ => ∃ (p : Addr) (ns : List Nat) (v : V) (o : Option (Int × Int)), vs = [.ref p, v] ∧ SqL K H p (ns.map vi) ∧ ns.length ≤ 21 ∧ (∀ n ∈ ns, Sm 200000 n) ∧ CI K ∧ Fnd K H v o ∧ RetV (.bl (decide (barI ns = o))) H Q
theorem len__law_due {vs : List V} {H : Hp} {Q : VK} {E : XK} (h : sp__law_due K vs H Q E) : vs.length = 2 := by obtain ⟨p, ns, v, o, rfl, _⟩ := h; rfl
theorem ep_least {σ : L2.St} {H : Hp} {te : TE} {p : Addr} {ns : List Nat} (h : Ev te σ H (.ref p)) (hp : SqL K H p (ns.map vi)) (hl : ns.length ≤ 21) (hs : ∀ n ∈ ns, Sm 200000 n) : EvP (tCall (sp__law_least K) [] E0 (tCons te tNil)) σ H (DueV ns) :=
  ep_call (vs := [.ref p]) (ea_cons h ea_nil) (fun H0 H1 v H2 e r => by
    rcases r with r | ⟨s, m, t, e4, rfl, n0, r⟩
    · exact .inl r
    · exact .inr ⟨s, m, t, e4, rfl, fresh_back e n0, r⟩) fun H1 e Q q => ⟨p, ns, rfl, ex_l e hp, hl, hs, q⟩
/-- _law_due: 0 _law_row_here, 1 _law_found -/
def t__law_due (K : PySem.W.Frag) (w : World) : TS := tSeq (tIfS (tB (tCB (rIsi K) (tCons (tVar 1) (tCons (tC (.ref (cCan K))) tNil)))) (tRet (tOp rIsN (tCall (sp__law_least K) [] E0 (tCons (tVar 0) tNil)) (tC .non))) tNext) (tRet (tAndV (tCall (sp_is_whole K) [] E0 (tCons (tFld K (tVar 1) "size") tNil)) (tAndV (tCall (sp_is_whole K) [] E0 (tCons (tFld K (tVar 1) "most") tNil)) (tOp (rEqD K) (tCall (sp__law_least K) [] E0 (tCons (tVar 0) tNil)) (tTup (tCons (tFld K (tVar 1) "size") (tCons (tFld K (tVar 1) "most") tNil)))))))
theorem pure__law_due {vs : List V} {H : Hp} {Q : VK} {E : XK} (h : sp__law_due K vs H Q E) : t__law_due K w { nx := fun _ H' => Q .non H', rt := Q } (start ["_law_row_here", "_law_found"] vs) H := by
  obtain ⟨p, ns, v, o, rfl, hp, hl, hs, ci, hf, q⟩ := h
  show t__law_due K w _ [some (.ref p), some v] H
  rcases hf with ⟨rfl, hc⟩ | ⟨s, m, rfl, hb⟩
  · refine q_when (b := true) (et_B (ev_isiO (ev_var rfl) (hc.ty ci) ci.kcc)) (fun _ H1 e1 => ?_) fun hb => by cases hb
    refine s_ret (v := .bl (decide (barI ns = none))) (fun Ha ea Qa qa => (ep_least (ev_var rfl) (ex_l e1 hp) hl hs) Ha ea _ fun du Hb eb r => ⟨rfl, ?_⟩) fun H2 e2 => q H2 (e1.trans e2)
    have g := qa Hb eb
    rcases r with ⟨h1, rfl⟩ | ⟨s, m, t, h1, rfl, _, _⟩
    · rw [decide_eq_true (barI_none.mp h1)] at g
      exact g
    · rw [decide_eq_false (fun z => by rw [barI_none.mpr z] at h1; cases h1)] at g
      exact g
  · refine q_when (b := false) (et_B (ev_isiO (ev_var rfl) (hb.ty ci) ci.kbc)) (fun hb => by cases hb) fun _ H1 e1 => ?_
    have hb1 := hb.ex e1
    have cf := ci.toCF
    refine s_ret (v := .bl (decide (barI ns = some (s, m)))) (ev_is (ev_andV (a := true) (b := decide (barI ns = some (s, m))) (ev_call (ea_cons (ev_size cf (ev_var rfl) hb1) ea_nil) v_whole_int) fun _ => ev_is (ev_andV (a := true) (b := decide (barI ns = some (s, m))) (ev_call (ea_cons (ev_most cf (ev_var rfl) hb1) ea_nil) v_whole_int) fun _ => ?_) rfl) rfl) fun H2 e2 => q H2 (e1.trans e2)
    exact ev_is (ev_eqD (d := dueD ns) (e := .tuple ([s, m].map .int)) ((ep_least (ev_var rfl) (ex_l e1 hp) hl hs).imp fun _ _ _ _ _ r => r.dp) (ed_U (eu_tup (ea_cons (ev_size cf (ev_var rfl) hb1) (ea_cons (ev_most cf (ev_var rfl) hb1) ea_nil)) (by show 2 ≤ 100000; decide))) (sh_due ns) (sh_intsT _)) (by rw [eqv_due])
theorem v_due {H : Hp} {p : Addr} {ns : List Nat} {v : V} {o : Option (Int × Int)} (ci : CI K) (hp : SqL K H p (ns.map vi)) (hl : ns.length ≤ 21) (hs : ∀ n ∈ ns, Sm 200000 n) (hf : Fnd K H v o) : SpV (sp__law_due K) [.ref p, v] H (.bl (decide (barI ns = o))) :=
  fun H1 e Q q E => ⟨p, ns, v, o, rfl, ex_l e hp, hl, hs, ci, hf.ex e, q⟩
/-- found.shows(row) -/
theorem ev_shows {σ : L2.St} {H : Hp} {ta tb : TE} {ns : List Nat} {v : V} {o : Option (Int × Int)} (ci : CI K) (hf : Fnd K H v o) (ha : Ev ta σ H v) (hp : EvS K tb σ H (ns.map vi)) (hl : ns.length ≤ 21) (hs : ∀ n ∈ ns, Sm 200000 n) :
    Ev (tEither (tMeth (cCan K) "shows" (sp_Can_shows K) [] E0 ta (tCons tb tNil)) (tMeth (cBar K) "shows" (sp_Barred_shows K) [] E0 ta (tCons tb tNil))) σ H (.bl (decide (barI ns = o))) := by
  rcases hf with ⟨rfl, hc⟩ | ⟨s, m, rfl, hb⟩
  · intro H1 e Q q
    refine .inl ((ev_is (ev_can_shows (ep_v ha fun Ha Hb ea eb => hc.ex (ea.trans eb)) hp hl hs) (congrArg V.bl ?_)) H1 e Q q)
    rw [decide_eq_decide]
    exact barI_none
  · intro H1 e Q q
    exact .inr ((ev_bar_shows ci.toCF (ep_v ha fun Ha Hb ea eb => hb.ex (ea.trans eb)) hp hl hs) H1 e Q q)
end Sx


set_option Elab.async false
set_option linter.all false
set_option maxRecDepth 100000
set_option maxHeartbeats 4000000
/-! a def that is called in an except suite with the exception; a local that holds a def and may raise -/
namespace Sx
open PySem PySem.Spec PyProof.Rows L2 Evl Mth
/-- isinstance(e, c), e an exception that is kept in mind -/
theorem call_isP {X : Cx} {a D : Addr} {oe : Obj} (C : ExcC X.K D) (hp : (a, oe) ∈ X.pn) (hz : Zc (.ref D) none oe) (hf : ∃ vs, oe.data = .fields vs) : CallR X (.builtin "isinstance") (rIsE X.K D a) := fun pins s σ H xs us Q I r h => by
  obtain ⟨c, cv, b, rfl, hcv, e, q⟩ := h
  obtain ⟨u1, u2, rfl, r1, r2⟩ := vals2 r
  obtain rfl : u1 = Value.ref a := r1
  have e2 := hcv _ r2
  subst e2
  have hget := (I.pin (a, oe) (List.mem_append_left _ hp)).1
  have J : PySem.W.InstAt s.heap a oe D none := by
    obtain ⟨oc, od, oda, osl⟩ := oe
    obtain ⟨vs, hv⟩ := hf
    have h1 : oc = .ref D := hz.1
    have h2 : od = none := hz.2
    have h3 : oda = .fields vs := hv
    subst h1 h2 h3
    exact ⟨hget, rfl, rfl, True.intro⟩
  exact PySem.W.kia_one (PySem.W.handS_kitx_exc C.hg C.hk C.hs C.hd C.ha C.hn C.ht C.hm) I.kIn J e (fun z => by cases z) fun tk => ⟨.bl b, H, I.tok tk, rfl, q⟩
/-- a def's run while p is handled, p among its arguments or not -/
theorem hot_run {P : Program} {w : World} {K : PySem.W.Frag} {mg : Str → Option Value} {base : Heap} {x qual : Str} {params : Arguments} {body : List Stmt} {scope : Scope} {f : Addr} {fd : FuncData} {N ps : List Str} {k : Nat} {A : Around} {outer : List Env} {s : Shared} {H : Hp} {p : Addr × Obj}
    {us : List Value} {vs : List V} {Q : VK} {t : TS} (F : FunD K x qual params body scope [] [] f fd) (S : FnScope N ps scope) (hr : L2H.RoomH (k + 1) A) (hpin : L2H.PinOk outer H s p) (e0 : Env0 P w K mg base A outer s H) (hb : BindsTo s fd ⟨us, []⟩ (ps.zip us)) (hl : vs.length = ps.length) (r : Vals vs us)
    (ht : ∀ cdv, PSs (L2H.cxH CX0 P w K mg base N qual scope f cdv A outer s H E0 p) body t) (hq : t { nx := fun _ H' => Q .non H', rt := Q } (L2.start N vs) H) : codeAny (model P w) A (.call (.ref f) ⟨us, []⟩) (CR CX0 outer P w H s Q E0) s := by
  obtain ⟨oc, od, dV, kV, doc, pm, an, cdv, ct, osl, rfl, lk, hcd, _, _⟩ := F.ex
  have sees : ∀ b o, base.get? b = some o → s.heap.get? b = some o := fun b o e => (e0.bs b o e).1
  have inK : K.In s.heap := e0.mod.kin.keeps sees
  have names : ∀ y ∈ ps.zip us, scope.names.lookup y.1 = some .local ∨ (scope.names.lookup y.1 = some .cell ∧ ((cellsFrom (s.heap.objs.size + 1) scope.names []).lookup y.1).isSome = true) := by
    intro y hy
    have hin : y.1 ∈ ps := (List.of_mem_zip (show (y.1, y.2) ∈ ps.zip us from hy)).1
    exact (S.par y.1 hin).imp id fun c => ⟨c, PySem.W.cellsFrom_some _ _ _ (.inl c)⟩
  apply codeAny_call_function hr.depth (inK _ _ lk) rfl S.co S.gen rfl (PySem.W.codeRec_of inK hcd)
  apply hb
  apply wpAny_newFunctionEnv_cells S.kind names
  intro env henv s1 hs1
  subst henv
  refine ⟨(e0.mod.nolimit.keeps sees).keeps hs1.toInCall.keep, codeAny_func ?_⟩
  have I := L2H.inv_startH (CX := CX0) (E := E0) (N := N) (qual := qual) (f := f) (cd := cdv) (w := w) S hpin e0 hl r hs1
  refine wpAny_mono ((ht cdv).run [] s1 _ H _ I hq) (fun fl s' hfl => ?_) fun _ _ z => z
  match fl, hfl with
  | .ret u, ⟨v, σ', H', J, rv, q⟩ => exact ⟨v, H', J.os, J.bare, J.base, J.hok, rv, q⟩
  | .next, ⟨σ', H', J, q⟩ => exact ⟨.non, H', J.os, J.bare, J.base, J.hok, rfl, q⟩
  | .brk, ⟨_, _, _, q⟩ => exact q.elim
  | .cont, ⟨_, _, _, q⟩ => exact q.elim
/-- a local that holds the def at f; what it may let out is wished for at the slots -/
def tCallLS (i : Nat) (f : Addr) (sp : Sp) (E : L2.St → XK) (t : TA) : TE := fun σ H Q => σ[i]? = some (some (.ref f)) ∧ t σ H fun vs H1 => sp vs H1 Q (E σ)
section
variable {X : Cx} {CX : CXT} {k i : Nat} {f : Addr} {fd : FuncData} {ps : List Str} {sp : Sp} {E : L2.St → XK} {x : Str} {p pos : Pos} {e : Expr} {es : List Expr} {t : TA}
theorem pe_callLS (F : FnOk X.prog X.w X.K X.mg X.base CX k f fd ps sp) (hr : Room k X.A) (hN : X.N[i]? = some x) (hv : Vis X.env.scope x) (hk : PySem.W.keepIn X.K (.ref f) = true) (hb : Binds X.K fd ps []) (hx : ∀ σ, PassesAt CX X σ (E σ)) (ha : L2.PA X (e :: es) t)
    (hdb : (x == ("__debug__" : Str)) = false := by decide) (hcd : (x == ("__classdict__" : Str)) = false := by decide)
    (he : starEach (e :: es) X.env = (false, eval e X.env) :: starEach es X.env := by rfl) (hpl : (backTo pos (starEach es X.env)).any (·.1) = false := by rfl) : PE X (.Call (.Name x p) (e :: es) [] pos) (tCallLS i f sp E t) := ⟨fun pins s σ H Q I h => by
  have hvar := (pe_var (pos := p) hN hv hdb hcd).run pins s σ H (fun v H1 => v = .ref f ∧ H1 = H) I ⟨.ref f, h.1, rfl, rfl⟩
  refine wpAny_Call_Name_kw (thn hvar fun u s1 hu => ?_)
  obtain ⟨v, H1, I1, r1, rfl, rfl⟩ := hu
  obtain rfl : u = Value.ref f := r1
  exact PySem.W.callWith_K (h₀ := X.base) I.ok.mod.kin hk (thn (ha.run pos pins s1 σ _ _ I1 h.2) fun us s2 ⟨vs, H2, I2, r, q⟩ => ⟨I2.kIn, run_fnS F hr hb (hx σ) I2 r q⟩) he hpl⟩
end
end Sx

set_option Elab.async false
set_option linter.all false
set_option maxRecDepth 100000
set_option maxHeartbeats 4000000
/-! what raises; what is no set, no row, no number -/
namespace Sx
open PySem PySem.Spec PyProof.Rows L2 Evl Mth
/-! ### raising -/
structure BadOk (K : PySem.W.Frag) (mg : Str → Option Value) (x : Str) : Prop where
  g : mg x = some (.ref (He.ga K x))
  q : PySem.W.excIn K (He.ga K x) He.veBase "ValueError.__new__" = true
  kp : PySem.W.keepIn K (.ref (He.ga K x)) = true
  sub : PySem.W.subIn K (.ref (He.ga K x)) (.type "BaseException") = some true
  ty : PySem.W.typeIn K (.ref (He.ga K x)) = some (.type "type")
def tRaise (C : Addr) (E : XK) : TS := fun _ _ H => E (.ref C) none H
section
variable {X : Cx} {E : XK} {k : Nat} {ps : List Str} {sp : Sp} {x m : Str} {j : Nat} {p p2 pos pos' : Pos} {e : Expr} {es : List Expr} {t : TA}
theorem ps_raiseX (hc : X.calm = true) (tk : Takes X fun cls d _ H => E cls d H) (b : BadOk X.K X.mg x) (hg : Gl X x) (hdb : (x == ("__debug__" : Str)) = false := by decide) :
    PS X (.Raise (some (.Call (.Name x p) [.Constant (.str m) j p2] [] pos)) none pos') (tRaise (He.ga X.K x) E) :=
  ps_raise hc tk (pmk_own PySem.F.excBase_ValueError b.q b.g b.kp (raises_own b.sub b.ty) hg hdb)
theorem pe_callDX (D : DefOk X.prog X.w X.K X.mg X.base (L2.CX X.prog X.w) k x ps sp) (hr : Room k X.A) (hg : Gl X x) (tk : Takes X fun cls d _ H => E cls d H) (ha : L2.PA X (e :: es) t) (hdb : (x == ("__debug__" : Str)) = false := by decide)
    (he : starEach (e :: es) X.env = (false, eval e X.env) :: starEach es X.env := by rfl) (hpl : (backTo pos (starEach es X.env)).any (·.1) = false := by rfl) :
    PE X (.Call (.Name x p) (e :: es) [] pos) (tCall sp [] E t) := by
  obtain ⟨f, fd, g, kp, b, o⟩ := D.ex
  exact pe_call o hr hg g kp b .nil (passes_call tk fun _ _ _ _ h => h) ha hdb he hpl
/-- the same, where nothing is let out -/
theorem pe_callD0 (D : DefOk X.prog X.w X.K X.mg X.base (L2.CX X.prog X.w) k x ps sp) (hr : Room k X.A) (hg : Gl X x) (ha : L2.PA X (e :: es) t) (hdb : (x == ("__debug__" : Str)) = false := by decide)
    (he : starEach (e :: es) X.env = (false, eval e X.env) :: starEach es X.env := by rfl) (hpl : (backTo pos (starEach es X.env)).any (·.1) = false := by rfl) :
    PE X (.Call (.Name x p) (e :: es) [] pos) (tCall sp [] E0 t) := by
  obtain ⟨f, fd, g, kp, b, o⟩ := D.ex
  exact pe_call o hr hg g kp b .nil passL ha hdb he hpl
theorem takes_cx {P : Program} {w : World} {K : PySem.W.Frag} {mg : Str → Option Value} {base : Heap} {N : List Str} {qual : Str} {scope : Scope} {f : Addr} {cd : Value} {A : Around} {outer : List Env} {s : Shared} {H : Hp} :
    Takes (cxOf (L2.CX P w) P w K mg base N qual scope f cd A outer s H E) fun cls d _ H => E cls d H := takes_of rfl rfl rfl rfl
end
/-- what is wished of a raise of x, from now on -/
def Rs (K : PySem.W.Frag) (x : Str) (E : XK) (H : Hp) : Prop := ∀ H', Ex H H' → E (.ref (He.ga K x)) none H'
theorem Rs.ex {K : PySem.W.Frag} {x : Str} {E : XK} {H H' : Hp} (h : Rs K x E H) (e : Ex H H') : Rs K x E H' := fun H1 e1 => h H1 (e.trans e1)
/-- an expression, a promise that ends by a raise -/
def EvR (te : TE) (σ : L2.St) (H : Hp) : Prop := ∀ H1, Ex H H1 → ∀ Q : VK, te σ H1 Q
def SpR (sp : Sp) (vs : List V) (H : Hp) (E : XK) : Prop := ∀ H1, Ex H H1 → ∀ Q : VK, sp vs H1 Q E
section
variable {K : PySem.W.Frag} {σ : L2.St} {H : Hp} {ta tb te : TE} {t : TT} {tz : TS} {D : Ends} {E : XK} {x : Str}
theorem er_call {sp : Sp} {ta : TA} {vs : List V} (h : EvA ta σ H vs) (hs : SpR sp vs H E) : EvR (tCall sp [] E ta) σ H := fun H1 e Q => h H1 e _ fun H2 e2 => by
  show sp (vs ++ []) H2 Q E
  rw [List.append_nil]
  exact hs H2 (e.trans e2) Q
theorem er_callLV {sp : Sp} {xs : List V} {v : V} (h : EvL ta σ H xs) (h2 : Ev te σ H v) (hs : ∀ p H1, Ex H H1 → H1 p = some (.lst xs) → SpR sp [.ref p, v] H1 E) : EvR (tCall sp [] E (tCons ta (tCons te tNil))) σ H := fun H1 e Q =>
  h H1 e _ fun p H2 _ e2 hp => h2 H2 (e.trans e2) _ fun H3 e3 => hs p H3 ((e.trans e2).trans e3) (e3 _ _ hp) H3 (Ex.refl _) Q
theorem er_callVL {sp : Sp} {xs : List V} {v : V} (h : Ev ta σ H v) (h2 : EvL te σ H xs) (hs : ∀ p H1, Ex H H1 → H1 p = some (.lst xs) → SpR sp [v, .ref p] H1 E) : EvR (tCall sp [] E (tCons ta (tCons te tNil))) σ H := fun H1 e Q =>
  h H1 e _ fun H2 e2 => h2 H2 (e.trans e2) _ fun p H3 _ e3 hp => hs p H3 ((e.trans e2).trans e3) hp H3 (Ex.refl _) Q
theorem er_if {b : Bool} (h : EvT t σ H b) (h1 : b = true → EvR ta σ H) (h2 : b = false → EvR tb σ H) : EvR (tIf t ta tb) σ H := fun H1 e Q => h H1 e _ fun H2 e2 => by
  cases b with
  | true => exact iteT (h1 rfl H2 (e.trans e2) Q)
  | false => exact iteF (h2 rfl H2 (e.trans e2) Q)
theorem EvR.mono {H' : Hp} (e : Ex H H') (h : EvR te σ H) : EvR te σ H' := fun H1 a Q => h H1 (e.trans a) Q
theorem q_dropR (h : EvR te σ H) : tSeq (tDrop te) tz D σ H := h H (Ex.refl _) _
theorem s_dropR (h : EvR te σ H) : tDrop te D σ H := h H (Ex.refl _) _
theorem s_retR (h : EvR te σ H) : tRet te D σ H := h H (Ex.refl _) _
theorem s_raise {H1 : Hp} (e : Ex H H1) (h : Rs K x E H) : tRaise (He.ga K x) E D σ H1 := h H1 e
theorem q_raise {H1 : Hp} (e : Ex H H1) (h : Rs K x E H) : tSeq (tRaise (He.ga K x) E) tz D σ H1 := h H1 e
end
/-! ### no count, no size -/
def IC (K : PySem.W.Frag) (H : Hp) (v : V) (b : Bool) : Prop := (∃ n : Int, v = .int n ∧ b = decide (0 ≤ n)) ∨ ∃ T, TyS K H v (.type T) ∧ isW T = some false ∧ b = false
theorem IC.ex {K : PySem.W.Frag} {H H' : Hp} {v : V} {b : Bool} (h : IC K H v b) (e : Ex H H') : IC K H' v b := by
  rcases h with h | ⟨T, h1, h2⟩
  · exact .inl h
  · exact .inr ⟨T, h1.mono e, h2⟩
theorem v_countIC {K : PySem.W.Frag} {H : Hp} {v : V} {b : Bool} (h : IC K H v b) : SpV (sp_is_count K) [v] H (.bl b) := by
  rcases h with ⟨n, rfl, rfl⟩ | ⟨T, h1, h2, rfl⟩
  · exact v_count_int
  · exact fun H1 e Q q E => .inr ⟨v, T, rfl, h1.mono e, h2, q⟩
def BadZ (K : PySem.W.Frag) (H : Hp) (v : V) (lo hi : Int) : Prop := (∃ n : Int, v = .int n ∧ ¬ (lo ≤ n ∧ n ≤ hi)) ∨ ∃ T, TyS K H v (.type T) ∧ isW T = some false
theorem BadZ.ex {K : PySem.W.Frag} {H H' : Hp} {v : V} {lo hi : Int} (h : BadZ K H v lo hi) (e : Ex H H') : BadZ K H' v lo hi := by
  rcases h with h | ⟨T, h1, h2⟩
  · exact .inl h
  · exact .inr ⟨T, h1.mono e, h2⟩
/-! ### no list of few counts -/
def BadL (K : PySem.W.Frag) (H : Hp) (v : V) : Prop := (∃ T, TyS K H v (.type T) ∧ kitB T "list" = some false) ∨
  ∃ (p : Addr) (xs : List V), v = .ref p ∧ SqL K H p xs ∧ (20 < xs.length ∨ ∃ bs : Nat → Bool, xs.length ≤ 20 ∧ (∀ (i : Nat) (x : V), xs[i]? = some x → IC K H x (bs i)) ∧ ∃ i, i < xs.length ∧ bs i = false)
theorem BadL.ex {K : PySem.W.Frag} {H H' : Hp} {v : V} (h : BadL K H v) (e : Ex H H') : BadL K H' v := by
  rcases h with ⟨T, h1, h2⟩ | ⟨p, xs, h1, h2, h3⟩
  · exact .inl ⟨T, h1.mono e, h2⟩
  · refine .inr ⟨p, xs, h1, ex_l e h2, ?_⟩
    rcases h3 with h3 | ⟨bs, h4, h5, h6⟩
    · exact .inl h3
    · exact .inr ⟨bs, h4, fun i x hx => (h5 i x hx).ex e, h6⟩
/-- no set -/
def BadS (K : PySem.W.Frag) (H : Hp) (v : V) : Prop := BadL K H v ∨ ∃ (p : Addr) (ns : List Nat), v = .ref p ∧ SqL K H p (ns.map vi) ∧ ns.length ≤ 20 ∧ ∃ i a b, ns[i]? = some a ∧ ns[i + 1]? = some b ∧ a ≤ b
theorem BadS.ex {K : PySem.W.Frag} {H H' : Hp} {v : V} (h : BadS K H v) (e : Ex H H') : BadS K H' v := by
  rcases h with h | ⟨p, ns, h1, h2, h3⟩
  · exact .inl (h.ex e)
  · exact .inr ⟨p, ns, h1, ex_l e h2, h3⟩
/-- a row that is barred -/
def BadB (K : PySem.W.Frag) (H : Hp) (v : V) : Prop := ∃ (p : Addr) (ns : List Nat), v = .ref p ∧ SqL K H p (ns.map vi) ∧ ns.length ≤ 20 ∧ (∀ n ∈ ns, Sm 200000 n) ∧ bar ns ≠ none
theorem BadB.ex {K : PySem.W.Frag} {H H' : Hp} {v : V} (h : BadB K H v) (e : Ex H H') : BadB K H' v := by
  obtain ⟨p, ns, h1, h2, h3⟩ := h
  exact ⟨p, ns, h1, ex_l e h2, h3⟩
/-- a row without a next size -/
def NoNext (K : PySem.W.Frag) (H : Hp) (v : V) : Prop := ∃ (p : Addr) (ns : List Nat), v = .ref p ∧ SqL K H p (ns.map vi) ∧ (ns.length = 0 ∨ ns.length = 20) ∧ (∀ n ∈ ns, Sm 200000 n) ∧ bar ns = none
theorem NoNext.ex {K : PySem.W.Frag} {H H' : Hp} {v : V} (h : NoNext K H v) (e : Ex H H') : NoNext K H' v := by
  obtain ⟨p, ns, h1, h2, h3⟩ := h
  exact ⟨p, ns, h1, ex_l e h2, h3⟩
section
variable {K : PySem.W.Frag} {σ : L2.St} {H : Hp} {v : V}
/-- the look at a list of few counts finds one that is none -/
theorem et_badL (h0 : σ[0]? = some (some v)) (hw : ∀ x, wipe ((wipe σ [1]).set 1 (some x)) [1] = wipe σ [1]) (hg : ∀ x : V, ((wipe σ [1]).set 1 (some x))[1]? = some (some x)) (h : BadL K H v) :
    EvT (tOr (tNot (tB (tCB (rIsi K) (tCons (tVar 0) (tCons (tC (.ty "list")) tNil))))) (tOr (tTest (tOp oGt (tCB (rLenS K) (tCons (tVar 0) tNil)) (tC (.int 20)))) (tNot (tB (tCB (rAll K) (tCons (tLc (iList K (tVar 0)) (gName 1) tYes (tCall (sp_is_count K) [] E0 (tCons (tVar 1) tNil)) [1]) tNil)))))) σ H true := by
  rcases h with ⟨T, h1, h2⟩ | ⟨p, xs, rfl, h2, h3⟩
  · exact et_is (et_or (a := true) (b := true) (et_not (et_B (ev_isiT (ev_var h0) h1 h2))) fun z => by cases z) rfl
  · rcases h3 with h3 | ⟨bs, h4, h5, i, hi, hb⟩
    · exact et_is (et_or (a := false) (b := true) (et_not (et_B (ev_isiT (ev_var h0) (ty_lst h2) kit_ll))) fun _ => et_is (et_or (a := true) (b := true) (et_is (et_test (ev_gt (ev_lenS (es_v (ev_var h0) h2)) ev_c)) (decide_eq_true (by omega))) fun z => by cases z) rfl) rfl
    · have hl := el_lcL1 (te := tCall (sp_is_count K) [] E0 (tCons (tVar 1) tNil)) (vs := [1]) (j := 1) (fun i => V.bl (bs i)) (ei_list (K := K) (es_v (te := tVar 0) (ev_var h0) h2)) (by omega) hw fun j x H1 hx e => ev_call (ea_cons (ev_var (hg x)) ea_nil) (v_countIC ((h5 j x hx).ex e))
      have hm : (List.range xs.length).map (fun i => V.bl (bs i)) = ((List.range xs.length).map bs).map V.bl := by rw [List.map_map]; rfl
      rw [hm] at hl
      refine et_is (et_or (a := false) (b := true) (et_not (et_B (ev_isiT (ev_var h0) (ty_lst h2) kit_ll))) fun _ => et_is (et_or (a := false) (b := true) (et_is (et_test (ev_gt (ev_lenS (es_v (ev_var h0) h2)) ev_c)) (decide_eq_false (by omega))) fun _ => et_is (et_not (et_B (ev_all (es_L hl)))) ?_) rfl) rfl
      rw [List.all_map]
      have : (List.range xs.length).all (id ∘ bs) = false := List.all_eq_false.mpr ⟨i, List.mem_range.mpr hi, by show ¬ bs i = true; rw [hb]; decide⟩
      rw [this]
      rfl
end
end Sx

set_option Elab.async false
set_option linter.all false
set_option maxRecDepth 100000
set_option maxHeartbeats 4000000
/-! the doors, with their refusals -/
namespace Sx
open PySem PySem.Spec PyProof.Rows L2 Evl Mth
variable {K : PySem.W.Frag} {w : World}
/-! ### looks -/
def sp_X_check_set (K : PySem.W.Frag) : Sp := fun vs H Q E => sp_check_set K vs H Q E ∨ ∃ v, vs = [v] ∧ BadS K H v ∧ Rs K "BadSet" E H
theorem len_X_check_set {vs : List V} {H : Hp} {Q : VK} {E : XK} (h : sp_X_check_set K vs H Q E) : vs.length = 1 := by
  rcases h with h | ⟨v, rfl, _⟩
  · exact len_check_set h
  · rfl
/-- check_set: 0 some, 1 one, 2 other -/
def t_X_check_set (K : PySem.W.Frag) (w : World) (E : XK) : TS := tSeq (tIfS (tOr (tNot (tB (tCB (rIsi K) (tCons (tVar 0) (tCons (tC (.ty "list")) tNil))))) (tOr (tTest (tOp oGt (tCB (rLenS K) (tCons (tVar 0) tNil)) (tC (.int 20)))) (tNot (tB (tCB (rAll K) (tCons (tLc (iList K (tVar 0)) (gName 1) tYes (tCall (sp_is_count K) [] E0 (tCons (tVar 1) tNil)) [1]) tNil)))))) (tRaise (He.ga K "BadSet") E) tNext) (tIfS (tB (tCB (rAny K) (tCons (tLc (iZip K (tCons (tVar 0) (tCons (tSl (rSlL K) (tVar 0) (tPart (tC (.int 1))) tNoPart) tNil))) (gTup K 2 (gCons (gName 1) (gCons (gName 2) gNil))) tYes (tOp oLe (tVar 1) (tVar 2)) [1, 2]) tNil))) (tRaise (He.ga K "BadSet") E) tNext)
theorem pure_X_check_set {vs : List V} {H : Hp} {Q : VK} {E : XK} (h : sp_X_check_set K vs H Q E) : t_X_check_set K w E { nx := fun _ H' => Q .non H', rt := Q } (start ["some", "one", "other"] vs) H := by
  rcases h with h | ⟨v, rfl, h, q⟩
  · obtain ⟨p, ns, rfl, hp, hl, hf, q⟩ := h
    show t_X_check_set K w E _ [some (.ref p), none, none] H
    have h1 : EvL (tLc (iList K (tVar 0)) (gName 1) tYes (tCall (sp_is_count K) [] E0 (tCons (tVar 1) tNil)) [1]) [some (.ref p), none, none] H ((List.range (ns.map vi).length).map fun _ => V.bl true) :=
      el_lcL1 _ (ei_list (es_v (ev_var rfl) hp)) (by rw [List.length_map]; omega) (fun _ => rfl) fun i x H1 hx e => by
        obtain ⟨m, hm, rfl⟩ := vi_at hx
        exact ev_is (ev_call (ea_cons (ev_var rfl) ea_nil) v_count_int) (by rw [decide_eq_true (by omega)])
    rw [map_bl] at h1
    refine q_when (b := false) (et_is (et_or (et_not (et_B (ev_isiT (ev_var rfl) (ty_lst hp) kit_ll))) fun _ => et_or (et_test (ev_gt (ev_lenS (es_v (ev_var rfl) hp)) ev_c)) fun _ => et_not (et_B (ev_all (es_L h1)))) ?_) (fun hb => by cases hb) fun _ H1 e1 => ?_
    · rw [all_true, decide_eq_false (by rw [List.length_map]; omega)]
      rfl
    · have h2 : EvL (tLc (iZip K (tCons (tVar 0) (tCons (tSl (rSlL K) (tVar 0) (tPart (tC (.int 1))) tNoPart) tNil))) (gTup K 2 (gCons (gName 1) (gCons (gName 2) gNil))) tYes (tOp oLe (tVar 1) (tVar 2)) [1, 2]) [some (.ref p), none, none] H1 ((List.range (min (ns.map vi).length ((ns.map vi).drop 1).length)).map fun _ => V.bl false) :=
        el_lc2 _ (ei_zip (es_v (ev_var rfl) (ex_l e1 hp)) (es_L (el_is (el_slS (es_v (ev_var rfl) (ex_l e1 hp)) (eo_some ev_c) eo_none) (cut_from _ 1)))) (by rw [List.length_map]; omega) (fun _ _ => rfl) fun i x y H2 hi hx hy e => by
          obtain ⟨m, hm, rfl⟩ := vi_at hx
          rw [← List.map_drop] at hy
          obtain ⟨m', hm', rfl⟩ := vi_at hy
          have := falls_at hf hm hm'
          exact ev_is (ev_le (ev_var rfl) (ev_var rfl)) (by rw [decide_eq_false (by omega)])
      rw [map_bl] at h2
      exact s_when (et_is (et_B (ev_any (es_L h2))) (any_false _)) (fun hb => by cases hb) fun _ H2 e2 => q H2 (e1.trans e2)
  · show t_X_check_set K w E _ [some v, none, none] H
    rcases h with h | ⟨p, ns, rfl, hp, hl, i, a, b, ha, hb, hab⟩
    · exact q_when (b := true) (et_badL rfl (fun _ => rfl) (fun _ => rfl) h) (fun _ H1 e1 => q H1 e1) fun hb => by cases hb
    · have h1 : EvL (tLc (iList K (tVar 0)) (gName 1) tYes (tCall (sp_is_count K) [] E0 (tCons (tVar 1) tNil)) [1]) [some (.ref p), none, none] H ((List.range (ns.map vi).length).map fun _ => V.bl true) :=
        el_lcL1 _ (ei_list (es_v (ev_var rfl) hp)) (by rw [List.length_map]; omega) (fun _ => rfl) fun i x H1 hx e => by
          obtain ⟨m, hm, rfl⟩ := vi_at hx
          exact ev_is (ev_call (ea_cons (ev_var rfl) ea_nil) v_count_int) (by rw [decide_eq_true (by omega)])
      rw [map_bl] at h1
      refine q_when (b := false) (et_is (et_or (et_not (et_B (ev_isiT (ev_var rfl) (ty_lst hp) kit_ll))) fun _ => et_or (et_test (ev_gt (ev_lenS (es_v (ev_var rfl) hp)) ev_c)) fun _ => et_not (et_B (ev_all (es_L h1)))) ?_) (fun hb => by cases hb) fun _ H1 e1 => ?_
      · rw [all_true, decide_eq_false (by rw [List.length_map]; omega)]
        rfl
      · have h2 : EvL (tLc (iZip K (tCons (tVar 0) (tCons (tSl (rSlL K) (tVar 0) (tPart (tC (.int 1))) tNoPart) tNil))) (gTup K 2 (gCons (gName 1) (gCons (gName 2) gNil))) tYes (tOp oLe (tVar 1) (tVar 2)) [1, 2]) [some (.ref p), none, none] H1 ((List.range (min (ns.map vi).length ((ns.map vi).drop 1).length)).map fun j => V.bl (decide (ns.getD j 0 ≤ ns.getD (j + 1) 0))) :=
          el_lc2 _ (ei_zip (es_v (ev_var rfl) (ex_l e1 hp)) (es_L (el_is (el_slS (es_v (ev_var rfl) (ex_l e1 hp)) (eo_some ev_c) eo_none) (cut_from _ 1)))) (by rw [List.length_map]; omega) (fun _ _ => rfl) fun j x y H2 hj hx hy e => by
            obtain ⟨m, hm, rfl⟩ := vi_at hx
            rw [← List.map_drop] at hy
            obtain ⟨m', hm', rfl⟩ := vi_at hy
            rw [List.getElem?_drop] at hm'
            have e1 : ns.getD j 0 = m := by rw [List.getD_eq_getElem?_getD, hm]; rfl
            have e2 : ns.getD (j + 1) 0 = m' := by rw [List.getD_eq_getElem?_getD, Nat.add_comm j 1, hm']; rfl
            rw [e1, e2]
            exact ev_is (ev_le (ev_var rfl) (ev_var rfl)) (by congr 1; rw [decide_eq_decide]; omega)
        have hm : ∀ n : Nat, (List.range n).map (fun j => V.bl (decide (ns.getD j 0 ≤ ns.getD (j + 1) 0))) = ((List.range n).map fun j => decide (ns.getD j 0 ≤ ns.getD (j + 1) 0)).map V.bl := fun n => by rw [List.map_map]; rfl
        rw [hm] at h2
        have li := (List.getElem?_eq_some_iff.mp hb).1
        refine s_when (b := true) (et_is (et_B (ev_any (es_L h2))) ?_) (fun _ H2 e2 => q H2 (e1.trans e2)) (fun hb => by cases hb)
        rw [List.any_map]
        refine List.any_eq_true.mpr ⟨i, List.mem_range.mpr (by rw [List.length_drop, List.length_map]; omega), ?_⟩
        show decide (ns.getD i 0 ≤ ns.getD (i + 1) 0) = true
        rw [List.getD_eq_getElem?_getD, List.getD_eq_getElem?_getD, ha, hb]
        exact decide_eq_true hab
theorem r_check_set {H : Hp} {v : V} {E : XK} (h : BadS K H v) (q : Rs K "BadSet" E H) : SpR (sp_X_check_set K) [v] H E := fun H1 e Q => .inr ⟨v, rfl, h.ex e, q.ex e⟩
def sp_X_check_size (K : PySem.W.Frag) : Sp := fun vs H Q E => sp_check_size K vs H Q E ∨ ∃ v lo hi, vs = [v, .int lo, .int hi] ∧ BadZ K H v lo hi ∧ Rs K "BadSize" E H
theorem len_X_check_size {vs : List V} {H : Hp} {Q : VK} {E : XK} (h : sp_X_check_size K vs H Q E) : vs.length = 3 := by
  rcases h with h | ⟨v, lo, hi, rfl, _⟩
  · exact len_check_size h
  · rfl
/-- check_size: 0 size, 1 low, 2 high -/
def t_X_check_size (K : PySem.W.Frag) (w : World) (E : XK) : TS := tIfS (tOr (tNot (tB (tCall (sp_is_whole K) [] E0 (tCons (tVar 0) tNil)))) (tNot (tTest (tChain oLe oLe (tVar 1) (tVar 0) (tVar 2))))) (tRaise (He.ga K "BadSize") E) tNext
theorem pure_X_check_size {vs : List V} {H : Hp} {Q : VK} {E : XK} (h : sp_X_check_size K vs H Q E) : t_X_check_size K w E { nx := fun _ H' => Q .non H', rt := Q } (start ["size", "low", "high"] vs) H := by
  rcases h with h | ⟨v, lo, hi, rfl, h, q⟩
  · obtain ⟨s, lo, hi, rfl, h1, h2, q⟩ := h
    show t_X_check_size K w E _ [some (.int s), some (.int lo), some (.int hi)] H
    refine s_when (b := false) (et_is (et_or (et_not (et_B (ev_call (ea_cons (ev_var rfl) ea_nil) v_whole_int))) fun _ => et_not (et_test (ev_chLL (ev_var rfl) (ev_var rfl) (ev_var rfl)))) ?_) (fun hb => by cases hb) fun _ H1 e => q H1 e
    rw [decide_eq_true h1, decide_eq_true h2]
    rfl
  · show t_X_check_size K w E _ [some v, some (.int lo), some (.int hi)] H
    rcases h with ⟨n, rfl, h⟩ | ⟨T, h1, h2⟩
    · refine s_when (b := true) (et_is (et_or (a := false) (et_not (et_B (ev_call (ea_cons (ev_var rfl) ea_nil) v_whole_int))) fun _ => et_not (et_test (ev_chLL (ev_var rfl) (ev_var rfl) (ev_var rfl)))) ?_) (fun _ H1 e1 => q H1 e1) fun hb => by cases hb
      by_cases c1 : lo ≤ n
      · have c2 : ¬ n ≤ hi := fun z => h ⟨c1, z⟩
        rw [decide_eq_true c1, decide_eq_false c2]
        rfl
      · rw [decide_eq_false c1]
        rfl
    · exact s_when (b := true) (et_is (et_or (a := true) (b := true) (et_not (et_B (ev_call (ea_cons (ev_var rfl) ea_nil) (v_is_whole h1 h2)))) fun z => by cases z) rfl) (fun _ H1 e1 => q H1 e1) fun hb => by cases hb
theorem r_check_size {H : Hp} {v : V} {lo hi : Int} {E : XK} (h : BadZ K H v lo hi) (q : Rs K "BadSize" E H) : SpR (sp_X_check_size K) [v, .int lo, .int hi] H E := fun H1 e Q => .inr ⟨v, lo, hi, rfl, h.ex e, q.ex e⟩
theorem g_check_size {H : Hp} {s lo hi : Int} (h1 : lo ≤ s) (h2 : s ≤ hi) : SpV (sp_X_check_size K) [.int s, .int lo, .int hi] H .non := fun H1 e Q q E => .inl (v_check_size h1 h2 H1 e Q q E)
def sp_X_check_count (K : PySem.W.Frag) : Sp := fun vs H Q E => sp_check_count K vs H Q E ∨ ∃ v, vs = [v] ∧ IC K H v false ∧ Rs K "BadNumber" E H
theorem len_X_check_count {vs : List V} {H : Hp} {Q : VK} {E : XK} (h : sp_X_check_count K vs H Q E) : vs.length = 1 := by
  rcases h with h | ⟨v, rfl, _⟩
  · exact len_check_count h
  · rfl
/-- check_count: 0 number -/
def t_X_check_count (K : PySem.W.Frag) (w : World) (E : XK) : TS := tIfS (tNot (tB (tCall (sp_is_count K) [] E0 (tCons (tVar 0) tNil)))) (tRaise (He.ga K "BadNumber") E) tNext
theorem pure_X_check_count {vs : List V} {H : Hp} {Q : VK} {E : XK} (h : sp_X_check_count K vs H Q E) : t_X_check_count K w E { nx := fun _ H' => Q .non H', rt := Q } (start ["number"] vs) H := by
  rcases h with h | ⟨v, rfl, h, q⟩
  · obtain ⟨n, rfl, h1, q⟩ := h
    show t_X_check_count K w E _ [some (.int n)] H
    refine s_when (b := false) (et_is (et_not (et_B (ev_call (ea_cons (ev_var rfl) ea_nil) v_count_int))) ?_) (fun hb => by cases hb) fun _ H1 e => q H1 e
    rw [decide_eq_true h1]
    rfl
  · show t_X_check_count K w E _ [some v] H
    exact s_when (b := true) (et_is (et_not (et_B (ev_call (ea_cons (ev_var rfl) ea_nil) (v_countIC h)))) rfl) (fun _ H1 e1 => q H1 e1) fun hb => by cases hb
theorem r_check_count {H : Hp} {v : V} {E : XK} (h : IC K H v false) (q : Rs K "BadNumber" E H) : SpR (sp_X_check_count K) [v] H E := fun H1 e Q => .inr ⟨v, rfl, h.ex e, q.ex e⟩
theorem g_check_count {H : Hp} {n : Int} (h1 : 0 ≤ n) : SpV (sp_X_check_count K) [.int n] H .non := fun H1 e Q q E => .inl (v_check_count h1 H1 e Q q E)
/-! ### the doors of sets -/
def sp_X_number_of (K : PySem.W.Frag) : Sp := fun vs H Q E => sp_number_of K vs H Q E ∨ ∃ v, vs = [v] ∧ BadS K H v ∧ Rs K "BadSet" E H
theorem len_X_number_of {vs : List V} {H : Hp} {Q : VK} {E : XK} (h : sp_X_number_of K vs H Q E) : vs.length = 1 := by
  rcases h with h | ⟨v, rfl, _⟩
  · exact len_number_of h
  · rfl
/-- number_of: 0 some -/
def t_X_number_of (K : PySem.W.Frag) (w : World) (E : XK) : TS := tSeq (tDrop (tCall (sp_X_check_set K) [] E (tCons (tVar 0) tNil))) (tRet (tCall (sp_place_of K) [] E0 (tCons (tVar 0) tNil)))
theorem pure_X_number_of {vs : List V} {H : Hp} {Q : VK} {E : XK} (h : sp_X_number_of K vs H Q E) : t_X_number_of K w E { nx := fun _ H' => Q .non H', rt := Q } (start ["some"] vs) H := by
  rcases h with h | ⟨v, rfl, h, q⟩
  · obtain ⟨p, ns, rfl, hp, hl, hf, hm, q⟩ := h
    show t_X_number_of K w E _ [some (.ref p)] H
    refine q_drop (v := .non) (ev_call (vs := [.ref p]) (ea_cons (ev_var rfl) ea_nil) (fun H1 e Q q E => .inl (v_check_set hp hl hf H1 e Q q E))) fun H1 e1 => ?_
    exact s_ret (ev_call (vs := [.ref p]) (ea_cons (ev_var rfl) ea_nil) (v_place_of (ex_l e1 hp) (by omega) hm)) fun H2 e2 => q H2 (e1.trans e2)
  · exact q_dropR (er_call (vs := [v]) (ea_cons (ev_var rfl) ea_nil) (r_check_set h q))
theorem r_number_of {H : Hp} {v : V} {E : XK} (h : BadS K H v) (q : Rs K "BadSet" E H) : SpR (sp_X_number_of K) [v] H E := fun H1 e Q => .inr ⟨v, rfl, h.ex e, q.ex e⟩
def sp_X_beneath (K : PySem.W.Frag) : Sp := fun vs H Q E => ∃ v, vs = [v] ∧ BadS K H v ∧ Rs K "BadSet" E H
theorem len_X_beneath {vs : List V} {H : Hp} {Q : VK} {E : XK} (h : sp_X_beneath K vs H Q E) : vs.length = 1 := by obtain ⟨v, rfl, _⟩ := h; rfl
/-- beneath: 0 some, 1 at -/
def t_X_beneath (K : PySem.W.Frag) (w : World) (E : XK) : TS := tSeq (tDrop (tCall (sp_X_check_set K) [] E (tCons (tVar 0) tNil))) (tRet (tLc (iRng1 (tCons (tCB (rLenS K) (tCons (tVar 0) tNil)) tNil)) (gName 1) tYes (tOp rCat (tSl (rSlL K) (tVar 0) tNoPart (tPart (tVar 1))) (tSl (rSlL K) (tVar 0) (tPart (tOp oAdd (tVar 1) (tC (.int 1)))) tNoPart)) [1]))
theorem pure_X_beneath {vs : List V} {H : Hp} {Q : VK} {E : XK} (h : sp_X_beneath K vs H Q E) : t_X_beneath K w E { nx := fun _ H' => Q .non H', rt := Q } (start ["some", "at"] vs) H := by
  obtain ⟨v, rfl, h, q⟩ := h
  exact q_dropR (er_call (vs := [v]) (ea_cons (ev_var rfl) ea_nil) (r_check_set h q))
theorem r_beneath {H : Hp} {v : V} {E : XK} (h : BadS K H v) (q : Rs K "BadSet" E H) : SpR (sp_X_beneath K) [v] H E := fun H1 e Q => ⟨v, rfl, h.ex e, q.ex e⟩
/-- refused for its size, its number -/
def BadZN (K : PySem.W.Frag) (lo hi : Int) (vs : List V) (H : Hp) (E : XK) : Prop := (∃ v u, vs = [v, u] ∧ BadZ K H v lo hi ∧ Rs K "BadSize" E H) ∨ ∃ (s : Int) (u : V), vs = [.int s, u] ∧ lo ≤ s ∧ s ≤ hi ∧ IC K H u false ∧ Rs K "BadNumber" E H
theorem BadZN.ex {lo hi : Int} {vs : List V} {H H' : Hp} {E : XK} (h : BadZN K lo hi vs H E) (e : Ex H H') : BadZN K lo hi vs H' E := by
  rcases h with ⟨v, u, h1, h2, h3⟩ | ⟨s, u, h1, h2, h3, h4, h5⟩
  · exact .inl ⟨v, u, h1, h2.ex e, h3.ex e⟩
  · exact .inr ⟨s, u, h1, h2, h3, h4.ex e, h5.ex e⟩
def sp_X_set_of (K : PySem.W.Frag) : Sp := fun vs H Q E => sp_set_of K vs H Q E ∨ BadZN K 0 20 vs H E ∨ ∃ n : Nat, vs = [vi 0, vi n] ∧ 0 < n ∧ Rs K "BadNumber" E H
theorem len_X_set_of {vs : List V} {H : Hp} {Q : VK} {E : XK} (h : sp_X_set_of K vs H Q E) : vs.length = 2 := by
  rcases h with h | (⟨v, u, rfl, _⟩ | ⟨s, u, rfl, _⟩) | ⟨n, rfl, _⟩
  · exact len_set_of h
  · rfl
  · rfl
  · rfl
/-- set_of: 0 size, 1 number -/
def t_X_set_of (K : PySem.W.Frag) (w : World) (E : XK) : TS := tSeq (tDrop (tCall (sp_X_check_size K) [] E (tCons (tVar 0) (tCons (tC (.int 0)) (tCons (tC (.int 20)) tNil))))) (tSeq (tDrop (tCall (sp_X_check_count K) [] E (tCons (tVar 1) tNil))) (tSeq (tIfS (tAnd (tTest (tOp rEq (tVar 0) (tC (.int 0)))) (tTest (tOp oGt (tVar 1) (tC (.int 0))))) (tRaise (He.ga K "BadNumber") E) tNext) (tRet (tCall (sp_told_by K) [] E0 (tCons (tVar 0) (tCons (tVar 1) tNil))))))
theorem pure_X_set_of {vs : List V} {H : Hp} {Q : VK} {E : XK} (h : sp_X_set_of K vs H Q E) : t_X_set_of K w E { nx := fun _ H' => Q .non H', rt := Q } (start ["size", "number"] vs) H := by
  rcases h with h | (⟨v, u, rfl, h, q⟩ | ⟨s, u, rfl, h1, h2, h, q⟩) | ⟨n, rfl, h0, q⟩
  · obtain ⟨k, n, rfl, hk, h0, hn, q⟩ := h
    show t_X_set_of K w E _ [some (vi k), some (vi n)] H
    refine q_drop (v := .non) (ev_call (vs := [vi k, .int 0, .int 20]) (ea_cons (ev_var rfl) (ea_cons ev_c (ea_cons ev_c ea_nil))) (g_check_size (by omega) (by omega))) fun H1 e1 => ?_
    refine q_drop (v := .non) (ev_call (vs := [vi n]) (ea_cons (ev_var rfl) ea_nil) (g_check_count (by omega))) fun H2 e2 => ?_
    refine q_when (b := false) (et_is (et_and (et_test (ev_eqI (i := (k : Int)) (ev_var rfl) ev_c)) fun _ => et_test (ev_gt (i := (n : Int)) (ev_var rfl) ev_c)) ?_) (fun hb => by cases hb) fun _ H3 e3 => ?_
    · by_cases c : k = 0
      · rw [decide_eq_false (show ¬ (0 : Int) < (n : Int) by have := h0 c; omega), Bool.and_false]
      · rw [decide_eq_false (show ¬ (k : Int) = 0 by omega), Bool.false_and]
    · exact s_retL (el_call (vs := [vi k, vi n]) (ea_cons (ev_var rfl) (ea_cons (ev_var rfl) ea_nil)) (v_told_by hk hn)) fun p H4 np e4 hp => q p H4 (fresh_back (e1.trans (e2.trans e3)) np) ((e1.trans (e2.trans e3)).trans e4) hp
  · exact q_dropR (er_call (vs := [v, .int 0, .int 20]) (ea_cons (ev_var rfl) (ea_cons ev_c (ea_cons ev_c ea_nil))) (r_check_size h q))
  · show t_X_set_of K w E _ [some (.int s), some u] H
    refine q_drop (v := .non) (ev_call (vs := [.int s, .int 0, .int 20]) (ea_cons (ev_var rfl) (ea_cons ev_c (ea_cons ev_c ea_nil))) (g_check_size h1 h2)) fun H1 e1 => ?_
    exact q_dropR (er_call (vs := [u]) (ea_cons (ev_var rfl) ea_nil) (r_check_count (h.ex e1) (q.ex e1)))
  · show t_X_set_of K w E _ [some (vi 0), some (vi n)] H
    refine q_drop (v := .non) (ev_call (vs := [vi 0, .int 0, .int 20]) (ea_cons (ev_var rfl) (ea_cons ev_c (ea_cons ev_c ea_nil))) (g_check_size (by omega) (by omega))) fun H1 e1 => ?_
    refine q_drop (v := .non) (ev_call (vs := [vi n]) (ea_cons (ev_var rfl) ea_nil) (g_check_count (by omega))) fun H2 e2 => ?_
    refine q_when (b := true) (et_is (et_and (a := true) (b := true) (et_is (et_test (ev_eqI (ev_var rfl) ev_c)) (decide_eq_true (by omega))) fun _ => et_is (et_test (ev_gt (i := (n : Int)) (ev_var rfl) ev_c)) (decide_eq_true (by omega))) rfl) (fun _ H3 e3 => q H3 (e1.trans (e2.trans e3))) fun hb => by cases hb
def sp_X_under (K : PySem.W.Frag) : Sp := fun vs H Q E => sp_under K vs H Q E ∨ BadZN K 1 20 vs H E
theorem len_X_under {vs : List V} {H : Hp} {Q : VK} {E : XK} (h : sp_X_under K vs H Q E) : vs.length = 2 := by
  rcases h with h | ⟨v, u, rfl, _⟩ | ⟨s, u, rfl, _⟩
  · obtain ⟨k, n, rfl, _⟩ := h; rfl
  · rfl
  · rfl
/-- under: 0 size, 1 many -/
def t_X_under (K : PySem.W.Frag) (w : World) (E : XK) : TS := tSeq (tDrop (tCall (sp_X_check_size K) [] E (tCons (tVar 0) (tCons (tC (.int 1)) (tCons (tC (.int 20)) tNil))))) (tSeq (tDrop (tCall (sp_X_check_count K) [] E (tCons (tVar 1) tNil))) (tRet (tCall (sp_moved K) [] E0 (tCons (tVar 0) (tCons (tVar 1) (tCons (tUn oNeg (tC (.int 1))) tNil))))))
theorem pure_X_under {vs : List V} {H : Hp} {Q : VK} {E : XK} (h : sp_X_under K vs H Q E) : t_X_under K w E { nx := fun _ H' => Q .non H', rt := Q } (start ["size", "many"] vs) H := by
  rcases h with h | ⟨v, u, rfl, h, q⟩ | ⟨s, u, rfl, h1, h2, h, q⟩
  · obtain ⟨k, n, rfl, h1, hk, hn, q⟩ := h
    show t_X_under K w E _ [some (vi k), some (vi n)] H
    refine q_drop (v := .non) (ev_call (vs := [vi k, .int 1, .int 20]) (ea_cons (ev_var rfl) (ea_cons ev_c (ea_cons ev_c ea_nil))) (g_check_size (by omega) (by omega))) fun H1 e1 => ?_
    refine q_drop (v := .non) (ev_call (vs := [vi n]) (ea_cons (ev_var rfl) ea_nil) (g_check_count (by omega))) fun H2 e2 => ?_
    exact s_ret (ev_call (vs := [vi k, vi n, .int (-1)]) (ea_cons (ev_var rfl) (ea_cons (ev_var rfl) (ea_cons (ev_neg ev_c) ea_nil))) (v_mvU hk hn)) fun H3 e3 => q H3 (e1.trans (e2.trans e3))
  · exact q_dropR (er_call (vs := [v, .int 1, .int 20]) (ea_cons (ev_var rfl) (ea_cons ev_c (ea_cons ev_c ea_nil))) (r_check_size h q))
  · show t_X_under K w E _ [some (.int s), some u] H
    refine q_drop (v := .non) (ev_call (vs := [.int s, .int 1, .int 20]) (ea_cons (ev_var rfl) (ea_cons ev_c (ea_cons ev_c ea_nil))) (g_check_size h1 h2)) fun H1 e1 => ?_
    exact q_dropR (er_call (vs := [u]) (ea_cons (ev_var rfl) ea_nil) (r_check_count (h.ex e1) (q.ex e1)))
def sp_X_over (K : PySem.W.Frag) : Sp := fun vs H Q E => sp_over K vs H Q E ∨ BadZN K 1 19 vs H E
theorem len_X_over {vs : List V} {H : Hp} {Q : VK} {E : XK} (h : sp_X_over K vs H Q E) : vs.length = 2 := by
  rcases h with h | ⟨v, u, rfl, _⟩ | ⟨s, u, rfl, _⟩
  · obtain ⟨k, n, rfl, _⟩ := h; rfl
  · rfl
  · rfl
/-- over: 0 size, 1 many -/
def t_X_over (K : PySem.W.Frag) (w : World) (E : XK) : TS := tSeq (tDrop (tCall (sp_X_check_size K) [] E (tCons (tVar 0) (tCons (tC (.int 1)) (tCons (tOp oSub (tC (.int 20)) (tC (.int 1))) tNil))))) (tSeq (tDrop (tCall (sp_X_check_count K) [] E (tCons (tVar 1) tNil))) (tRet (tCall (sp_moved K) [] E0 (tCons (tVar 0) (tCons (tVar 1) (tCons (tC (.int 1)) tNil))))))
theorem pure_X_over {vs : List V} {H : Hp} {Q : VK} {E : XK} (h : sp_X_over K vs H Q E) : t_X_over K w E { nx := fun _ H' => Q .non H', rt := Q } (start ["size", "many"] vs) H := by
  have hc : ∀ {σ : L2.St} {H : Hp}, Ev (tOp oSub (tC (.int 20)) (tC (.int 1))) σ H (.int 19) := ev_sub ev_c ev_c
  rcases h with h | ⟨v, u, rfl, h, q⟩ | ⟨s, u, rfl, h1, h2, h, q⟩
  · obtain ⟨k, n, rfl, h1, hk, hn, q⟩ := h
    show t_X_over K w E _ [some (vi k), some (vi n)] H
    refine q_drop (v := .non) (ev_call (vs := [vi k, .int 1, .int 19]) (ea_cons (ev_var rfl) (ea_cons ev_c (ea_cons hc ea_nil))) (g_check_size (by omega) (by omega))) fun H1 e1 => ?_
    refine q_drop (v := .non) (ev_call (vs := [vi n]) (ea_cons (ev_var rfl) ea_nil) (g_check_count (by omega))) fun H2 e2 => ?_
    exact s_ret (ev_call (vs := [vi k, vi n, .int 1]) (ea_cons (ev_var rfl) (ea_cons (ev_var rfl) (ea_cons ev_c ea_nil))) (v_mvO (by omega) hn)) fun H3 e3 => q H3 (e1.trans (e2.trans e3))
  · exact q_dropR (er_call (vs := [v, .int 1, .int 19]) (ea_cons (ev_var rfl) (ea_cons ev_c (ea_cons hc ea_nil))) (r_check_size h q))
  · show t_X_over K w E _ [some (.int s), some u] H
    refine q_drop (v := .non) (ev_call (vs := [.int s, .int 1, .int 19]) (ea_cons (ev_var rfl) (ea_cons ev_c (ea_cons hc ea_nil))) (g_check_size h1 h2)) fun H1 e1 => ?_
    exact q_dropR (er_call (vs := [u]) (ea_cons (ev_var rfl) ea_nil) (r_check_count (h.ex e1) (q.ex e1)))
theorem r_set_of {H : Hp} {vs : List V} {E : XK} (h : BadZN K 0 20 vs H E) : SpR (sp_X_set_of K) vs H E := fun H1 e Q => .inr (.inl (h.ex e))
theorem r_set_of0 {H : Hp} {n : Nat} {E : XK} (h : 0 < n) (q : Rs K "BadNumber" E H) : SpR (sp_X_set_of K) [vi 0, vi n] H E := fun H1 e Q => .inr (.inr ⟨n, rfl, h, q.ex e⟩)
theorem r_under {H : Hp} {vs : List V} {E : XK} (h : BadZN K 1 20 vs H E) : SpR (sp_X_under K) vs H E := fun H1 e Q => .inr (h.ex e)
theorem r_over {H : Hp} {vs : List V} {E : XK} (h : BadZN K 1 19 vs H E) : SpR (sp_X_over K) vs H E := fun H1 e Q => .inr (h.ex e)
/-! ### the doors of rows -/
def sp_X_check_row (K : PySem.W.Frag) : Sp := fun vs H Q E => sp_check_row K vs H Q E ∨ ∃ v, vs = [v] ∧ BadL K H v ∧ Rs K "BadRow" E H
theorem len_X_check_row {vs : List V} {H : Hp} {Q : VK} {E : XK} (h : sp_X_check_row K vs H Q E) : vs.length = 1 := by
  rcases h with h | ⟨v, rfl, _⟩
  · exact len_check_row h
  · rfl
/-- check_row: 0 row, 1 number -/
def t_X_check_row (K : PySem.W.Frag) (w : World) (E : XK) : TS := tIfS (tOr (tNot (tB (tCB (rIsi K) (tCons (tVar 0) (tCons (tC (.ty "list")) tNil))))) (tOr (tTest (tOp oGt (tCB (rLenS K) (tCons (tVar 0) tNil)) (tC (.int 20)))) (tNot (tB (tCB (rAll K) (tCons (tLc (iList K (tVar 0)) (gName 1) tYes (tCall (sp_is_count K) [] E0 (tCons (tVar 1) tNil)) [1]) tNil)))))) (tRaise (He.ga K "BadRow") E) tNext
theorem pure_X_check_row {vs : List V} {H : Hp} {Q : VK} {E : XK} (h : sp_X_check_row K vs H Q E) : t_X_check_row K w E { nx := fun _ H' => Q .non H', rt := Q } (start ["row", "number"] vs) H := by
  rcases h with h | ⟨v, rfl, h, q⟩
  · obtain ⟨p, ns, rfl, hp, hl, q⟩ := h
    show t_X_check_row K w E _ [some (.ref p), none] H
    have h1 : EvL (tLc (iList K (tVar 0)) (gName 1) tYes (tCall (sp_is_count K) [] E0 (tCons (tVar 1) tNil)) [1]) [some (.ref p), none] H ((List.range (ns.map vi).length).map fun _ => V.bl true) :=
      el_lcL1 _ (ei_list (es_v (ev_var rfl) hp)) (by rw [List.length_map]; omega) (fun _ => rfl) fun i x H1 hx e => by
        obtain ⟨m, hm, rfl⟩ := vi_at hx
        exact ev_is (ev_call (ea_cons (ev_var rfl) ea_nil) v_count_int) (by rw [decide_eq_true (by omega)])
    rw [map_bl] at h1
    refine s_when (b := false) (et_is (et_or (et_not (et_B (ev_isiT (ev_var rfl) (ty_lst hp) kit_ll))) fun _ => et_or (et_test (ev_gt (ev_lenS (es_v (ev_var rfl) hp)) ev_c)) fun _ => et_not (et_B (ev_all (es_L h1)))) ?_) (fun hb => by cases hb) fun _ H1 e1 => q H1 e1
    rw [all_true, decide_eq_false (by rw [List.length_map]; omega)]
    rfl
  · show t_X_check_row K w E _ [some v, none] H
    exact s_when (b := true) (et_badL rfl (fun _ => rfl) (fun _ => rfl) h) (fun _ H1 e1 => q H1 e1) fun hb => by cases hb
theorem r_check_row {H : Hp} {v : V} {E : XK} (h : BadL K H v) (q : Rs K "BadRow" E H) : SpR (sp_X_check_row K) [v] H E := fun H1 e Q => .inr ⟨v, rfl, h.ex e, q.ex e⟩
theorem g_check_row {H : Hp} {p : Addr} {ns : List Nat} (hp : SqL K H p (ns.map vi)) (hl : ns.length ≤ 20) : SpV (sp_X_check_row K) [.ref p] H .non := fun H1 e Q q E => .inl (v_check_row hp hl H1 e Q q E)
def sp_X_check_can (K : PySem.W.Frag) : Sp := fun vs H Q E => sp_check_can K vs H Q E ∨ ∃ v, vs = [v] ∧ (BadL K H v ∨ BadB K H v) ∧ Rs K "BadRow" E H
theorem len_X_check_can {vs : List V} {H : Hp} {Q : VK} {E : XK} (h : sp_X_check_can K vs H Q E) : vs.length = 1 := by
  rcases h with h | ⟨v, rfl, _⟩
  · exact len_check_can h
  · rfl
/-- check_can: 0 row -/
def t_X_check_can (K : PySem.W.Frag) (w : World) (E : XK) : TS := tSeq (tDrop (tCall (sp_X_check_row K) [] E (tCons (tVar 0) tNil))) (tIfS (tTest (tOp (rNeD K) (tCall (sp_first_bar K) [] E0 (tCons (tVar 0) tNil)) (tTup (tCons (tC (.int 0)) (tCons (tC (.int 0)) tNil))))) (tRaise (He.ga K "BadRow") E) tNext)
theorem pure_X_check_can {vs : List V} {H : Hp} {Q : VK} {E : XK} (h : sp_X_check_can K vs H Q E) : t_X_check_can K w E { nx := fun _ H' => Q .non H', rt := Q } (start ["row"] vs) H := by
  rcases h with h | ⟨v, rfl, h, q⟩
  · obtain ⟨p, ns, rfl, hp, hl, hs, hb, q⟩ := h
    show t_X_check_can K w E _ [some (.ref p)] H
    have e0 : barP ns = (0, 0) := (barP_none ns).mpr hb
    refine q_drop (v := .non) (ev_call (vs := [.ref p]) (ea_cons (ev_var rfl) ea_nil) (g_check_row hp hl)) fun H1 e1 => ?_
    refine s_when (b := false) (et_is (et_test (ev_neD (d := .tuple ([((barP ns).1 : Int), ((barP ns).2 : Int)].map .int)) (e := .tuple ([(0 : Int), 0].map .int)) (ed_U (eu_call (vs := [.ref p]) (ea_cons (ev_var rfl) ea_nil) (v_first_bar (ex_l e1 hp) (by omega) hs))) (ed_U (eu_tup (ea_cons ev_c (ea_cons ev_c ea_nil)) (by decide))) (sh_intsT _) (sh_intsT _))) ?_) (fun hb => by cases hb) fun _ H2 e2 => q H2 (e1.trans e2)
    rw [eqv_tu, e0]
    rfl
  · rcases h with h | ⟨p, ns, rfl, hp, hl, hs, hb⟩
    · exact q_dropR (er_call (vs := [v]) (ea_cons (ev_var rfl) ea_nil) (r_check_row h q))
    · show t_X_check_can K w E _ [some (.ref p)] H
      refine q_drop (v := .non) (ev_call (vs := [.ref p]) (ea_cons (ev_var rfl) ea_nil) (g_check_row hp hl)) fun H1 e1 => ?_
      refine s_when (b := true) (et_is (et_test (ev_neD (d := .tuple ([((barP ns).1 : Int), ((barP ns).2 : Int)].map .int)) (e := .tuple ([(0 : Int), 0].map .int)) (ed_U (eu_call (vs := [.ref p]) (ea_cons (ev_var rfl) ea_nil) (v_first_bar (ex_l e1 hp) (by omega) hs))) (ed_U (eu_tup (ea_cons ev_c (ea_cons ev_c ea_nil)) (by decide))) (sh_intsT _) (sh_intsT _))) ?_) (fun _ H2 e2 => q H2 (e1.trans e2)) fun hb => by cases hb
      rw [eqv_tu, decide_eq_false fun z => ?_]
      · rfl
      · refine hb ((barP_none ns).mp ?_)
        have z1 : ((barP ns).1 : Int) = 0 ∧ ((barP ns).2 : Int) = 0 := by simpa using z
        exact Prod.ext (by show (barP ns).1 = 0; omega) (by show (barP ns).2 = 0; omega)
theorem r_check_can {H : Hp} {v : V} {E : XK} (h : BadL K H v ∨ BadB K H v) (q : Rs K "BadRow" E H) : SpR (sp_X_check_can K) [v] H E := fun H1 e Q => .inr ⟨v, rfl, h.imp (fun h => h.ex e) fun h => h.ex e, q.ex e⟩
theorem g_check_can {H : Hp} {p : Addr} {ns : List Nat} (hp : SqL K H p (ns.map vi)) (hl : ns.length ≤ 20) (hs : ∀ n ∈ ns, Sm 200000 n) (hb : bar ns = none) : SpV (sp_X_check_can K) [.ref p] H .non := fun H1 e Q q E => .inl (v_check_can hp hl hs hb H1 e Q q E)
def sp_X_told (K : PySem.W.Frag) : Sp := fun vs H Q E => sp_told K vs H Q E ∨ ∃ v, vs = [v] ∧ BadL K H v ∧ Rs K "BadRow" E H
theorem len_X_told {vs : List V} {H : Hp} {Q : VK} {E : XK} (h : sp_X_told K vs H Q E) : vs.length = 1 := by
  rcases h with h | ⟨v, rfl, _⟩
  · exact len_told h
  · rfl
/-- told: 0 row, 1 size, 2 greatest -/
def t_X_told (K : PySem.W.Frag) (w : World) (E : XK) : TS := tSeq (tDrop (tCall (sp_X_check_row K) [] E (tCons (tVar 0) tNil))) (tSeq (tAsg (tCall (sp_first_bar K) [] E0 (tCons (tVar 0) tNil)) (gTup K 2 (gCons (gName 1) (gCons (gName 2) gNil)))) (tSeq (tIfS (tTest (tOp oGt (tVar 1) (tC (.int 0)))) (tRet (tMake (cBar K) (sp_Barred_init K) [] E0 (tCons (tVar 1) (tCons (tVar 2) tNil)))) tNext) (tRet (tMade0 (cCan K)))))
theorem pure_X_told {vs : List V} {H : Hp} {Q : VK} {E : XK} (h : sp_X_told K vs H Q E) : t_X_told K w E { nx := fun _ H' => Q .non H', rt := Q } (start ["row", "size", "greatest"] vs) H := by
  rcases h with h | ⟨v, rfl, h, q⟩
  · obtain ⟨p, ns, rfl, hp, hl, hs, cf, q⟩ := h
    show t_X_told K w E _ [some (.ref p), none, none] H
    refine q_drop (v := .non) (ev_call (vs := [.ref p]) (ea_cons (ev_var rfl) ea_nil) (g_check_row hp hl)) fun H1 e1 => ?_
    refine q_asgT2 (R := fun a b _ => a = vi (barP ns).1 ∧ b = vi (barP ns).2) (ep_U (eu_call (vs := [.ref p]) (ea_cons (ev_var rfl) ea_nil) (v_first_bar (ex_l e1 hp) (by omega) hs)) fun t Ha Hb _ _ _ ht => ⟨t, _, _, rfl, st_of ht, rfl, rfl⟩) fun a b H2 e2 r => ?_
    obtain ⟨rfl, rfl⟩ := r
    refine q_when (et_test (ev_gt (ev_var rfl) ev_c)) (fun hb H3 e3 => ?_) fun hb H3 e3 => ?_
    · have hb' := of_decide_eq_true hb
      refine s_retP (ep_bar cf (s := vi (barP ns).1) (m := vi (barP ns).2) (ev_var rfl) (ev_var rfl)) fun v H4 e4 r => q v H4 (e1.trans (e2.trans (e3.trans e4))) (.inr ?_)
      cases hbar : bar ns with
      | none =>
        have e0 : barP ns = (0, 0) := (barP_none ns).mpr hbar
        rw [e0] at hb'
        exact absurd hb' (by decide)
      | some z =>
        have e0 : barP ns = z := by unfold barP; rw [hbar]; rfl
        obtain ⟨s, m⟩ := z
        rw [e0] at r
        exact ⟨s, m, rfl, r.2⟩
    · have hb' := of_decide_eq_false hb
      refine s_retP ep_can fun v H4 e4 r => q v H4 (e1.trans (e2.trans (e3.trans e4))) (.inl ⟨?_, r.2⟩)
      cases hbar : bar ns with
      | none => rfl
      | some z =>
        obtain ⟨s, m⟩ := z
        have e0 : barP ns = (s, m) := by unfold barP; rw [hbar]; rfl
        have := bar_ge hbar
        rw [e0] at hb'
        dsimp only at hb'
        omega
  · exact q_dropR (er_call (vs := [v]) (ea_cons (ev_var rfl) ea_nil) (r_check_row h q))
theorem r_told {H : Hp} {v : V} {E : XK} (h : BadL K H v) (q : Rs K "BadRow" E H) : SpR (sp_X_told K) [v] H E := fun H1 e Q => .inr ⟨v, rfl, h.ex e, q.ex e⟩
/-- a row that there is -/
def GoodR (K : PySem.W.Frag) (H : Hp) (v : V) : Prop := ∃ (p : Addr) (ns : List Nat), v = .ref p ∧ SqL K H p (ns.map vi) ∧ ns.length ≤ 20 ∧ (∀ n ∈ ns, Sm 200000 n) ∧ bar ns = none
theorem GoodR.ex {H H' : Hp} {v : V} (h : GoodR K H v) (e : Ex H H') : GoodR K H' v := by
  obtain ⟨p, ns, h1, h2, h3⟩ := h
  exact ⟨p, ns, h1, ex_l e h2, h3⟩
def sp_X_has (K : PySem.W.Frag) : Sp := fun vs H Q E => sp_has K vs H Q E ∨ (∃ v u, vs = [v, u] ∧ (BadL K H v ∨ BadB K H v) ∧ Rs K "BadRow" E H) ∨ ∃ v u, vs = [v, u] ∧ GoodR K H v ∧ BadS K H u ∧ Rs K "BadSet" E H
theorem len_X_has {vs : List V} {H : Hp} {Q : VK} {E : XK} (h : sp_X_has K vs H Q E) : vs.length = 2 := by
  rcases h with h | ⟨v, u, rfl, _⟩ | ⟨v, u, rfl, _⟩
  · exact len_has h
  · rfl
  · rfl
/-- has: 0 row, 1 some -/
def t_X_has (K : PySem.W.Frag) (w : World) (E : XK) : TS := tSeq (tDrop (tCall (sp_X_check_can K) [] E (tCons (tVar 0) tNil))) (tSeq (tDrop (tCall (sp_X_check_set K) [] E (tCons (tVar 1) tNil))) (tSeq (tIfS (tTest (tOp rEq (tCB (rLenS K) (tCons (tVar 1) tNil)) (tC (.int 0)))) (tRet (tC (.bl true))) tNext) (tRet (tAndV (tOp oLe (tCB (rLenS K) (tCons (tVar 1) tNil)) (tCB (rLenS K) (tCons (tVar 0) tNil))) (tOp oLt (tCall (sp_place_of K) [] E0 (tCons (tVar 1) tNil)) (tOp (rIxL K) (tVar 0) (tOp oSub (tCB (rLenS K) (tCons (tVar 1) tNil)) (tC (.int 1)))))))))
theorem pure_X_has {vs : List V} {H : Hp} {Q : VK} {E : XK} (h : sp_X_has K vs H Q E) : t_X_has K w E { nx := fun _ H' => Q .non H', rt := Q } (start ["row", "some"] vs) H := by
  rcases h with h | ⟨v, u, rfl, h, q⟩ | ⟨v, u, rfl, ⟨p, ns, rfl, hp, hl, hs, hb⟩, h, q⟩
  · obtain ⟨p, s, ns, so, rfl, hp, hl, hs, hb, hso, hsm, hsl, hsf, q⟩ := h
    show t_X_has K w E _ [some (.ref p), some (.ref s)] H
    refine q_drop (v := .non) (ev_call (vs := [.ref p]) (ea_cons (ev_var rfl) ea_nil) (g_check_can hp hl hs hb)) fun H1 e1 => ?_
    refine q_drop (v := .non) (ev_call (vs := [.ref s]) (ea_cons (ev_var rfl) ea_nil) (fun H2 e Q q E => .inl (v_check_set (ex_l e1 hso) hsl hsf H2 e Q q E))) fun H2 e2 => ?_
    have hso2 := ex_l (e1.trans e2) hso
    have hp2 := ex_l (e1.trans e2) hp
    have lenS : ∀ {H' : Hp}, Ex H2 H' → Ev (tCB (rLenS K) (tCons (tVar 1) tNil)) [some (.ref p), some (.ref s)] H' (vi so.length) := fun e => ev_is (ev_lenS (es_v (ev_var rfl) (ex_l e hso2))) (by rw [List.length_map])
    refine q_when (et_test (ev_eqI (i := ((so.length : Nat) : Int)) (lenS (Ex.refl _)) ev_c)) (fun hb H3 e3 => ?_) fun hb H3 e3 => ?_
    · have hb' := of_decide_eq_true hb
      refine s_ret ev_c fun H4 e4 => ?_
      have g := q H4 (e1.trans (e2.trans (e3.trans e4)))
      unfold inF at g
      rw [decide_eq_true (show so.length = 0 by omega)] at g
      exact g
    · have hb' := of_decide_eq_false hb
      have e123 := e1.trans (e2.trans e3)
      refine s_ret (v := .bl (inF ns so)) ?_ fun H4 e4 => q H4 (e123.trans e4)
      unfold inF
      rw [decide_eq_false (show ¬ so.length = 0 by omega), Bool.false_or]
      refine ev_andV (ev_is (ev_le (lenS e3) (ev_is (ev_lenS (es_v (ev_var rfl) (ex_l e3 hp2))) (by rw [List.length_map]))) (congrArg V.bl (by rw [decide_eq_decide]; omega))) fun hle => ?_
      have hle' := of_decide_eq_true hle
      obtain ⟨x, hx⟩ : ∃ x, ns[so.length - 1]? = some x := ⟨_, List.getElem?_eq_getElem (by omega)⟩
      have hxd : ns.getD (so.length - 1) 0 = x := by rw [List.getD_eq_getElem?_getD, hx]; rfl
      have hxV : (ns.map vi)[so.length - 1]? = some (vi x) := by rw [List.getElem?_map, hx]; rfl
      rw [hxd]
      exact ev_is (ev_lt (ev_call (vs := [.ref s]) (ea_cons (ev_var rfl) ea_nil) (v_place_of (ex_l e3 hso2) (by omega) hsm)) (ev_ixS (i := ((so.length - 1 : Nat) : Int)) (es_v (ev_var rfl) (ex_l e3 hp2)) (ev_is (ev_sub (lenS e3) ev_c) (by show V.int _ = V.int _; congr 1; omega)) (atI_nat hxV))) (congrArg V.bl (by rw [decide_eq_decide]; omega))
  · exact q_dropR (er_call (vs := [v]) (ea_cons (ev_var rfl) ea_nil) (r_check_can h q))
  · show t_X_has K w E _ [some (.ref p), some u] H
    refine q_drop (v := .non) (ev_call (vs := [.ref p]) (ea_cons (ev_var rfl) ea_nil) (g_check_can hp hl hs hb)) fun H1 e1 => ?_
    exact q_dropR (er_call (vs := [u]) (ea_cons (ev_var rfl) ea_nil) (r_check_set (h.ex e1) (q.ex e1)))
theorem r_has {H : Hp} {v u : V} {E : XK} (h : BadL K H v ∨ BadB K H v) (q : Rs K "BadRow" E H) : SpR (sp_X_has K) [v, u] H E := fun H1 e Q => .inr (.inl ⟨v, u, rfl, h.imp (fun h => h.ex e) fun h => h.ex e, q.ex e⟩)
theorem r_hasS {H : Hp} {v u : V} {E : XK} (g : GoodR K H v) (h : BadS K H u) (q : Rs K "BadSet" E H) : SpR (sp_X_has K) [v, u] H E := fun H1 e Q => .inr (.inr ⟨v, u, rfl, g.ex e, h.ex e, q.ex e⟩)
def sp_X_most (K : PySem.W.Frag) : Sp := fun vs H Q E => sp_most K vs H Q E ∨ ∃ v, vs = [v] ∧ (BadL K H v ∨ BadB K H v ∨ NoNext K H v) ∧ Rs K "BadRow" E H
theorem len_X_most {vs : List V} {H : Hp} {Q : VK} {E : XK} (h : sp_X_most K vs H Q E) : vs.length = 1 := by
  rcases h with h | ⟨v, rfl, _⟩
  · exact len_most h
  · rfl
/-- most: 0 row -/
def t_X_most (K : PySem.W.Frag) (w : World) (E : XK) : TS := tSeq (tDrop (tCall (sp_X_check_can K) [] E (tCons (tVar 0) tNil))) (tSeq (tIfS (tNot (tTest (tChain oLe oLt (tC (.int 1)) (tCB (rLenS K) (tCons (tVar 0) tNil)) (tC (.int 20))))) (tRaise (He.ga K "BadRow") E) tNext) (tRet (tCall (sp_moved K) [] E0 (tCons (tCB (rLenS K) (tCons (tVar 0) tNil)) (tCons (tOp (rIxL K) (tVar 0) (tUn oNeg (tC (.int 1)))) (tCons (tC (.int 1)) tNil))))))
theorem pure_X_most {vs : List V} {H : Hp} {Q : VK} {E : XK} (h : sp_X_most K vs H Q E) : t_X_most K w E { nx := fun _ H' => Q .non H', rt := Q } (start ["row"] vs) H := by
  rcases h with h | ⟨v, rfl, h, q⟩
  · obtain ⟨p, ns, l, rfl, hp, hl, hs, hb, h0, hlast, q⟩ := h
    show t_X_most K w E _ [some (.ref p)] H
    refine q_drop (v := .non) (ev_call (vs := [.ref p]) (ea_cons (ev_var rfl) ea_nil) (g_check_can hp (by omega) hs hb)) fun H1 e1 => ?_
    have hp1 := ex_l e1 hp
    have lenS : ∀ {H' : Hp}, Ex H1 H' → Ev (tCB (rLenS K) (tCons (tVar 0) tNil)) [some (.ref p)] H' (vi ns.length) := fun e => ev_is (ev_lenS (es_v (ev_var rfl) (ex_l e hp1))) (by rw [List.length_map])
    refine q_when (b := false) (et_is (et_not (et_test (ev_chLl ev_c (lenS (Ex.refl _)) ev_c))) ?_) (fun hb => by cases hb) fun _ H2 e2 => ?_
    · rw [decide_eq_true (by omega), decide_eq_true (by omega)]
      rfl
    · refine s_ret (ev_call (vs := [vi ns.length, vi l, .int 1]) (ea_cons (lenS e2) (ea_cons (ev_ixS (i := -1) (es_v (ev_var rfl) (ex_l e2 hp1)) (ev_neg ev_c) (atI_last (n := ns.length - 1) (by rw [List.length_map]; omega) (by rw [List.getElem?_map, hlast]; rfl))) (ea_cons ev_c ea_nil))) (v_mvO (by omega) ((hs l (List.mem_of_getElem? hlast)).up (by omega)))) fun H3 e3 => q H3 (e1.trans (e2.trans e3))
  · rcases h with h | h | ⟨p, ns, rfl, hp, hl, hs, hb⟩
    · exact q_dropR (er_call (vs := [v]) (ea_cons (ev_var rfl) ea_nil) (r_check_can (.inl h) q))
    · exact q_dropR (er_call (vs := [v]) (ea_cons (ev_var rfl) ea_nil) (r_check_can (.inr h) q))
    · show t_X_most K w E _ [some (.ref p)] H
      refine q_drop (v := .non) (ev_call (vs := [.ref p]) (ea_cons (ev_var rfl) ea_nil) (g_check_can hp (by omega) hs hb)) fun H1 e1 => ?_
      refine q_when (b := true) (et_is (et_not (et_test (ev_chLl ev_c (ev_is (ev_lenS (es_v (ev_var rfl) (ex_l e1 hp))) (w := vi ns.length) (by rw [List.length_map])) ev_c))) ?_) (fun _ H2 e2 => q H2 (e1.trans e2)) fun hb => by cases hb
      rcases hl with hl | hl
      · rw [hl]; rfl
      · rw [hl]; rfl
theorem r_most {H : Hp} {v : V} {E : XK} (h : BadL K H v ∨ BadB K H v ∨ NoNext K H v) (q : Rs K "BadRow" E H) : SpR (sp_X_most K) [v] H E := fun H1 e Q => .inr ⟨v, rfl, h.imp (fun h => h.ex e) fun h => h.imp (fun h => h.ex e) fun h => h.ex e, q.ex e⟩
end Sx


set_option Elab.async false
set_option linter.all false
set_option maxRecDepth 100000
set_option maxHeartbeats 4000000
/-! law 5's askers, what is told of a refusal -/
namespace Sx
open PySem PySem.Spec PyProof.Rows L2 Evl Mth
variable {K : PySem.W.Frag} {w : World}
def sp_X__law_with_set (K : PySem.W.Frag) : Sp := fun vs H Q E => ∃ (d : Nat) (v : V), vs = [vi d, v] ∧ BadS K H v ∧ Rs K "BadSet" E H
theorem len_X__law_with_set {vs : List V} {H : Hp} {Q : VK} {E : XK} (h : sp_X__law_with_set K vs H Q E) : vs.length = 2 := by obtain ⟨d, v, rfl, _⟩ := h; rfl
/-- _law_with_set: 0 _law_door, 1 _law_some -/
def t_X__law_with_set (K : PySem.W.Frag) (w : World) (E : XK) : TS := tSeq (tIfS (tTest (tOp oLt (tVar 0) (tC (.int 2)))) (tRet (tIf (tTest (tOp rEq (tVar 0) (tC (.int 0)))) (tCall (sp_X_number_of K) [] E (tCons (tVar 1) tNil)) (tCall (sp_X_beneath K) [] E (tCons (tVar 1) tNil)))) tNext) (tRet (tIf (tTest (tOp rEq (tVar 0) (tC (.int 2)))) (tCall (sp_X_has K) [] E (tCons (tLst (tCons (tC (.int 5)) (tCons (tC (.int 2)) tNil))) (tCons (tVar 1) tNil))) (tCall (sp_X_has K) [] E (tCons (tLst tNil) (tCons (tVar 1) tNil)))))
theorem good52 : bar [5, 2] = none := by decide +kernel
theorem goodL {H : Hp} {p : Addr} {ns : List Nat} (hp : SqL K H p (ns.map vi)) (hl : ns.length ≤ 20) (hs : ∀ n ∈ ns, n ≤ 200000) (hb : bar ns = none) : GoodR K H (.ref p) := ⟨p, ns, rfl, hp, hl, fun n hn => Sm.num (hs n hn), hb⟩
theorem pure_X__law_with_set {vs : List V} {H : Hp} {Q : VK} {E : XK} (h : sp_X__law_with_set K vs H Q E) : t_X__law_with_set K w E { nx := fun _ H' => Q .non H', rt := Q } (start ["_law_door", "_law_some"] vs) H := by
  obtain ⟨d, v, rfl, h, q⟩ := h
  show t_X__law_with_set K w E _ [some (vi d), some v] H
  refine q_when (et_test (ev_lt (i := (d : Int)) (ev_var rfl) ev_c)) (fun hb H1 e1 => ?_) fun hb H1 e1 => ?_
  · exact s_retR (er_if (et_test (ev_eqI (i := (d : Int)) (ev_var rfl) ev_c)) (fun _ => er_call (vs := [v]) (ea_cons (ev_var rfl) ea_nil) (r_number_of (h.ex e1) (q.ex e1))) fun _ => er_call (vs := [v]) (ea_cons (ev_var rfl) ea_nil) (r_beneath (h.ex e1) (q.ex e1)))
  · exact s_retR (er_if (et_test (ev_eqI (i := (d : Int)) (ev_var rfl) ev_c)) (fun _ => er_callLV (xs := [5, 2].map vi) (el_lst (ea_cons ev_c (ea_cons ev_c ea_nil)) (by decide)) (ev_var rfl) fun p Ha ea hp => r_hasS (goodL (ns := [5, 2]) (sq_of hp) (by decide) (by decide) good52) (h.ex (e1.trans ea)) (q.ex (e1.trans ea)))
      fun _ => er_callLV (xs := ([] : List Nat).map vi) (el_lst ea_nil (by decide)) (ev_var rfl) fun p Ha ea hp => r_hasS (goodL (ns := []) (sq_of hp) (by decide) (by decide) rfl) (h.ex (e1.trans ea)) (q.ex (e1.trans ea)))
def sp_X__law_with_size (K : PySem.W.Frag) : Sp := fun vs H Q E => ∃ (d : Nat) (v : V), vs = [vi d, v] ∧ ((d = 0 ∧ BadZ K H v 0 20) ∨ (d = 1 ∧ BadZ K H v 1 20) ∨ (d = 2 ∧ BadZ K H v 1 19)) ∧ Rs K "BadSize" E H
theorem len_X__law_with_size {vs : List V} {H : Hp} {Q : VK} {E : XK} (h : sp_X__law_with_size K vs H Q E) : vs.length = 2 := by obtain ⟨d, v, rfl, _⟩ := h; rfl
/-- _law_with_size: 0 _law_door, 1 _law_size -/
def t_X__law_with_size (K : PySem.W.Frag) (w : World) (E : XK) : TS := tRet (tIf (tTest (tOp rEq (tVar 0) (tC (.int 0)))) (tCall (sp_X_set_of K) [] E (tCons (tVar 1) (tCons (tUn oNeg (tC (.int 1))) tNil))) (tIf (tTest (tOp rEq (tVar 0) (tC (.int 1)))) (tCall (sp_X_under K) [] E (tCons (tVar 1) (tCons (tC .non) tNil))) (tCall (sp_X_over K) [] E (tCons (tVar 1) (tCons (tUn oNeg (tC (.int 1))) tNil)))))
theorem pure_X__law_with_size {vs : List V} {H : Hp} {Q : VK} {E : XK} (h : sp_X__law_with_size K vs H Q E) : t_X__law_with_size K w E { nx := fun _ H' => Q .non H', rt := Q } (start ["_law_door", "_law_size"] vs) H := by
  obtain ⟨d, v, rfl, h, q⟩ := h
  show t_X__law_with_size K w E _ [some (vi d), some v] H
  refine s_retR (er_if (et_test (ev_eqI (i := (d : Int)) (ev_var rfl) ev_c)) (fun hb => ?_) fun hb => er_if (et_test (ev_eqI (i := (d : Int)) (ev_var rfl) ev_c)) (fun hb2 => ?_) fun hb2 => ?_)
  · have hb' := of_decide_eq_true hb
    rcases h with ⟨_, h⟩ | ⟨h0, _⟩ | ⟨h0, _⟩
    · exact er_call (vs := [v, .int (-1)]) (ea_cons (ev_var rfl) (ea_cons (ev_neg ev_c) ea_nil)) (r_set_of (.inl ⟨v, _, rfl, h, q⟩))
    · omega
    · omega
  · have hb' := of_decide_eq_true hb2
    rcases h with ⟨h0, _⟩ | ⟨_, h⟩ | ⟨h0, _⟩
    · omega
    · exact er_call (vs := [v, .non]) (ea_cons (ev_var rfl) (ea_cons ev_c ea_nil)) (r_under (.inl ⟨v, _, rfl, h, q⟩))
    · omega
  · have hb1' := of_decide_eq_false hb
    have hb' := of_decide_eq_false hb2
    rcases h with ⟨h0, _⟩ | ⟨h0, _⟩ | ⟨_, h⟩
    · omega
    · omega
    · exact er_call (vs := [v, .int (-1)]) (ea_cons (ev_var rfl) (ea_cons (ev_neg ev_c) ea_nil)) (r_over (.inl ⟨v, _, rfl, h, q⟩))
def sp_X__law_with_number (K : PySem.W.Frag) : Sp := fun vs H Q E => ∃ (d : Nat) (v : V), vs = [vi d, v] ∧ IC K H v false ∧ Rs K "BadNumber" E H
theorem len_X__law_with_number {vs : List V} {H : Hp} {Q : VK} {E : XK} (h : sp_X__law_with_number K vs H Q E) : vs.length = 2 := by obtain ⟨d, v, rfl, _⟩ := h; rfl
/-- _law_with_number: 0 _law_door, 1 _law_number -/
def t_X__law_with_number (K : PySem.W.Frag) (w : World) (E : XK) : TS := tRet (tIf (tTest (tOp rEq (tVar 0) (tC (.int 0)))) (tCall (sp_X_set_of K) [] E (tCons (tC (.int 3)) (tCons (tVar 1) tNil))) (tIf (tTest (tOp rEq (tVar 0) (tC (.int 1)))) (tCall (sp_X_under K) [] E (tCons (tC (.int 20)) (tCons (tVar 1) tNil))) (tCall (sp_X_over K) [] E (tCons (tC (.int 19)) (tCons (tVar 1) tNil)))))
theorem pure_X__law_with_number {vs : List V} {H : Hp} {Q : VK} {E : XK} (h : sp_X__law_with_number K vs H Q E) : t_X__law_with_number K w E { nx := fun _ H' => Q .non H', rt := Q } (start ["_law_door", "_law_number"] vs) H := by
  obtain ⟨d, v, rfl, h, q⟩ := h
  show t_X__law_with_number K w E _ [some (vi d), some v] H
  exact s_retR (er_if (et_test (ev_eqI (i := (d : Int)) (ev_var rfl) ev_c)) (fun _ => er_call (vs := [.int 3, v]) (ea_cons ev_c (ea_cons (ev_var rfl) ea_nil)) (r_set_of (.inr ⟨3, v, rfl, by omega, by omega, h, q⟩)))
    fun _ => er_if (et_test (ev_eqI (i := (d : Int)) (ev_var rfl) ev_c)) (fun _ => er_call (vs := [.int 20, v]) (ea_cons ev_c (ea_cons (ev_var rfl) ea_nil)) (r_under (.inr ⟨20, v, rfl, by omega, by omega, h, q⟩)))
      fun _ => er_call (vs := [.int 19, v]) (ea_cons ev_c (ea_cons (ev_var rfl) ea_nil)) (r_over (.inr ⟨19, v, rfl, by omega, by omega, h, q⟩)))
def sp_X__law_with_row (K : PySem.W.Frag) : Sp := fun vs H Q E => ∃ (d : Nat) (v : V), vs = [vi d, v] ∧ ((d ≤ 2 ∧ BadL K H v) ∨ (d = 2 ∧ NoNext K H v)) ∧ Rs K "BadRow" E H
theorem len_X__law_with_row {vs : List V} {H : Hp} {Q : VK} {E : XK} (h : sp_X__law_with_row K vs H Q E) : vs.length = 2 := by obtain ⟨d, v, rfl, _⟩ := h; rfl
/-- _law_with_row: 0 _law_door, 1 _law_row -/
def t_X__law_with_row (K : PySem.W.Frag) (w : World) (E : XK) : TS := tRet (tIf (tTest (tOp rEq (tVar 0) (tC (.int 0)))) (tCall (sp_X_told K) [] E (tCons (tVar 1) tNil)) (tIf (tTest (tOp rEq (tVar 0) (tC (.int 1)))) (tCall (sp_X_has K) [] E (tCons (tVar 1) (tCons (tC .non) tNil))) (tCall (sp_X_most K) [] E (tCons (tVar 1) tNil))))
theorem pure_X__law_with_row {vs : List V} {H : Hp} {Q : VK} {E : XK} (h : sp_X__law_with_row K vs H Q E) : t_X__law_with_row K w E { nx := fun _ H' => Q .non H', rt := Q } (start ["_law_door", "_law_row"] vs) H := by
  obtain ⟨d, v, rfl, h, q⟩ := h
  show t_X__law_with_row K w E _ [some (vi d), some v] H
  refine s_retR (er_if (et_test (ev_eqI (i := (d : Int)) (ev_var rfl) ev_c)) (fun hb => ?_) fun hb => er_if (et_test (ev_eqI (i := (d : Int)) (ev_var rfl) ev_c)) (fun hb2 => ?_) fun hb2 => ?_)
  · have hb' := of_decide_eq_true hb
    rcases h with ⟨_, h⟩ | ⟨h0, _⟩
    · exact er_call (vs := [v]) (ea_cons (ev_var rfl) ea_nil) (r_told h q)
    · omega
  · have hb' := of_decide_eq_true hb2
    rcases h with ⟨_, h⟩ | ⟨h0, _⟩
    · exact er_call (vs := [v, .non]) (ea_cons (ev_var rfl) (ea_cons ev_c ea_nil)) (r_has (.inl h) q)
    · omega
  · exact er_call (vs := [v]) (ea_cons (ev_var rfl) ea_nil) (r_most (by
      rcases h with ⟨_, h⟩ | ⟨_, h⟩
      · exact .inl h
      · exact .inr (.inr h)) q)
def sp_X__law_next (K : PySem.W.Frag) : Sp := fun vs H Q E => ∃ (d : Nat) (v : V), vs = [vi d, v] ∧ BadB K H v ∧ Rs K "BadRow" E H
theorem len_X__law_next {vs : List V} {H : Hp} {Q : VK} {E : XK} (h : sp_X__law_next K vs H Q E) : vs.length = 2 := by obtain ⟨d, v, rfl, _⟩ := h; rfl
/-- _law_next: 0 _law_door, 1 _law_row -/
def t_X__law_next (K : PySem.W.Frag) (w : World) (E : XK) : TS := tRet (tIf (tTest (tOp rEq (tVar 0) (tC (.int 0)))) (tCall (sp_X_has K) [] E (tCons (tVar 1) (tCons (tLst (tCons (tC (.int 1)) (tCons (tC (.int 1)) tNil))) tNil))) (tCall (sp_X_most K) [] E (tCons (tVar 1) tNil)))
theorem pure_X__law_next {vs : List V} {H : Hp} {Q : VK} {E : XK} (h : sp_X__law_next K vs H Q E) : t_X__law_next K w E { nx := fun _ H' => Q .non H', rt := Q } (start ["_law_door", "_law_row"] vs) H := by
  obtain ⟨d, v, rfl, h, q⟩ := h
  show t_X__law_next K w E _ [some (vi d), some v] H
  exact s_retR (er_if (et_test (ev_eqI (i := (d : Int)) (ev_var rfl) ev_c)) (fun _ => er_callVL (xs := [vi 1, vi 1]) (ev_var rfl) (el_lst (ea_cons ev_c (ea_cons ev_c ea_nil)) (by decide)) fun p Ha ea hp => r_has (.inr (h.ex ea)) (q.ex ea))
    fun _ => er_call (vs := [v]) (ea_cons (ev_var rfl) ea_nil) (r_most (.inr (.inl h)) q))
def sp_X__law_of_none (K : PySem.W.Frag) : Sp := fun vs H Q E => ∃ v : V, vs = [vi 0, v] ∧ (IC K H v false ∨ ∃ n : Nat, v = vi n ∧ 0 < n) ∧ Rs K "BadNumber" E H
theorem len_X__law_of_none {vs : List V} {H : Hp} {Q : VK} {E : XK} (h : sp_X__law_of_none K vs H Q E) : vs.length = 2 := by obtain ⟨v, rfl, _⟩ := h; rfl
/-- _law_of_none: 0 _law_door, 1 _law_number -/
def t_X__law_of_none (K : PySem.W.Frag) (w : World) (E : XK) : TS := tRet (tCall (sp_X_set_of K) [] E (tCons (tVar 0) (tCons (tVar 1) tNil)))
theorem pure_X__law_of_none {vs : List V} {H : Hp} {Q : VK} {E : XK} (h : sp_X__law_of_none K vs H Q E) : t_X__law_of_none K w E { nx := fun _ H' => Q .non H', rt := Q } (start ["_law_door", "_law_number"] vs) H := by
  obtain ⟨v, rfl, h, q⟩ := h
  show t_X__law_of_none K w E _ [some (vi 0), some v] H
  rcases h with h | ⟨n, rfl, h0⟩
  · exact s_retR (er_call (vs := [vi 0, v]) (ea_cons (ev_var rfl) (ea_cons (ev_var rfl) ea_nil)) (r_set_of (.inr ⟨0, v, rfl, by omega, by omega, h, q⟩)))
  · exact s_retR (er_call (vs := [vi 0, vi n]) (ea_cons (ev_var rfl) (ea_cons (ev_var rfl) ea_nil)) (r_set_of0 h0 q))
/-! ### the refusal's kind -/
def badN : Nat → Str
  | 0 => "BadSet"
  | 1 => "BadSize"
  | 2 => "BadNumber"
  | _ => "BadRow"
abbrev bA (K : PySem.W.Frag) (j : Nat) : Addr := He.ga K (badN j)
def kindsB (j : Nat) : List Bool := [decide (j = 0), decide (j = 1), decide (j = 2), decide (j = 3), true]
def kindsV (j : Nat) : List V := (kindsB j).map V.bl
structure Knd (K : PySem.W.Frag) (j : Nat) : Prop where
  c : ExcC K (bA K j)
  k0 : PySem.W.kitOne K (.ref (bA K j)) (.ref (He.ga K "BadSet")) = some (decide (j = 0))
  k1 : PySem.W.kitOne K (.ref (bA K j)) (.ref (He.ga K "BadSize")) = some (decide (j = 1))
  k2 : PySem.W.kitOne K (.ref (bA K j)) (.ref (He.ga K "BadNumber")) = some (decide (j = 2))
  k3 : PySem.W.kitOne K (.ref (bA K j)) (.ref (He.ga K "BadRow")) = some (decide (j = 3))
  kv : PySem.W.kitOne K (.ref (bA K j)) (.type "ValueError") = some true
  se : PySem.W.exmOne K (.ref (bA K j)) (.ref (He.ga K "SetsError")) = some true
def kndTest (j : Nat) (K : PySem.W.Frag) : Bool :=
  (He.eqO (PySem.W.findIn K (.ref (bA K j)) "__getattribute__") (some (some (.builtin "BaseException.__getattribute__"))) && (He.eqO (PySem.W.findIn K (.ref (bA K j)) "__getattr__") (some none) && (decide (PySem.W.subIn K (.ref (bA K j)) (.type "BaseException") = some true) && PySem.W.hasDictIn K (bA K j)))) &&
  ((He.eqO (PySem.W.findIn K (.ref (bA K j)) "__class__") (some (some (.builtin "object.__class__"))) && (He.eqO (PySem.W.specialIn K (.builtin "object.__class__") "__get__") (some (some (.builtin "getset_descriptor.__get__"))) && (decide (PySem.W.takesIn K (.builtin "object.__class__") = some true) && decide (PySem.W.mroIn K (bA K j) (.type "object") = some true)))) &&
  ((decide (PySem.W.kitOne K (.ref (bA K j)) (.ref (He.ga K "BadSet")) = some (decide (j = 0))) && (decide (PySem.W.kitOne K (.ref (bA K j)) (.ref (He.ga K "BadSize")) = some (decide (j = 1))) && (decide (PySem.W.kitOne K (.ref (bA K j)) (.ref (He.ga K "BadNumber")) = some (decide (j = 2))) && decide (PySem.W.kitOne K (.ref (bA K j)) (.ref (He.ga K "BadRow")) = some (decide (j = 3)))))) &&
  (decide (PySem.W.kitOne K (.ref (bA K j)) (.type "ValueError") = some true) && decide (PySem.W.exmOne K (.ref (bA K j)) (.ref (He.ga K "SetsError")) = some true))))
theorem knd_of {j : Nat} (h : kndTest j K = true) : Knd K j := by
  obtain ⟨a, h⟩ := He.ba h
  obtain ⟨b, h⟩ := He.ba h
  obtain ⟨c, d⟩ := He.ba h
  obtain ⟨a1, a⟩ := He.ba a
  obtain ⟨a2, a⟩ := He.ba a
  obtain ⟨a3, a4⟩ := He.ba a
  obtain ⟨b1, b⟩ := He.ba b
  obtain ⟨b2, b⟩ := He.ba b
  obtain ⟨b3, b4⟩ := He.ba b
  obtain ⟨c1, c⟩ := He.ba c
  obtain ⟨c2, c⟩ := He.ba c
  obtain ⟨c3, c4⟩ := He.ba c
  obtain ⟨d1, d2⟩ := He.ba d
  exact ⟨⟨He.eqO_ok a1, He.eqO_ok a2, of_decide_eq_true a3, a4, He.eqO_ok b1, He.eqO_ok b2, of_decide_eq_true b3, of_decide_eq_true b4⟩, of_decide_eq_true c1, of_decide_eq_true c2, of_decide_eq_true c3, of_decide_eq_true c4, of_decide_eq_true d1, of_decide_eq_true d2⟩
/-- _law_kinds: 0 _law_error, 1 _law_found -/
def t_kinds (K : PySem.W.Frag) (D a : Addr) : TS :=
  tSeq (tAsg (tLst (tCons (tCB (rIsE K D a) (tCons (tVar 0) (tCons (tC (.ref (He.ga K "BadSet"))) tNil))) (tCons (tCB (rIsE K D a) (tCons (tVar 0) (tCons (tC (.ref (He.ga K "BadSize"))) tNil))) (tCons (tCB (rIsE K D a) (tCons (tVar 0) (tCons (tC (.ref (He.ga K "BadNumber"))) tNil))) tNil)))) (gName 1))
    (tRet (tOp rCat (tVar 1) (tLst (tCons (tCB (rIsE K D a) (tCons (tVar 0) (tCons (tC (.ref (He.ga K "BadRow"))) tNil))) (tCons (tCB (rIsE K D a) (tCons (tVar 0) (tCons (tC (.ty "ValueError")) tNil))) tNil)))))
theorem ev_isE {σ : L2.St} {H : Hp} {ta : TE} {D a : Addr} {c : V} {cv : Value} {b : Bool} (h : Ev ta σ H (.ref a)) (hc : ∀ u, RelV c u → u = cv) (hk : PySem.W.kitOne K (.ref D) cv = some b) : Ev (tCB (rIsE K D a) (tCons ta (tCons (tC c) tNil))) σ H (.bl b) := fun H1 e Q q =>
  h H1 e _ fun H2 e2 => ⟨c, cv, b, rfl, hc, hk, q H2 e2⟩
theorem pure_kinds {a : Addr} {j : Nat} {H : Hp} {Q : VK} (k : Knd K j) (q : RetL (kindsV j) H Q) : t_kinds K (bA K j) a { nx := fun _ H' => Q .non H', rt := Q } (start ["_law_error", "_law_found"] [.ref a]) H := by
  show t_kinds K (bA K j) a _ [some (.ref a), none] H
  have ow : ∀ {C : Addr} (u : Value), RelV (.ref C) u → u = .ref C := fun _ h => h
  have oy : ∀ {s : String} (u : Value), RelV (.ty s) u → u = .type s := fun _ h => h
  refine q_asgL (xs := [.bl (decide (j = 0)), .bl (decide (j = 1)), .bl (decide (j = 2))]) (el_lst (ea_cons (ev_isE (ev_var rfl) ow k.k0) (ea_cons (ev_isE (ev_var rfl) ow k.k1) (ea_cons (ev_isE (ev_var rfl) ow k.k2) ea_nil))) (by show 3 ≤ 100000; decide)) fun l H1 nl e1 hl => ?_
  have h2 : EvL (tLst (tCons (tCB (rIsE K (bA K j) a) (tCons (tVar 0) (tCons (tC (.ref (He.ga K "BadRow"))) tNil))) (tCons (tCB (rIsE K (bA K j) a) (tCons (tVar 0) (tCons (tC (.ty "ValueError")) tNil))) tNil))) [some (.ref a), some (.ref l)] H1 [.bl (decide (j = 3)), .bl true] :=
    el_lst (ea_cons (ev_isE (ev_var rfl) ow k.k3) (ea_cons (ev_isE (ev_var rfl) oy k.kv) ea_nil)) (by show 2 ≤ 100000; decide)
  refine s_retL (xs := kindsV j) (fun Ha ea Qa qa => (ev_var (i := 1) rfl) Ha ea _ fun Hb eb => h2 Hb (ea.trans eb) _ fun l2 Hc n2 ec hc => ⟨l, l2, _, _, rfl, rfl, (ea.trans (eb.trans ec)) _ _ hl, hc, sz_of (by show 3 + 2 ≤ 100000; decide), fun d hd => qa d _ (fresh_back (eb.trans ec) hd) ((eb.trans ec).trans (Ex.new hd)) upd_same⟩) fun p H2 np e2 hp => q p H2 (fresh_back e1 np) (e1.trans e2) hp
structure KindsOk (P : Program) (w : World) (K : PySem.W.Frag) (mg : Str → Option Value) (base : Heap) : Prop where
  ex : ∃ f, mg "_law_kinds" = some (.ref f) ∧ PySem.W.keepIn K (.ref f) = true ∧ ∀ (A : Around) (outer : List Env) (s : Shared) (H : Hp) (a : Addr) (oe : Obj) (j : Nat) (Q : VK), L2H.RoomH 2 A → L2H.PinOk outer H s (a, oe) → Zc (.ref (bA K j)) none oe → (∃ vs, oe.data = .fields vs) →
    Env0 P w K mg base A outer s H → Knd K j → RetL (kindsV j) H Q → codeAny (model P w) A (.call (.ref f) ⟨[.ref a], []⟩) (CR CX0 outer P w H s Q E0) s
/-- _law_kinds(e), e what the suite holds -/
def tKinds (K : PySem.W.Frag) (i : Nat) (a : Addr) (cls : Value) (d : Option Addr) : TE := fun σ H Q => σ[i]? = some (some (.ref a)) ∧ ∃ j, cls = .ref (bA K j) ∧ d = none ∧ Knd K j ∧ RetL (kindsV j) H Q
theorem pe_kinds {X : Cx} {k i : Nat} {a : Addr} {oe : Obj} {cls : Value} {d : Option Addr} {pn : List (Addr × Obj)} {n : Str} {p np pos : Pos} (KO : KindsOk X.prog X.w X.K X.mg X.base) (hr : Room k X.A) (hk : 2 ≤ k) (hg : Gl X "_law_kinds") (hN : X.N[i]? = some n) (hv : Vis X.env.scope n) (hz : Zc cls d oe) (hf : ∃ vs, oe.data = .fields vs)
    (hdb : (n == ("__debug__" : Str)) = false := by decide) (hcd : (n == ("__classdict__" : Str)) = false := by decide)
    (he : starEach [.Name n np] X.env = (false, eval (.Name n np) X.env) :: starEach [] X.env := by rfl) (hpl : (backTo pos (starEach [] X.env)).any (·.1) = false := by rfl) :
    PE (X.suite a ((a, oe) :: pn)) (.Call (.Name "_law_kinds" p) [.Name n np] [] pos) (tKinds X.K i a cls d) := ⟨fun pins s σ H Q I h => by
  obtain ⟨hs, j, rfl, rfl, kn, q⟩ := h
  obtain ⟨f, g, kp, run⟩ := KO.ex
  refine wpAny_Call_Name_kw (ld_glob (X := X.suite a ((a, oe) :: pn)) I hg g ?_ (by decide))
  have ha : L2.PA (X.suite a ((a, oe) :: pn)) [.Name n np] (tCons (tVar i) tNil) := pa_cons (pe_var (X := X.suite a ((a, oe) :: pn)) (pos := np) hN hv hdb hcd) pa_nil he
  refine PySem.W.callWith_K (h₀ := X.base) I.ok.mod.kin kp (thn (ha.run pos pins s σ H (fun vs H1 => vs = [.ref a] ∧ H1 = H) I ⟨.ref a, hs, rfl, rfl⟩) fun us s1 hu => ?_) he hpl
  obtain ⟨vs, H1, I1, r, rfl, rfl⟩ := hu
  refine ⟨I1.kIn, ?_⟩
  cases r with
  | cons r0 rn =>
    cases rn
    cases r0
    obtain ⟨g1, g2, g3, g4, g5⟩ := I1.pin (a, oe) (List.mem_append_left _ List.mem_cons_self)
    have pinOk : L2H.PinOk (X.suite a ((a, oe) :: pn)).stack H1 s1 (a, oe) := ⟨g1, g2, fun hm => by
      rcases List.mem_cons.mp (I1.stkSub a hm) with z | z
      · exact g3 z
      · exact g4 z, g5⟩
    have room : L2H.RoomH 2 (X.suite a ((a, oe) :: pn)).A := ⟨by
      have := hr.dp
      show X.A.depth + 3 * 2 + 5 < _
      omega, by
      have := hr.un
      show X.A.units + 16 * 2 + 200 < _
      omega⟩
    refine wpAny_call (codeAny_mono (run _ _ s1 H1 a oe j Q room pinOk hz hf I1.env0 kn q) fun rr s' hq => ?_)
    match rr, hq with
    | .ok (.ret u), hq => exact I1.after hq
    | .ok .next, hq => exact hq.elim
    | .ok .brk, hq => exact hq.elim
    | .ok .cont, hq => exact hq.elim
    | .error e, hq => exact (show False from hq).elim⟩
end Sx


set_option Elab.async false
set_option linter.all false
set_option maxRecDepth 100000
set_option maxHeartbeats 4000000
/-! law 5: asked and told -/
namespace Sx
open PySem PySem.Spec PyProof.Rows L2 Evl Mth
variable {K : PySem.W.Frag} {w : World}
/-- the asker at f, asked of v at the door d, refuses by the j-th kind -/
def Ask (K : PySem.W.Frag) (H : Hp) (f : Addr) (d : Nat) (v : V) (j : Nat) : Prop :=
  (f = He.ga K "_law_with_set" ∧ j = 0 ∧ BadS K H v) ∨ (f = He.ga K "_law_with_size" ∧ j = 1 ∧ ((d = 0 ∧ BadZ K H v 0 20) ∨ (d = 1 ∧ BadZ K H v 1 20) ∨ (d = 2 ∧ BadZ K H v 1 19))) ∨
  (f = He.ga K "_law_with_number" ∧ j = 2 ∧ IC K H v false) ∨ (f = He.ga K "_law_with_row" ∧ j = 3 ∧ ((d ≤ 2 ∧ BadL K H v) ∨ (d = 2 ∧ NoNext K H v))) ∨
  (f = He.ga K "_law_next" ∧ j = 3 ∧ BadB K H v) ∨ (f = He.ga K "_law_of_none" ∧ j = 2 ∧ d = 0 ∧ (IC K H v false ∨ ∃ n : Nat, v = vi n ∧ 0 < n))
theorem Ask.ex {H H' : Hp} {f : Addr} {d : Nat} {v : V} {j : Nat} (h : Ask K H f d v j) (e : Ex H H') : Ask K H' f d v j := by
  rcases h with ⟨h1, h2, h3⟩ | ⟨h1, h2, h3⟩ | ⟨h1, h2, h3⟩ | ⟨h1, h2, h3⟩ | ⟨h1, h2, h3⟩ | ⟨h1, h2, h4, h3⟩
  · exact .inl ⟨h1, h2, h3.ex e⟩
  · exact .inr (.inl ⟨h1, h2, h3.imp (fun h => ⟨h.1, h.2.ex e⟩) fun h => h.imp (fun h => ⟨h.1, h.2.ex e⟩) fun h => ⟨h.1, h.2.ex e⟩⟩)
  · exact .inr (.inr (.inl ⟨h1, h2, h3.ex e⟩))
  · exact .inr (.inr (.inr (.inl ⟨h1, h2, h3.imp (fun h => ⟨h.1, h.2.ex e⟩) fun h => ⟨h.1, h.2.ex e⟩⟩)))
  · exact .inr (.inr (.inr (.inr (.inl ⟨h1, h2, h3.ex e⟩))))
  · exact .inr (.inr (.inr (.inr (.inr ⟨h1, h2, h4, h3.imp (fun h => h.ex e) id⟩))))
abbrev tAL (K : PySem.W.Frag) (W : WX) (x : Str) (sp : Sp) : TE := tCallLS 0 (He.ga K x) sp (WE W) (tCons (tVar 1) (tCons (tVar 2) tNil))
def tAsk (K : PySem.W.Frag) (W : WX) : TE := tEither (tAL K W "_law_with_set" (sp_X__law_with_set K)) (tEither (tAL K W "_law_with_size" (sp_X__law_with_size K)) (tEither (tAL K W "_law_with_number" (sp_X__law_with_number K))
  (tEither (tAL K W "_law_with_row" (sp_X__law_with_row K)) (tEither (tAL K W "_law_next" (sp_X__law_next K)) (tAL K W "_law_of_none" (sp_X__law_of_none K))))))
def ts_told (K : PySem.W.Frag) : Addr → Value → Option Addr → TS := fun a cls d => tRet (tKinds K 3 a cls d)
/-- _law_told: 0 _law_ask, 1 _law_door, 2 _law_thing, 3 _law_error -/
def t__law_told (K : PySem.W.Frag) (w : World) : TS := tSeq (fun D σ H => tDrop (tAsk K (wAs K (.ref (He.ga K "SetsError")) 3 (ts_told K) (fun _ _ _ _ => False) D)) D σ H) (tRet (tLst tNil))
def sp__law_told (K : PySem.W.Frag) : Sp := fun vs H Q _ => ∃ (f : Addr) (d : Nat) (v : V) (j : Nat), vs = [.ref f, vi d, v] ∧ Ask K H f d v j ∧ (∀ i, i < 4 → Knd K i) ∧ RetL (kindsV j) H Q
theorem len__law_told {vs : List V} {H : Hp} {Q : VK} {E : XK} (h : sp__law_told K vs H Q E) : vs.length = 3 := by obtain ⟨f, d, v, j, rfl, _⟩ := h; rfl
theorem pure__law_told {vs : List V} {H : Hp} {Q : VK} {E : XK} (h : sp__law_told K vs H Q E) : t__law_told K w { nx := fun _ H' => Q .non H', rt := Q } (start ["_law_ask", "_law_door", "_law_thing", "_law_error"] vs) H := by
  obtain ⟨f, d, v, j, rfl, h, kn, q⟩ := h
  show t__law_told K w _ [some (.ref f), some (vi d), some v, none] H
  obtain ⟨W, hW⟩ : ∃ W, W = wAs K (.ref (He.ga K "SetsError")) 3 (ts_told K) (fun _ _ _ _ => False) { nx := tRet (tLst tNil) { nx := fun _ H' => Q .non H', rt := Q }, rt := Q } := ⟨_, rfl⟩
  have hRs : ∀ i, i < 4 → RetL (kindsV i) H Q → ∀ H2, Ex H H2 → ∀ H', Ex H2 H' → W (.ref (bA K i)) none [some (.ref f), some (vi d), some v, none] H' := fun i hi qi H2 e2 H' e' => by
    rw [hW]
    exact ⟨true, (kn i hi).se, fun _ a na => ⟨rfl, i, rfl, rfl, kn i hi, fun p H3 np e3 hp => qi p H3 (fresh_back (e2.trans e') np) ((e2.trans e').trans e3) hp⟩, fun z => by cases z⟩
  show tAsk K (wAs K (.ref (He.ga K "SetsError")) 3 (ts_told K) (fun _ _ _ _ => False) _) _ H _
  rw [← hW]
  have args : ∀ {R : List V → Hp → Prop}, (∀ H2, Ex H H2 → R [vi d, v] H2) → (tCons (tVar 1) (tCons (tVar 2) tNil)) [some (.ref f), some (vi d), some v, none] H R := fun {R} k => (ea_cons (ev_var rfl) (ea_cons (ev_var rfl) ea_nil)) H (Ex.refl _) R k
  rcases h with ⟨rfl, rfl, h⟩ | ⟨rfl, rfl, h⟩ | ⟨rfl, rfl, h⟩ | ⟨rfl, rfl, h⟩ | ⟨rfl, rfl, h⟩ | ⟨rfl, rfl, rfl, h⟩
  · exact .inl ⟨rfl, args fun H2 e2 => ⟨d, v, rfl, h.ex e2, hRs 0 (by decide) q H2 e2⟩⟩
  · exact .inr (.inl ⟨rfl, args fun H2 e2 => ⟨d, v, rfl, h.imp (fun h => ⟨h.1, h.2.ex e2⟩) fun h => h.imp (fun h => ⟨h.1, h.2.ex e2⟩) fun h => ⟨h.1, h.2.ex e2⟩, hRs 1 (by decide) q H2 e2⟩⟩)
  · exact .inr (.inr (.inl ⟨rfl, args fun H2 e2 => ⟨d, v, rfl, h.ex e2, hRs 2 (by decide) q H2 e2⟩⟩))
  · exact .inr (.inr (.inr (.inl ⟨rfl, args fun H2 e2 => ⟨d, v, rfl, h.imp (fun h => ⟨h.1, h.2.ex e2⟩) fun h => ⟨h.1, h.2.ex e2⟩, hRs 3 (by decide) q H2 e2⟩⟩)))
  · exact .inr (.inr (.inr (.inr (.inl ⟨rfl, args fun H2 e2 => ⟨d, v, rfl, h.ex e2, hRs 3 (by decide) q H2 e2⟩⟩))))
  · exact .inr (.inr (.inr (.inr (.inr ⟨rfl, args fun H2 e2 => ⟨v, rfl, h.imp (fun h => h.ex e2) id, hRs 2 (by decide) q H2 e2⟩⟩))))
/-! ### all of these -/
def kindsD (j : Nat) : PyData := .list ((kindsB j).map .bool)
theorem dpBools {H : Hp} : ∀ bs : List Bool, DpAll K H (bs.map V.bl) (bs.map PyData.bool)
  | [] => .nil
  | b :: r => .cons (.bl b) (dpBools r)
theorem sh_kinds (j : Nat) : SeqAt.shaped (kindsD j) = true := by
  unfold kindsD kindsB
  cases decide (j = 0) <;> cases decide (j = 1) <;> cases decide (j = 2) <;> cases decide (j = 3) <;> decide
theorem eqv_kinds (j : Nat) : PyData.eqv (kindsD j) (kindsD j) = true := by
  unfold kindsD kindsB
  cases decide (j = 0) <;> cases decide (j = 1) <;> cases decide (j = 2) <;> cases decide (j = 3) <;> decide
def sp__law_all (K : PySem.W.Frag) : Sp := fun vs H Q _ => ∃ (f dp tp up : Addr) (ds : List Nat) (xs : List V) (j : Nat), vs = [.ref f, .ref dp, .ref tp, .ref up] ∧ SqL K H dp (ds.map vi) ∧ SqL K H tp xs ∧ SqL K H up (kindsV j) ∧ xs.length ≤ 1000 ∧
  (∀ d ∈ ds, ∀ x ∈ xs, Ask K H f d x j) ∧ (∀ i, i < 4 → Knd K i) ∧ RetV (.bl true) H Q
theorem len__law_all {vs : List V} {H : Hp} {Q : VK} {E : XK} (h : sp__law_all K vs H Q E) : vs.length = 4 := by obtain ⟨f, dp, tp, up, ds, xs, j, rfl, _⟩ := h; rfl
/-- _law_all: 0 _law_ask, 1 _law_doors, 2 _law_things, 3 _law_due, 4 _law_door, 5 _law_thing -/
def t__law_all (K : PySem.W.Frag) (w : World) : TS := tSeq (tFor (iList K (tVar 1)) (gName 4) (tIfS (tNot (tB (tCB (rAll K) (tCons (tLc (iList K (tVar 2)) (gName 5) tYes (tOp (rEqD K) (tCall (sp__law_told K) [] E0 (tCons (tVar 0) (tCons (tVar 4) (tCons (tVar 5) tNil)))) (tVar 3)) [5]) tNil)))) (tRet (tC (.bl false))) tNext)) (tRet (tC (.bl true)))
theorem pure__law_all {vs : List V} {H : Hp} {Q : VK} {E : XK} (h : sp__law_all K vs H Q E) : t__law_all K w { nx := fun _ H' => Q .non H', rt := Q } (start ["_law_ask", "_law_doors", "_law_things", "_law_due", "_law_door", "_law_thing"] vs) H := by
  obtain ⟨f, dp, tp, up, ds, xs, j, rfl, hd, ht, hu, hx, ha, kn, q⟩ := h
  show t__law_all K w _ [some (.ref f), some (.ref dp), some (.ref tp), some (.ref up), none, none] H
  refine q_forLP (R := fun _ v H2 => v = .ref dp ∧ SqL K H2 dp (ds.map vi)) (ep_v (ev_var rfl) fun Ha Hb ea eb => ⟨rfl, ex_l (ea.trans eb) hd⟩) fun v H1 e1 r => ?_
  obtain ⟨rfl, hd1⟩ := r
  refine ⟨dp, _, rfl, hd1, fun i σ H' => Ex H1 H' ∧ ∃ x4 x5 : Option V, σ = [some (.ref f), some (.ref dp), some (.ref tp), some (.ref up), x4, x5], ⟨Ex.refl _, _, _, rfl⟩, fun i σ H' r => ex_l r.1 hd1, fun i x σ H' hxi r => ?_, fun σ H' r => ?_⟩
  · obtain ⟨e2, x4, x5, rfl⟩ := r
    obtain ⟨d, hdi, rfl⟩ := vi_at hxi
    have hdm := List.mem_of_getElem? hdi
    have e02 := e1.trans e2
    have hl := el_lcL1 (σ := [some (.ref f), some (.ref dp), some (.ref tp), some (.ref up), some (vi d), x5]) (H := H') (te := tOp (rEqD K) (tCall (sp__law_told K) [] E0 (tCons (tVar 0) (tCons (tVar 4) (tCons (tVar 5) tNil)))) (tVar 3)) (vs := [5]) (j := 5) (fun _ => V.bl true)
      (ei_list (K := K) (es_v (te := tVar 2) (ev_var rfl) (ex_l e02 ht))) (by omega) (fun _ => rfl) fun k z H3 hz e3 => by
        have hzm := List.mem_of_getElem? hz
        have e03 := e02.trans e3
        refine ev_is (ev_eqD (d := kindsD j) (e := kindsD j) (ep_L (el_call (vs := [.ref f, vi d, z]) (ea_cons (ev_var rfl) (ea_cons (ev_var rfl) (ea_cons (ev_var rfl) ea_nil))) fun H4 e4 Q q E => ⟨f, d, z, j, rfl, (ha d hdm z hzm).ex (e03.trans e4), kn, q⟩) fun l Ha Hb _ _ _ hl => .lst (sq_of hl) (dpBools _)) (ed_v (ev_var rfl) (.lst (ex_l e03 hu) (dpBools _))) (sh_kinds j) (sh_kinds j)) (by rw [eqv_kinds])
    rw [map_bl] at hl
    exact s_when (b := false) (et_is (et_not (et_B (ev_all (es_L hl)))) (by rw [all_true]; rfl)) (fun hb => by cases hb) fun _ H3 e3 => ⟨e2.trans e3, _, _, rfl⟩
  · obtain ⟨e2, x4, x5, rfl⟩ := r
    exact s_ret ev_c fun H3 e3 => q H3 (e1.trans (e2.trans e3))
end Sx


set_option Elab.async false
set_option linter.all false
set_option maxRecDepth 100000
set_option maxHeartbeats 4000000
/-! lists of bad things -/
namespace Sx
open PySem PySem.Spec PyProof.Rows L2 Evl Mth
variable {K : PySem.W.Frag} {w : World}
def Mono (P : Hp → V → Prop) : Prop := ∀ H H' v, Ex H H' → P H v → P H' v
def EvG (P : Hp → V → Prop) (ta : TA) (σ : L2.St) (H : Hp) (n : Nat) : Prop := ∀ H1, Ex H H1 → ∀ Q : List V → Hp → Prop, (∀ vs H2, Ex H1 H2 → vs.length = n → (∀ x ∈ vs, P H2 x) → Q vs H2) → ta σ H1 Q
/-- a new list at p, its elements' heap ahead of it -/
def NewG (P : Hp → V → Prop) (n : Nat) (v : V) (H1 H2 : Hp) : Prop := ∃ p xs Hm, v = .ref p ∧ Ex H1 Hm ∧ Hm p = none ∧ Ex Hm H2 ∧ H2 p = some (.lst xs) ∧ xs.length = n ∧ ∀ x ∈ xs, P Hm x
section
variable {P : Hp → V → Prop} {σ : L2.St} {H : Hp} {ta tb te : TE} {tr : TA} {n : Nat}
theorem eg_nil : EvG P tNil σ H 0 := fun H1 _ Q q => q [] H1 (Ex.refl _) rfl fun x h => by cases h
theorem eg_cons (mo : Mono P) (h : EvP te σ H fun _ v H2 => P H2 v) (hr : EvG P tr σ H n) : EvG P (tCons te tr) σ H (n + 1) := fun H1 e Q q =>
  h H1 e _ fun v H2 e2 hp => hr H2 (e.trans e2) _ fun vs H3 e3 hl r => q _ H3 (e2.trans e3) (congrArg Nat.succ hl) fun x hx => by
    rcases List.mem_cons.mp hx with rfl | hx
    · exact mo _ _ _ e3 hp
    · exact r x hx
theorem ep_G (h : EvG P tr σ H n) (hn : n ≤ 100000) : EvP (tLst tr) σ H fun H1 v H2 => NewG P n v H1 H2 := fun H1 e Q q =>
  h H1 e _ fun vs H2 e2 hl r => ⟨sz_of (by omega), fun p hp => q _ _ (e2.trans (Ex.new hp)) ⟨p, vs, H2, rfl, e2, hp, Ex.new hp, upd_same, hl, r⟩⟩
theorem NewG.back {v : V} {H1 H2 H0 : Hp} (e : Ex H0 H1) (h : NewG P n v H1 H2) : NewG P n v H0 H2 := by
  obtain ⟨p, xs, Hm, h1, h2, h3⟩ := h
  exact ⟨p, xs, Hm, h1, e.trans h2, h3⟩
/-- what is wanted of a list of things -/
def Thg (K : PySem.W.Frag) (P : Hp → V → Prop) (H : Hp) (v : V) : Prop := ∃ p xs, v = .ref p ∧ SqL K H p xs ∧ xs.length ≤ 1000 ∧ ∀ x ∈ xs, P H x
theorem NewG.thg (mo : Mono P) (hn : n ≤ 1000) {v : V} {H1 H2 : Hp} (h : NewG P n v H1 H2) : Thg K P H2 v := by
  obtain ⟨p, xs, Hm, rfl, _, _, e, hp, hl, hx⟩ := h
  exact ⟨p, xs, rfl, sq_of hp, by omega, fun x h => mo _ _ _ e (hx x h)⟩
theorem ep_catG (mo : Mono P) {l : Addr} {xs : List V} {m : Nat} (ha : Ev ta σ H (.ref l)) (hl : H l = some (.lst xs)) (hx : ∀ x ∈ xs, P H x) (h : EvG P tr σ H n) (hz : n ≤ 1000) (hz2 : xs.length = m) (hm : m ≤ 1000) : EvP (tOp rCat ta (tLst tr)) σ H fun H1 v H2 => NewG P (m + n) v H1 H2 := fun H1 e Q q =>
  ha H1 e _ fun H2 e2 => ep_G h (by omega) H2 (e.trans e2) _ fun v H3 e3 r => by
    obtain ⟨p, ys, Hm, rfl, em, nm, e4, hp, hly, hy⟩ := r
    refine ⟨l, p, xs, ys, rfl, rfl, ((e.trans e2).trans e3) _ _ hl, hp, sz_of (by omega), fun d hd => q _ _ ((e2.trans e3).trans (Ex.new hd)) ⟨d, xs ++ ys, H3, rfl, e2.trans e3, hd, Ex.new hd, upd_same, by rw [List.length_append]; omega, fun x hx2 => ?_⟩⟩
    rcases List.mem_append.mp hx2 with h | h
    · exact mo _ _ _ (e.trans (e2.trans e3)) (hx x h)
    · exact mo _ _ _ e4 (hy x h)
end
theorem rep_flat (x : V) : ∀ k : Nat, (List.replicate k [x]).flatten = List.replicate k x
  | 0 => rfl
  | k + 1 => by rw [List.replicate_succ, List.flatten_cons, rep_flat x k, List.replicate_succ]; rfl
/-! ### things -/
theorem ty_str {H : Hp} {s : Str} : TyS K H (.str s) (.type "str") := fun _ _ => .base (.str s)
theorem ty_tup {H : Hp} {p : Addr} {xs : List V} (h : H p = some (.tup xs)) : TyS K H (.ref p) (.type "tuple") := fun _ e => .base (.tup (e _ _ h))
theorem ty_dK {H : Hp} {p : Addr} {kvs : List (Key × V)} (h : H p = some (.dK kvs)) : TyS K H (.ref p) (.type "dict") := fun _ e => .base (.dK (e _ _ h))
/-- a thing of this type -/
def OfT (K : PySem.W.Frag) (T : String) (H : Hp) (v : V) : Prop := TyS K H v (.type T)
def Strange (K : PySem.W.Frag) (H : Hp) (v : V) : Prop := ∃ T, TyS K H v (.type T) ∧ isW T = some false
theorem mo_strange : Mono (Strange K) := fun H H' v e ⟨T, h1, h2⟩ => ⟨T, h1.mono e, h2⟩
theorem mo_badL : Mono (BadL K) := fun H H' v e h => h.ex e
theorem mo_badS : Mono (BadS K) := fun H H' v e h => h.ex e
theorem mo_badB : Mono (BadB K) := fun H H' v e h => h.ex e
theorem mo_noNext : Mono (NoNext K) := fun H H' v e h => h.ex e
theorem mo_IC {b : Bool} : Mono fun H v => IC K H v b := fun H H' v e h => h.ex e
section
variable {σ : L2.St} {H : Hp} {ta tb te : TE} {tr : TA}
theorem ot_v {v : V} {T : String} (h : Ev te σ H v) (ty : ∀ H, TyS K H v (.type T)) : EvP te σ H fun _ v H2 => OfT K T H2 v := ep_v h fun _ H2 _ _ => ty H2
theorem ot_tup {xs : List V} (h : EvU te σ H xs) : EvP te σ H fun _ v H2 => OfT K "tuple" H2 v := ep_U h fun _ _ _ _ _ _ hp => ty_tup hp
theorem ot_lst {xs : List V} (h : EvL te σ H xs) : EvP te σ H fun _ v H2 => OfT K "list" H2 v := ep_L h fun _ _ _ _ _ _ hp => ty_lst (sq_of hp)
theorem ot_dict : EvP tDNewK σ H fun _ v H2 => OfT K "dict" H2 v := fun H1 e Q q p hp => q _ _ (Ex.new hp) (ty_dK upd_same)
theorem st_of_T {T : String} (hw : isW T = some false) (h : EvP te σ H fun _ v H2 => OfT K T H2 v) : EvP te σ H fun _ v H2 => Strange K H2 v := h.imp fun _ _ _ _ _ r => ⟨T, r, hw⟩
theorem bl_of_T {T : String} (hk : kitB T "list" = some false) (h : EvP te σ H fun _ v H2 => OfT K T H2 v) : EvP te σ H fun _ v H2 => BadL K H2 v := h.imp fun _ _ _ _ _ r => .inl ⟨T, r, hk⟩
theorem bs_of (h : EvP te σ H fun _ v H2 => BadL K H2 v) : EvP te σ H fun _ v H2 => BadS K H2 v := h.imp fun _ _ _ _ _ r => .inl r
/-- a list with something that is no count -/
theorem bl_list {xs : List V} (bs : Nat → Bool) (h : EvL te σ H xs) (hl : xs.length ≤ 20) (hi : ∀ H' (i : Nat) (x : V), xs[i]? = some x → IC K H' x (bs i)) (i : Nat) (hlt : i < xs.length) (hb : bs i = false) : EvP te σ H fun _ v H2 => BadL K H2 v :=
  ep_L h fun p _ H2 _ _ _ hp => .inr ⟨p, xs, rfl, sq_of hp, .inr ⟨bs, hl, fun j x hx => hi H2 j x hx, i, hlt, hb⟩⟩
theorem bl_long {xs : List V} (h : EvL te σ H xs) (hl : 20 < xs.length) : EvP te σ H fun _ v H2 => BadL K H2 v := ep_L h fun p _ H2 _ _ _ hp => .inr ⟨p, xs, rfl, sq_of hp, .inl hl⟩
/-- a list of counts, then a thing that is none -/
theorem bl_lastP {ns : List Nat} (hl : ns.length ≤ 19) (h : EvP (tLst tr) σ H fun _ v H2 => ∃ p u, v = .ref p ∧ H2 p = some (.lst (ns.map vi ++ [u])) ∧ IC K H2 u false) : EvP (tLst tr) σ H fun _ v H2 => BadL K H2 v := h.imp fun _ v H2 _ _ r => by
  obtain ⟨p, u, rfl, hp, hu⟩ := r
  refine .inr ⟨p, _, rfl, sq_of hp, .inr ⟨fun i => decide (i < ns.length), by rw [List.length_append, List.length_map]; show ns.length + 1 ≤ 20; omega, fun i x hx => ?_, ns.length, by rw [List.length_append, List.length_map]; show ns.length < ns.length + 1; omega, decide_eq_false (by omega)⟩⟩
  by_cases hi : i < ns.length
  · rw [List.getElem?_append_left (by rw [List.length_map]; exact hi)] at hx
    obtain ⟨m, _, rfl⟩ := vi_at hx
    exact .inl ⟨m, rfl, by show decide (i < ns.length) = _; rw [decide_eq_true hi, decide_eq_true (by omega)]⟩
  · rw [List.getElem?_append_right (by rw [List.length_map]; omega), List.length_map] at hx
    have : i - ns.length = 0 := by
      have := (List.getElem?_eq_some_iff.mp hx).1
      have h1 : [u].length = 1 := rfl
      omega
    rw [this] at hx
    cases hx
    show IC K H2 u (decide (i < ns.length))
    rw [decide_eq_false hi]
    exact hu
/-- [x] of a thing x that is made there -/
theorem ep_one {R : Hp → V → Prop} (mo : Mono R) (h : EvP te σ H fun _ v H2 => R H2 v) : EvP (tLst (tCons te tNil)) σ H fun _ v H2 => ∃ p u, v = .ref p ∧ H2 p = some (.lst [u]) ∧ R H2 u := fun H1 e Q q =>
  h H1 e _ fun u H2 e2 r => ⟨sz_of (by show 1 ≤ 100000; decide), fun p hp => q _ _ (e2.trans (Ex.new hp)) ⟨p, u, rfl, upd_same, mo _ _ _ (Ex.new hp) r⟩⟩
theorem ep_two {R : Hp → V → Prop} {a : V} (mo : Mono R) (ha : Ev ta σ H a) (h : EvP te σ H fun _ v H2 => R H2 v) : EvP (tLst (tCons ta (tCons te tNil))) σ H fun _ v H2 => ∃ p u, v = .ref p ∧ H2 p = some (.lst [a, u]) ∧ R H2 u := fun H1 e Q q =>
  ha H1 e _ fun H2 e2 => h H2 (e.trans e2) _ fun u H3 e3 r => ⟨sz_of (by show 2 ≤ 100000; decide), fun p hp => q _ _ ((e2.trans e3).trans (Ex.new hp)) ⟨p, u, rfl, upd_same, mo _ _ _ (Ex.new hp) r⟩⟩
theorem ic_T {T : String} (hw : isW T = some false) (h : EvP te σ H fun _ v H2 => OfT K T H2 v) : EvP te σ H fun _ v H2 => IC K H2 v false := h.imp fun _ _ _ _ _ r => .inr ⟨T, r, hw, rfl⟩
/-- a list that doesn't fall -/
theorem bs_fall {ns : List Nat} (h : EvL te σ H (ns.map vi)) (hl : ns.length ≤ 20) (i a b : Nat) (ha : ns[i]? = some a) (hb : ns[i + 1]? = some b) (hab : a ≤ b) : EvP te σ H fun _ v H2 => BadS K H2 v :=
  ep_L h fun p _ H2 _ _ _ hp => .inr ⟨p, ns, rfl, sq_of hp, hl, i, a, b, ha, hb, hab⟩
theorem bb_list {ns : List Nat} (h : EvL te σ H (ns.map vi)) (hl : ns.length ≤ 20) (hs : ∀ n ∈ ns, Sm 200000 n) (hb : bar ns ≠ none) : EvP te σ H fun _ v H2 => BadB K H2 v := ep_L h fun p _ H2 _ _ _ hp => ⟨p, ns, rfl, sq_of hp, hl, hs, hb⟩
theorem nn_list {ns : List Nat} (h : EvL te σ H (ns.map vi)) (hl : ns.length = 0 ∨ ns.length = 20) (hs : ∀ n ∈ ns, Sm 200000 n) (hb : bar ns = none) : EvP te σ H fun _ v H2 => NoNext K H2 v := ep_L h fun p _ H2 _ _ _ hp => ⟨p, ns, rfl, sq_of hp, hl, hs, hb⟩
theorem el_rep {x : V} {k : Nat} (h : EvL ta σ H [x]) (hk : Ev tb σ H (.int k)) (hl : k ≤ 1000) : EvL (tOp rRep ta tb) σ H (List.replicate k x) := fun H1 e Q q =>
  h H1 e _ fun p H2 np e2 hp => hk H2 (e.trans e2) _ fun H3 e3 => ⟨p, k, [x], rfl, rfl, e3 _ _ hp, by omega, by omega, sz_of (by show 1 * ((k : Int)).toNat ≤ 100000; omega), fun d hd => q d _ (fresh_back (e2.trans e3) hd) ((e2.trans e3).trans (Ex.new hd)) (by
    rw [upd_same]
    congr 2
    show (List.replicate ((k : Int)).toNat [x]).flatten = _
    rw [Int.toNat_natCast]
    exact rep_flat x k)⟩
theorem ev_chEE {i j k : Int} {tc : TE} (ha : Ev ta σ H (.int i)) (hb : Ev tb σ H (.int j)) (hc : Ev tc σ H (.int k)) (h1 : i = j) (h2 : j = k) : Ev (tChain rEq rEq ta tb tc) σ H (.bl true):= by
  subst h1 h2
  have g : RV rEq (.int i) (.int i) H (.bl true) := by
    have g := rv_eq (x := .int i) (y := .int i) (H := H) rfl
    rw [decide_eq_true rfl] at g
    exact g
  exact ev_chain (b := true) ha hb g (fun _ => hc) (fun _ => g) fun z => by cases z
theorem ev_callLL {sp : Sp} {E : XK} {xs ys : List V} {z : V} (ha : EvL ta σ H xs) (h : EvL te σ H ys) (hs : ∀ p q H1, H1 p = some (.lst xs) → H1 q = some (.lst ys) → SpV sp [.ref p, .ref q] H1 z) : Ev (tCall sp [] E (tCons ta (tCons te tNil))) σ H z := fun H1 e Q q =>
  ha H1 e _ fun p H2 _ e2 hp => h H2 (e.trans e2) _ fun l H3 _ e3 hl => hs p l H3 (e3 _ _ hp) hl H3 (Ex.refl _) Q (fun H4 e4 => q H4 (e2.trans (e3.trans e4))) E
/-- all of a list of things are refused so -/
theorem ev_all5 {P : Hp → V → Prop} {f u : Addr} {ds : List Nat} {j : Nat} {td tu : TE} (mo : Mono P) (kn : ∀ i, i < 4 → Knd K i) (hd : EvL td σ H (ds.map vi)) (ht : EvP te σ H fun _ v H2 => Thg K P H2 v) (hu : Ev tu σ H (.ref u)) (hk : SqL K H u (kindsV j)) (hA : ∀ H' x, P H' x → ∀ d ∈ ds, Ask K H' f d x j) :
    Ev (tCall (sp__law_all K) [] E0 (tCons (tC (.ref f)) (tCons td (tCons te (tCons tu tNil))))) σ H (.bl true) := fun H1 e Q q =>
  hd H1 e _ fun dp H2 _ e2 hdp => ht H2 (e.trans e2) _ fun v H3 e3 r => by
    obtain ⟨tp, xs, rfl, htp, hl, hx⟩ := r
    exact hu H3 ((e.trans e2).trans e3) _ fun H4 e4 => ⟨f, dp, tp, u, ds, xs, j, rfl, ex_l (e3.trans e4) (sq_of hdp), ex_l e4 htp, ex_l (e.trans (e2.trans (e3.trans e4))) hk, hl, fun d hdm x hxm => hA H4 x (mo _ _ _ e4 (hx x hxm)) d hdm, kn, fun H5 e5 => q H5 (e2.trans (e3.trans (e4.trans e5)))⟩
end
theorem ic_neg {H : Hp} {n : Int} (h : n < 0) : IC K H (.int n) false := .inl ⟨n, rfl, by rw [decide_eq_false (by omega)]⟩
theorem ic_nat {H : Hp} {n : Nat} : IC K H (vi n) true := .inl ⟨n, rfl, by rw [decide_eq_true (by omega)]⟩
theorem ic_bl {H : Hp} {b : Bool} : IC K H (.bl b) false := .inr ⟨"bool", ty_bl, by decide +kernel, rfl⟩
theorem ic_non {H : Hp} : IC K H .non false := .inr ⟨"NoneType", ty_non, by decide +kernel, rfl⟩
theorem ic_str {H : Hp} {s : Str} : IC K H (.str s) false := .inr ⟨"str", ty_str, by decide +kernel, rfl⟩
theorem bar_first {a b : Nat} {r : List Nat} (h : ovr 1 a < b) : bar (a :: b :: r) ≠ none := by
  unfold bar barF
  rw [if_pos h]
  intro z
  cases z
end Sx
namespace Sx
open PySem PySem.Spec PyProof.Rows L2 Evl Mth
section
variable {X : Cx} {W : WX} {k i : Nat} {ps : List Str} {sp : Sp} {x y : Str} {p pos : Pos} {e : Expr} {es : List Expr} {t : TA}
/-- a local that holds a def of the module, in a try -/
theorem pe_askL (D : DefOk X.prog X.w X.K X.mg X.base (L2.CX X.prog X.w) k x ps sp) (g : X.mg x = some (.ref (He.ga X.K x))) (hr : Room k X.A) (tk : Takes X W) (hN : X.N[i]? = some y) (hv : Vis X.env.scope y) (ha : L2.PA X (e :: es) t)
    (hdb : (y == ("__debug__" : Str)) = false := by decide) (hcd : (y == ("__classdict__" : Str)) = false := by decide)
    (he : starEach (e :: es) X.env = (false, eval e X.env) :: starEach es X.env := by rfl) (hpl : (backTo pos (starEach es X.env)).any (·.1) = false := by rfl) : PE X (.Call (.Name y p) (e :: es) [] pos) (tCallLS i (He.ga X.K x) sp (WE W) t) := by
  obtain ⟨f, fd, g2, kp, b, o⟩ := D.ex
  have ef : f = He.ga X.K x := Value.ref.inj (Option.some.inj (g2.symm.trans g))
  subst ef
  exact pe_callLS o hr hN hv kp b (fun σ => passAt tk σ) ha hdb hcd he hpl
end
end Sx

set_option Elab.async false
set_option linter.all false
set_option maxRecDepth 100000
set_option maxHeartbeats 4000000
/-! sets of a family -/
namespace Sx
open PySem PySem.Spec PyProof.Rows L2 Evl Mth
variable {K : PySem.W.Frag} {w : World}
section
variable {σ : L2.St} {H : Hp} {ta tb te : TE}
theorem ev_callVL {sp : Sp} {E : XK} {xs : List V} {v z : V} (ha : Ev ta σ H v) (h : EvL te σ H xs) (hs : ∀ p H1, Ex H H1 → H1 p = some (.lst xs) → SpV sp [v, .ref p] H1 z) : Ev (tCall sp [] E (tCons ta (tCons te tNil))) σ H z := fun H1 e Q q =>
  ha H1 e _ fun H2 e2 => h H2 (e.trans e2) _ fun p H3 _ e3 hp => hs p H3 ((e.trans e2).trans e3) hp H3 (Ex.refl _) Q (fun H4 e4 => q H4 (e2.trans (e3.trans e4))) E
theorem s_forTP {g : TG} {tu : TS} {D : Ends} {R : Hp → V → Hp → Prop} (h : EvP te σ H R)
    (k : ∀ v H1, Ex H H1 → R H v H1 → ∃ p xs, v = .ref p ∧ SqT K H1 p xs ∧ ∃ I : Nat → L2.St → Hp → Prop, I 0 σ H1 ∧ (∀ i σ' H', I i σ' H' → SqT K H' p xs) ∧
      (∀ i x σ' H', xs[i]? = some x → I i σ' H' → g x σ' H' fun σ2 H4 => tu { D with nx := I (i + 1), ct := I (i + 1), bk := D.nx } σ2 H4) ∧ ∀ σ' H', I xs.length σ' H' → D.nx σ' H') : tFor (iTup K te) g tu D σ H :=
  h H (Ex.refl H) _ fun v H1 e r => by
    obtain ⟨p, xs, rfl, hp, I, h0, hl, hs, hd⟩ := k v H1 e r
    exact ⟨p, rfl, ⟨xs, hp⟩, for_tup (D := D) I h0 (fun i σ' H' _ z => hl i σ' H' z) hs hd⟩
end
theorem sm_bt {b n : Nat} (h : Sm b n) : Bt b (n : Int) := h
/-- n, n - 1, .., 0 -/
def down : Nat → List Nat
  | 0 => [0]
  | n + 1 => (n + 1) :: down n
theorem down_falls : ∀ n, Falls (down n)
  | 0 => trivial
  | 1 => ⟨by omega, trivial⟩
  | n + 2 => ⟨by omega, down_falls (n + 1)⟩
theorem down_len : ∀ n, (down n).length = n + 1
  | 0 => rfl
  | n + 1 => congrArg Nat.succ (down_len n)
theorem down_le : ∀ (n m : Nat), m ∈ down n → m ≤ n
  | 0, m, h => by
    have : m = 0 := by simpa [down] using h
    omega
  | n + 1, m, h => by
    rcases List.mem_cons.mp h with rfl | h
    · exact Nat.le_refl _
    · have := down_le n m h
      omega
theorem down_rg : ∀ n : Nat, rgC (n : Int) (-1) (n + 1) = (down n).map vi
  | 0 => rfl
  | n + 1 => by
    have ih := down_rg n
    unfold rgC at ih ⊢
    rw [List.range_succ_eq_map, List.map_cons, List.map_map, down, List.map_cons, ← ih]
    congr 1
    · refine List.map_congr_left fun k _ => ?_
      show V.int _ = V.int _
      congr 1
      show ((n + 1 : Nat) : Int) + ((k + 1 : Nat) : Int) * -1 = (n : Int) + (k : Int) * -1
      omega
theorem rgV_from1 (n : Nat) : rgV 1 ((n : Int) + 1) = ((List.range n).map (· + 1)).map vi := by
  unfold rgV
  rw [show ((n : Int) + 1 - 1).toNat = n by omega, List.map_map]
  refine List.map_congr_left fun k _ => ?_
  show V.int _ = V.int _
  congr 1
  show (1 : Int) + ((k : Nat) : Int) = ((k + 1 : Nat) : Int)
  omega
theorem inF_yes {ns so : List Nat} {s x : Nat} (hl : so.length = s) (hsl : s ≤ ns.length) (h1 : 1 ≤ s) (hx : ns[s - 1]? = some x) (hr : rank so < x) : inF ns so = true := by
  unfold inF
  have hxd : ns.getD (s - 1) 0 = x := by rw [List.getD_eq_getElem?_getD, hx]; rfl
  rw [hl, hxd, decide_eq_true hsl, decide_eq_true hr]
  cases decide (s = 0) <;> rfl
theorem inF_no {ns so : List Nat} {s x : Nat} (hl : so.length = s) (h1 : 1 ≤ s) (hx : ns[s - 1]? = some x) (hr : x ≤ rank so) : inF ns so = false := by
  unfold inF
  have hxd : ns.getD (s - 1) 0 = x := by rw [List.getD_eq_getElem?_getD, hx]; rfl
  rw [hl, hxd, decide_eq_false (show ¬ s = 0 by omega), decide_eq_false (show ¬ rank so < x by omega)]
  cases decide (s ≤ ns.length) <;> rfl
theorem inF_long {ns so : List Nat} (hl : ns.length < so.length) : inF ns so = false := by
  unfold inF
  rw [decide_eq_false (show ¬ so.length = 0 by omega), decide_eq_false (show ¬ so.length ≤ ns.length by omega)]
  rfl
theorem inF_nil (ns : List Nat) : inF ns [] = true := rfl
theorem inF_erase {ns l : List Nat} {s x j : Nat} (hb : bar ns = none) (hf : Falls l) (hl : l.length = s) (hsl : s ≤ ns.length) (h1 : 1 ≤ s) (hx : ns[s - 1]? = some x) (hr : rank l < x) (hj : j < s) : inF ns (l.eraseIdx j) = true := by
  have hel : (l.eraseIdx j).length = s - 1 := by
    rw [List.length_eraseIdx, if_pos (by omega)]
    omega
  by_cases h2 : s = 1
  · have e0 : l.eraseIdx j = [] := List.eq_nil_of_length_eq_zero (by omega)
    rw [e0]
    exact inF_nil ns
  · obtain ⟨y, hy⟩ : ∃ y, ns[s - 1 - 1]? = some y := ⟨_, List.getElem?_eq_getElem (by omega)⟩
    have hle := barF_le ns 1 hb (s - 1 - 1) y x hy (by rw [show s - 1 - 1 + 1 = s - 1 by omega]; exact hx)
    rw [show 1 + (s - 1 - 1) = s - 1 by omega] at hle
    exact inF_yes hel (by omega) (by omega) hy (within (k := s - 1) hf (by omega) (by omega) hr hle (by omega))
def sp__law_family_right (K : PySem.W.Frag) : Sp := fun vs H Q _ => ∃ (p : Addr) (ns : List Nat) (c : Nat), vs = [.ref p, vi c] ∧ SqL K H p (ns.map vi) ∧ 0 < ns.length ∧ ns.length ≤ 20 ∧ (∀ n ∈ ns, Sm 200000 n) ∧ bar ns = none ∧ Sm 140 c ∧ RetV (.bl true) H Q
theorem len__law_family_right {vs : List V} {H : Hp} {Q : VK} {E : XK} (h : sp__law_family_right K vs H Q E) : vs.length = 2 := by obtain ⟨p, ns, c, rfl, _⟩ := h; rfl
/-- _law_family_right: 0 _law_row_here, 1 _law_cell, 2 _law_sizes, 3 _law_size, 4 _law_count, 5 _law_number, 6 _law_some, 7 _law_near, 8 _law_at -/
def t__law_family_right (K : PySem.W.Frag) (w : World) : TS := tSeq (tAsg (tIf (tTest (tOp oGt (tCB (rLenS K) (tCons (tVar 0) tNil)) (tC (.int 2)))) (tLst (tCons (tOp oAdd (tC (.int 1)) (tOp oMod (tVar 1) (tCB (rLenS K) (tCons (tVar 0) tNil)))) (tCons (tCB (rLenS K) (tCons (tVar 0) tNil)) tNil))) (tLstRg (tRg2 (tC (.int 1)) (tOp oAdd (tCB (rLenS K) (tCons (tVar 0) tNil)) (tC (.int 1)))))) (gName 2)) (tSeq (tFor (iList K (tVar 2)) (gName 3) (tSeq (tAsg (tOp (rIxL K) (tVar 0) (tOp oSub (tVar 3) (tC (.int 1)))) (gName 4)) (tSeq (tIfS (tNot (tB (tCall (sp__law_says K) [] E0 (tCons (tCall (sp_has K) [] E0 (tCons (tVar 0) (tCons (tCall (sp__law_set K) [] E0 (tCons (tVar 3) (tCons (tVar 4) tNil))) tNil))) (tCons (tC (.bl false)) tNil))))) (tRet (tC (.bl false))) tNext) (tIfS (tTest (tOp oGt (tVar 4) (tC (.int 0)))) (tSeq (tAsg (tOp oMod (tOp oMul (tOp oAdd (tVar 1) (tOp oMul (tC (.int 977)) (tVar 3))) (tOp oAdd (tVar 1) (tC (.int 7)))) (tVar 4)) (gName 5)) (tFor (iTup K (tTup (tCons (tCall (sp__law_set K) [] E0 (tCons (tVar 3) (tCons (tVar 5) tNil))) (tCons (tCall (sp__law_set K) [] E0 (tCons (tVar 3) (tCons (tOp oSub (tVar 4) (tC (.int 1))) tNil))) tNil)))) (gName 6) (tSeq (tIfS (tNot (tB (tCall (sp__law_says K) [] E0 (tCons (tCall (sp_has K) [] E0 (tCons (tVar 0) (tCons (tVar 6) tNil))) (tCons (tC (.bl true)) tNil))))) (tRet (tC (.bl false))) tNext) (tSeq (tAsg (tLstRg (tRg1 (tIf (tTest (tOp oLt (tCB (rLenS K) (tCons (tVar 0) tNil)) (tC (.int 7)))) (tVar 3) (tC (.int 1))))) (gName 7)) (tIfS (tNot (tB (tCB (rAll K) (tCons (tLc (iList K (tVar 7)) (gName 8) tYes (tCall (sp__law_says K) [] E0 (tCons (tCall (sp_has K) [] E0 (tCons (tVar 0) (tCons (tOp rCat (tSl (rSlL K) (tVar 6) tNoPart (tPart (tVar 8))) (tSl (rSlL K) (tVar 6) (tPart (tOp oAdd (tVar 8) (tC (.int 1)))) tNoPart)) tNil))) (tCons (tC (.bl true)) tNil))) [8]) tNil)))) (tRet (tC (.bl false))) tNext))))) tNext)))) (tSeq (tIfS (tAnd (tTest (tOp oLt (tCB (rLenS K) (tCons (tVar 0) tNil)) (tC (.int 20)))) (tNot (tB (tCall (sp__law_says K) [] E0 (tCons (tCall (sp_has K) [] E0 (tCons (tVar 0) (tCons (tLstR3 (tCons (tCB (rLenS K) (tCons (tVar 0) tNil)) (tCons (tUn oNeg (tC (.int 1))) (tCons (tUn oNeg (tC (.int 1))) tNil)))) tNil))) (tCons (tC (.bl false)) tNil)))))) (tRet (tC (.bl false))) tNext) (tRet (tCall (sp__law_says K) [] E0 (tCons (tCall (sp_has K) [] E0 (tCons (tVar 0) (tCons (tLst tNil) tNil))) (tCons (tC (.bl true)) tNil))))))
set_option maxHeartbeats 8000000 in
theorem pure__law_family_right {vs : List V} {H : Hp} {Q : VK} {E : XK} (h : sp__law_family_right K vs H Q E) : t__law_family_right K w { nx := fun _ H' => Q .non H', rt := Q } (start ["_law_row_here", "_law_cell", "_law_sizes", "_law_size", "_law_count", "_law_number", "_law_some", "_law_near", "_law_at"] vs) H := by
  obtain ⟨p, ns, c, rfl, hp, h0, hl, hs, hb, hc, q⟩ := h
  show t__law_family_right K w _ [some (.ref p), some (vi c), none, none, none, none, none, none, none] H
  have lenS : ∀ {σ : L2.St} {H' : Hp}, σ[0]? = some (some (.ref p)) → Ex H H' → Ev (tCB (rLenS K) (tCons (tVar 0) tNil)) σ H' (vi ns.length) := fun hσ e => ev_is (ev_lenS (es_v (ev_var hσ) (ex_l e hp))) (by rw [List.length_map])
  have smN : ∀ {s n : Nat}, 1 ≤ s → s ≤ ns.length → n < ns.getD (s - 1) 0 + 1 → Sm 200001 n := fun {s n} h1 h2 h3 => by
    obtain ⟨x, hx⟩ : ∃ x, ns[s - 1]? = some x := ⟨_, List.getElem?_eq_getElem (by omega)⟩
    have e : ns.getD (s - 1) 0 = x := by rw [List.getD_eq_getElem?_getD, hx]; rfl
    have := hs x (List.mem_of_getElem? hx)
    exact (this.le (by omega)).up (by omega)
  -- the sizes
  refine q_asgP (R := fun _ v H2 => ∃ (l : Addr) (ss : List Nat), v = .ref l ∧ SqL K H2 l (ss.map vi) ∧ ∀ s ∈ ss, 1 ≤ s ∧ s ≤ ns.length) (ep_if (et_test (ev_gt (lenS rfl (Ex.refl _)) ev_c)) (fun _ _ _ _ _ r => r) (fun hb2 => ?_) fun hb2 => ?_) fun v H1 e1 r => ?_
  · refine ep_L (el_lst (vs := [1 + c % ns.length, ns.length].map vi) (ea_cons (ev_is (ev_add ev_c (ev_mod (ev_var rfl) (lenS rfl (Ex.refl _)) (by omega))) rfl) (ea_cons (lenS rfl (Ex.refl _)) ea_nil)) (by show 2 ≤ 100000; decide)) fun l Ha Hb _ _ _ hl => ⟨l, _, rfl, sq_of hl, fun s hs => ?_⟩
    have := Nat.mod_lt c h0
    rcases List.mem_cons.mp hs with rfl | hs
    · omega
    · rw [List.mem_singleton] at hs
      omega
  · refine ep_L (el_is (el_lrg2 (i := 1) (j := (ns.length : Int) + 1) ev_c (ev_add (lenS rfl (Ex.refl _)) ev_c) (by omega) (by omega)) (rgV_from1 ns.length)) fun l Ha Hb _ _ _ hl => ⟨l, _, rfl, sq_of hl, fun s hs => ?_⟩
    obtain ⟨k, hk, rfl⟩ := List.mem_map.mp hs
    have := List.mem_range.mp hk
    omega
  obtain ⟨l, ss, rfl, hss, hsb⟩ := r
  refine q_forLP (R := fun _ v H2 => v = .ref l ∧ SqL K H2 l (ss.map vi)) (ep_v (ev_var rfl) fun Ha Hb ea eb => ⟨rfl, ex_l (ea.trans eb) hss⟩) fun v H2 e2 r => ?_
  obtain ⟨rfl, hss2⟩ := r
  refine ⟨l, _, rfl, hss2, fun i σ H' => Ex H2 H' ∧ ∃ x3 x4 x5 x6 x7 : Option V, σ = [some (.ref p), some (vi c), some (.ref l), x3, x4, x5, x6, x7, none], ⟨Ex.refl _, _, _, _, _, _, rfl⟩, fun i σ H' r => ex_l r.1 hss2, fun i x σ H' hx r => ?_, fun σ H' r => ?_⟩
  · obtain ⟨eH, x3, x4, x5, x6, x7, rfl⟩ := r
    obtain ⟨s, hsx, rfl⟩ := vi_at hx
    obtain ⟨s1, s2⟩ := hsb s (List.mem_of_getElem? hsx)
    have e0H := e1.trans (e2.trans eH)
    have hpH := ex_l e0H hp
    obtain ⟨x, hx1⟩ : ∃ x, ns[s - 1]? = some x := ⟨_, List.getElem?_eq_getElem (by omega)⟩
    have hxd : ns.getD (s - 1) 0 = x := by rw [List.getD_eq_getElem?_getD, hx1]; rfl
    have sx := hs x (List.mem_of_getElem? hx1)
    have sm1 : ∀ {n : Nat}, n ≤ x → Sm 1000000 n := fun h => (sx.le h).up (by omega)
    have smU : ∀ {n m : Nat}, n ≤ x → m ∈ unrank s n → Sm 2000000 m := fun {n m} h hm => by
      obtain ⟨i, hi⟩ := List.getElem?_of_mem hm
      exact sm_unrank (by omega) (sm1 h) hi
    refine q_asg (v := vi x) (ev_ixS (i := ((s - 1 : Nat) : Int)) (es_v (ev_var rfl) hpH) (ev_is (ev_sub (ev_var rfl) ev_c) (by show V.int _ = V.int _; congr 1; omega)) (atI_nat (by rw [List.getElem?_map, hx1]; rfl))) fun H3 e3 => ?_
    have hp3 := ex_l e3 hpH
    refine q_when (b := false) (et_is (et_not (et_B (ev_call (vs := [.bl (inF ns (unrank s x)), .bl false]) (ea_cons (ev_callVL (ev_var rfl) (el_call (vs := [vi s, vi x]) (ea_cons (ev_var rfl) (ea_cons (ev_var rfl) ea_nil)) (v_told_by (by omega) (sm1 (Nat.le_refl _)))) fun l2 Ha ea hl2 => v_has (ex_l ea hp3) hl hs hb (sq_of hl2) (fun n hn => smU (Nat.le_refl _) hn) (by rw [unrank_len]; omega) (unrank_falls s x (by omega))) (ea_cons ev_c ea_nil)) v_says))) ?_) (fun hb => by cases hb) fun _ H4 e4 => ?_
    · rw [inF_no (unrank_len s x) s1 hx1 (by rw [rank_unrank s x (by omega)]; exact Nat.le_refl _)]
      rfl
    have e04 := e0H.trans (e3.trans e4)
    have hp4 := ex_l e4 hp3
    refine s_when (et_test (ev_gt (ev_var rfl) ev_c)) (fun hbx H5 e5 => ?_) fun hbx H5 e5 => ⟨eH.trans (e3.trans (e4.trans e5)), _, _, _, _, _, rfl⟩
    have hx0 : 0 < x := by
      have := of_decide_eq_true hbx
      omega
    have hp5 := ex_l e5 hp4
    obtain ⟨nb, hnb⟩ : ∃ nb, nb = (c + 977 * s) * (c + 7) % x := ⟨_, rfl⟩
    have hnbx : nb < x := by rw [hnb]; exact Nat.mod_lt _ hx0
    have b1 : Bt 141 ((977 : Int) * (s : Int)) := by
      unfold Bt
      have : ((977 : Int) * (s : Int)).natAbs ≤ 977 * 20 := by omega
      exact Nat.lt_of_le_of_lt this (by decide)
    have b2 : Bt 142 ((c : Int) + 977 * (s : Int)) := ((sm_bt hc).up (show 140 ≤ 141 by omega)).add b1
    have b3 : Bt 141 ((c : Int) + 7) := (sm_bt hc).add (Bt.num (b := 140) (by omega))
    refine q_asg (v := vi nb) (ev_is (ev_mod (ev_mul (ev_add (ev_var rfl) (ev_mul ev_c (ev_var rfl) (Bt.cmul (Bt.num (b := 977) (by decide)) (Bt.num (b := 100) (by omega)) (by omega)))) (ev_add (ev_var rfl) ev_c) (Bt.cmul b2 b3 (by omega))) (ev_var rfl) (by omega)) (by rw [hnb]; rfl)) fun H6 e6 => ?_
    have hp6 := ex_l e6 hp5
    have hLb : ∀ L ∈ [unrank s nb, unrank s (x - 1)], Falls L ∧ L.length = s ∧ rank L < x ∧ ∀ m ∈ L, Sm 2000000 m := fun L hL => by
      rcases List.mem_cons.mp hL with rfl | hL
      · exact ⟨unrank_falls s nb (by omega), unrank_len _ _, by rw [rank_unrank s nb (by omega)]; exact hnbx, fun m hm => smU (by omega) hm⟩
      · rw [List.mem_singleton] at hL
        subst hL
        exact ⟨unrank_falls s (x - 1) (by omega), unrank_len _ _, by rw [rank_unrank s (x - 1) (by omega)]; omega, fun m hm => smU (by omega) hm⟩
    refine s_forTP (R := fun _ v H2 => ∃ p vs, v = .ref p ∧ SqT K H2 p vs ∧ LA K H2 vs [unrank s nb, unrank s (x - 1)]) (ep_X (ex_cons (es_L (el_call (vs := [vi s, vi nb]) (ea_cons (ev_var rfl) (ea_cons (ev_var rfl) ea_nil)) (v_told_by (by omega) (sm1 (by omega))))) (ex_cons (es_L (el_call (vs := [vi s, vi (x - 1)]) (ea_cons (ev_var rfl) (ea_cons (ev_is (ev_sub (ev_var rfl) ev_c) (by show V.int _ = V.int _; congr 1; omega)) ea_nil)) (v_told_by (by omega) (sm1 (by omega))))) ex_nil)) (by show 2 ≤ 100000; decide)) fun v H7 e7 r => ?_
    obtain ⟨tp, tvs, rfl, htp, hLA⟩ := r
    refine ⟨tp, tvs, rfl, htp, fun i σ H' => Ex H7 H' ∧ ∃ x6 x7 : Option V, σ = [some (.ref p), some (vi c), some (.ref l), some (vi s), some (vi x), some (vi nb), x6, x7, none], ⟨Ex.refl _, _, _, rfl⟩, fun i σ H' r => ex_t r.1 htp, fun i y σ H' hy r => ?_, fun σ H' r => ?_⟩
    · obtain ⟨e8, y6, y7, rfl⟩ := r
      obtain ⟨sp, L, rfl, hL, hsp⟩ := (hLA.ex e8).at hy
      obtain ⟨Lf, Ll, Lr, Lm⟩ := hLb L (List.mem_of_getElem? hL)
      have hp8 := ex_l (e7.trans e8) hp6
      refine q_when (b := false) (et_is (et_not (et_B (ev_call (vs := [.bl (inF ns L), .bl true]) (ea_cons (ev_call (vs := [.ref p, .ref sp]) (ea_cons (ev_var rfl) (ea_cons (ev_var rfl) ea_nil)) (v_has hp8 hl hs hb hsp Lm (by omega) Lf)) (ea_cons ev_c ea_nil)) v_says))) ?_) (fun hb => by cases hb) fun _ H9 e9 => ?_
      · rw [inF_yes Ll s2 s1 hx1 Lr]
        rfl
      have hp9 := ex_l e9 hp8
      have hsp9 := ex_l e9 hsp
      obtain ⟨nn, hnn⟩ : ∃ nn, nn = if ns.length < 7 then s else 1 := ⟨_, rfl⟩
      have hnns : nn ≤ s := by rw [hnn]; split <;> omega
      refine q_asgL (xs := (List.range nn).map vi) (el_lrg (ev_if (et_test (ev_lt (lenS rfl (e04.trans (e5.trans (e6.trans (e7.trans (e8.trans e9)))))) ev_c)) (fun hb => ?_) fun hb => ?_) (by omega)) fun ap H10 nap e10 hap => ?_
      · have hb' := of_decide_eq_true hb
        rw [hnn, if_pos (by omega)]
        exact ev_var rfl
      · have hb' := of_decide_eq_false hb
        rw [hnn, if_neg (by omega)]
        exact ev_c
      have hp10 := ex_l e10 hp9
      have hsp10 := ex_l e10 hsp9
      have hall := el_lcL1 (σ := [some (.ref p), some (vi c), some (.ref l), some (vi s), some (vi x), some (vi nb), some (.ref sp), some (.ref ap), none]) (H := H10) (te := tCall (sp__law_says K) [] E0 (tCons (tCall (sp_has K) [] E0 (tCons (tVar 0) (tCons (tOp rCat (tSl (rSlL K) (tVar 6) tNoPart (tPart (tVar 8))) (tSl (rSlL K) (tVar 6) (tPart (tOp oAdd (tVar 8) (tC (.int 1)))) tNoPart)) tNil))) (tCons (tC (.bl true)) tNil))) (vs := [8]) (j := 8) (fun _ => V.bl true)
        (ei_list (K := K) (es_v (te := tVar 7) (ev_var rfl) (sq_of hap))) (by rw [List.length_map, List.length_range]; omega) (fun _ => rfl) fun j z H11 hz e11 => by
          obtain ⟨k, hk, rfl⟩ := vi_at hz
          have hkj : k < nn := by
            have := List.mem_of_getElem? hk
            exact List.mem_range.mp this
          refine ev_is (ev_call (vs := [.bl (inF ns (L.eraseIdx k)), .bl true]) (ea_cons (ev_callVL (xs := (L.eraseIdx k).map vi) (ev_var rfl) ?_ fun l2 Ha ea hl2 => v_has (ex_l (e11.trans ea) hp10) hl hs hb (sq_of hl2) (fun n hn => Lm n (List.mem_of_mem_eraseIdx hn)) ?_ (Falls.erase k Lf)) (ea_cons ev_c ea_nil)) v_says) ?_
          · rw [← erase_cut]
            have hsp11 := ex_l e11 hsp10
            refine el_cat (el_is (el_slS (es_v (ev_var rfl) hsp11) eo_none (eo_some (ev_var rfl))) (cut_to _ k)) (el_is (el_slS (es_v (ev_var rfl) hsp11) (eo_some (ev_add (ev_var rfl) ev_c)) eo_none) (cut_from _ (k + 1))) ?_
            rw [List.length_take, List.length_drop, List.length_map]
            omega
          · have := L2.len_erase L k
            omega
          · rw [inF_erase hb Lf Ll s2 s1 hx1 Lr (by omega)]
            rfl
      rw [map_bl] at hall
      refine s_when (b := false) (et_is (et_not (et_B (ev_all (es_L hall)))) (by rw [all_true]; rfl)) (fun hb => by cases hb) fun _ H11 e11 => ⟨e8.trans (e9.trans (e10.trans e11)), _, _, rfl⟩
    · obtain ⟨e8, y6, y7, rfl⟩ := r
      exact ⟨eH.trans (e3.trans (e4.trans (e5.trans (e6.trans (e7.trans e8))))), _, _, _, _, _, rfl⟩
  obtain ⟨eH, x3, x4, x5, x6, x7, rfl⟩ := r
  have e0H := e1.trans (e2.trans eH)
  have hpH := ex_l e0H hp
  have dsm : ∀ n ∈ down ns.length, Sm 2000000 n := fun n hn => Sm.num (by
    have := down_le _ _ hn
    omega)
  refine q_when (b := false) (et_is (et_and (b := false) (et_test (ev_lt (lenS rfl e0H) ev_c)) fun hlt => et_is (et_not (et_B (ev_call (vs := [.bl (inF ns (down ns.length)), .bl false]) (ea_cons (ev_callVL (xs := (down ns.length).map vi) (ev_var rfl) (el_is (el_lrg3 (i := (ns.length : Int)) (j := -1) (lenS rfl e0H) (ev_neg ev_c) (ev_neg ev_c) (by omega) (by omega)) ?_) fun l2 Ha ea hl2 => v_has (ex_l ea hpH) hl hs hb (sq_of hl2) dsm ?_ (down_falls _)) (ea_cons ev_c ea_nil)) v_says))) ?_) ?_) (fun hb => by cases hb) fun _ H3 e3 => ?_
  · rw [show ((ns.length : Int) - -1).toNat = ns.length + 1 by omega]
    exact down_rg _
  · have := of_decide_eq_true hlt
    rw [down_len]
    omega
  · rw [inF_long (by rw [down_len]; omega)]
    rfl
  · cases decide ((ns.length : Int) < 20) <;> rfl
  · refine s_ret (ev_is (ev_call (vs := [.bl (inF ns []), .bl true]) (ea_cons (ev_callVL (xs := []) (ev_var rfl) (el_lst ea_nil (by decide)) fun l2 Ha ea hl2 => v_has (so := []) (ex_l (e3.trans ea) hpH) hl hs hb (sq_of hl2) (fun n hn => by cases hn) (by decide) trivial) (ea_cons ev_c ea_nil)) v_says) (by rw [inF_nil]; rfl)) fun H4 e4 => q H4 (e0H.trans (e3.trans e4))
theorem v_family {H : Hp} {p : Addr} {ns : List Nat} {c : Nat} (hp : SqL K H p (ns.map vi)) (h0 : 0 < ns.length) (hl : ns.length ≤ 20) (hs : ∀ n ∈ ns, Sm 200000 n) (hb : bar ns = none) (hc : Sm 140 c) : SpV (sp__law_family_right K) [.ref p, vi c] H (.bl true) := fun H1 e Q q E => ⟨p, ns, c, rfl, ex_l e hp, h0, hl, hs, hb, hc, q⟩
end Sx


set_option Elab.async false
set_option linter.all false
set_option maxRecDepth 100000
set_option maxHeartbeats 4000000
/-! law 5, itself -/
namespace Sx
open PySem PySem.Spec PyProof.Rows L2 Evl Mth
variable {K : PySem.W.Frag} {w : World}
theorem pow30 : CPow 10 30 := by unfold CPow; decide
theorem bl_lastV {σ : L2.St} {H : Hp} {tr : TA} {ns : List Nat} {u : V} (h : EvL (tLst tr) σ H (ns.map vi ++ [u])) (hl : ns.length ≤ 19) (hu : ∀ H', IC K H' u false) : EvP (tLst tr) σ H fun _ v H2 => BadL K H2 v :=
  bl_lastP hl (ep_L h fun p Ha H2 _ _ _ hp => ⟨p, u, rfl, hp, hu H2⟩)
theorem kb_non : kitB "NoneType" "list" = some false := by decide +kernel
theorem kb_tup : kitB "tuple" "list" = some false := by decide +kernel
theorem kb_str : kitB "str" "list" = some false := by decide +kernel
theorem kb_dict : kitB "dict" "list" = some false := by decide +kernel
theorem kb_int : kitB "int" "list" = some false := by decide +kernel
theorem iw_non : isW "NoneType" = some false := by decide +kernel
theorem iw_tup : isW "tuple" = some false := by decide +kernel
theorem iw_str : isW "str" = some false := by decide +kernel
theorem iw_dict : isW "dict" = some false := by decide +kernel
theorem iw_bool : isW "bool" = some false := by decide +kernel
theorem iw_list : isW "list" = some false := by decide +kernel
section
variable {σ : L2.St} {H : Hp} {te : TE} {tr : TA}
theorem b_non : EvP (tC .non) σ H fun _ v H2 => BadL K H2 v := bl_of_T kb_non (ot_v ev_c fun _ => ty_non)
theorem b_str {s : Str} : EvP (tC (.str s)) σ H fun _ v H2 => BadL K H2 v := bl_of_T kb_str (ot_v ev_c fun _ => ty_str)
theorem b_int {i : Int} : EvP (tC (.int i)) σ H fun _ v H2 => BadL K H2 v := bl_of_T kb_int (ot_v ev_c fun _ => ty_int)
theorem b_dict : EvP tDNewK σ H fun _ v H2 => BadL K H2 v := bl_of_T kb_dict ot_dict
theorem b_tup {xs : List V} (h : EvA tr σ H xs) (hl : xs.length ≤ 100000) : EvP (tTup tr) σ H fun _ v H2 => BadL K H2 v := bl_of_T kb_tup (ot_tup (eu_tup h hl))
theorem b_inner {xs : List V} (h : EvL te σ H xs) : EvP (tLst (tCons te tNil)) σ H fun _ v H2 => BadL K H2 v := bl_lastP (ns := []) (by decide) (ep_one mo_IC (ic_T iw_list (ot_lst h)))
end
theorem zeros20 : bar (List.replicate 20 0) = none := by decide +kernel
theorem zeros19 : bar (List.replicate 19 0) = none := by decide +kernel
theorem rep_vi (n m : Nat) : List.replicate n (vi m) = (List.replicate n m).map vi := by rw [List.map_replicate]
theorem sm_rep {n : Nat} : ∀ x ∈ List.replicate n 0, Sm 200000 x := fun x hx => by
  rw [(List.mem_replicate.mp hx).2]
  exact Sm.num (by omega)
def sp_law (K : PySem.W.Frag) : Sp := fun vs H Q _ => ∃ (a : Addr) (ns : List Int), vs = [.ref a] ∧ SqL K H a (ns.map V.int) ∧ (∀ z ∈ ns, Bt 1048576 z) ∧ (CF K ∧ ∀ i, i < 4 → Knd K i) ∧ ∀ H', Q (.bl true) H'
theorem len_law {vs : List V} {H : Hp} {Q : VK} {E : XK} (h : sp_law K vs H Q E) : vs.length = 1 := by obtain ⟨a, ns, rfl, _⟩ := h; rfl
/-- law: 0 _law_script, 1 _law_far, 2 _law_due, 3 _law_k, 4 _law_bad, 5 _law_strange, 6 _law_rows, 7 _law_barred -/
def t_law (K : PySem.W.Frag) (w : World) : TS := tSeq (tAsg (tOp oMod (tCB rAbs (tCons (tCall (sp__law_cell_at K) [] E0 (tCons (tVar 0) (tCons (tC (.int 0)) tNil))) tNil)) (tOp oPow (tC (.int 10)) (tC (.int 30)))) (gName 1)) (tSeq (tAsg (tLst tNil) (gName 2)) (tSeq (tFor (iRng1 (tCons (tC (.int 4)) tNil)) (gName 3) (tDrop (tBM K "list" rAppend (tVar 2) (tCons (tLst (tCons (tOp rEq (tVar 3) (tC (.int 0))) (tCons (tOp rEq (tVar 3) (tC (.int 1))) (tCons (tOp rEq (tVar 3) (tC (.int 2))) (tCons (tOp rEq (tVar 3) (tC (.int 3))) (tCons (tC (.bl true)) tNil)))))) tNil)))) (tSeq (tAsg (tLst (tCons (tC .non) (tCons (tTup tNil) (tCons (tTup (tCons (tC (.int 1)) (tCons (tC (.int 0)) tNil))) (tCons (tC (.str "10")) (tCons tDNewK (tCons (tC (.int 5)) (tCons (tLst (tCons (tC .non) tNil)) (tCons (tLst (tCons (tC (.str "1")) tNil)) (tCons (tLst (tCons (tC (.bl true)) tNil)) (tCons (tLst (tCons (tC (.int 1)) (tCons (tC (.bl false)) tNil))) (tCons (tLst (tCons (tLst (tCons (tC (.int 1)) tNil)) tNil)) (tCons (tLst (tCons (tC (.int 0)) (tCons (tC (.int 1)) tNil))) (tCons (tLst (tCons (tC (.int 1)) (tCons (tC (.int 1)) tNil))) (tCons (tLst (tCons (tUn oNeg (tC (.int 1))) tNil)) (tCons (tLst (tCons (tC (.int 2)) (tCons (tOp oSub (tUn oNeg (tC (.int 1))) (tVar 1)) tNil))) tNil)))))))))))))))) (gName 4)) (tSeq (tAsg (tOp rCat (tVar 4) (tLst (tCons (tLst (tCons (tVar 1) (tCons (tOp oAdd (tVar 1) (tC (.int 1))) tNil))) (tCons (tLst (tCons (tOp oAdd (tVar 1) (tC (.int 2))) (tCons (tC (.int 1)) (tCons (tC (.int 1)) tNil)))) (tCons (tLstR3 (tCons (tC (.int 20)) (tCons (tUn oNeg (tC (.int 1))) (tCons (tUn oNeg (tC (.int 1))) tNil)))) (tCons (tLstR3 (tCons (tOp oAdd (tC (.int 20)) (tOp oMod (tVar 1) (tC (.int 9)))) (tCons (tUn oNeg (tC (.int 1))) (tCons (tUn oNeg (tC (.int 1))) tNil)))) tNil)))))) (gName 4)) (tSeq (tDrop (tBM K "list" rAppend (tVar 4) (tCons (tLst (tCons (tC (.int 3)) (tCons (tC (.int 1)) (tCons (tC .non) tNil)))) tNil))) (tSeq (tIfS (tNot (tB (tCall (sp__law_all K) [] E0 (tCons (tC (.ref (He.ga K "_law_with_set"))) (tCons (tLst (tCons (tC (.int 0)) (tCons (tC (.int 1)) (tCons (tC (.int 2)) (tCons (tC (.int 3)) tNil))))) (tCons (tVar 4) (tCons (tOp (rIxL K) (tVar 2) (tC (.int 0))) tNil))))))) (tRet (tC (.bl false))) tNext) (tSeq (tAsg (tLst (tCons (tC .non) (tCons (tC (.str "1")) (tCons (tC (.bl true)) (tCons (tC (.bl false)) (tCons (tLst (tCons (tC (.int 1)) tNil)) (tCons (tTup (tCons (tC (.int 1)) tNil)) (tCons tDNewK tNil)))))))) (gName 5)) (tSeq (tIfS (tNot (tB (tCall (sp__law_all K) [] E0 (tCons (tC (.ref (He.ga K "_law_with_size"))) (tCons (tLst (tCons (tC (.int 0)) tNil)) (tCons (tOp rCat (tVar 5) (tLst (tCons (tUn oNeg (tC (.int 1))) (tCons (tOp oSub (tUn oNeg (tC (.int 1))) (tVar 1)) (tCons (tC (.int 21)) (tCons (tOp oAdd (tC (.int 21)) (tVar 1)) tNil)))))) (tCons (tOp (rIxL K) (tVar 2) (tC (.int 1))) tNil))))))) (tRet (tC (.bl false))) tNext) (tSeq (tIfS (tNot (tB (tCall (sp__law_all K) [] E0 (tCons (tC (.ref (He.ga K "_law_with_size"))) (tCons (tLst (tCons (tC (.int 1)) (tCons (tC (.int 2)) tNil))) (tCons (tOp rCat (tVar 5) (tLst (tCons (tC (.int 0)) (tCons (tUn oNeg (tC (.int 1))) (tCons (tOp oSub (tUn oNeg (tC (.int 1))) (tVar 1)) (tCons (tC (.int 21)) (tCons (tOp oAdd (tC (.int 21)) (tVar 1)) tNil))))))) (tCons (tOp (rIxL K) (tVar 2) (tC (.int 1))) tNil))))))) (tRet (tC (.bl false))) tNext) (tSeq (tIfS (tOr (tNot (tB (tCall (sp__law_all K) [] E0 (tCons (tC (.ref (He.ga K "_law_with_size"))) (tCons (tLst (tCons (tC (.int 2)) tNil)) (tCons (tLst (tCons (tC (.int 20)) tNil)) (tCons (tOp (rIxL K) (tVar 2) (tC (.int 1))) tNil))))))) (tNot (tB (tCall (sp__law_all K) [] E0 (tCons (tC (.ref (He.ga K "_law_with_number"))) (tCons (tLst (tCons (tC (.int 0)) (tCons (tC (.int 1)) (tCons (tC (.int 2)) tNil)))) (tCons (tVar 5) (tCons (tOp (rIxL K) (tVar 2) (tC (.int 2))) tNil)))))))) (tRet (tC (.bl false))) tNext) (tSeq (tIfS (tNot (tB (tCall (sp__law_all K) [] E0 (tCons (tC (.ref (He.ga K "_law_with_number"))) (tCons (tLst (tCons (tC (.int 0)) (tCons (tC (.int 1)) (tCons (tC (.int 2)) tNil)))) (tCons (tLst (tCons (tUn oNeg (tC (.int 1))) (tCons (tOp oSub (tUn oNeg (tC (.int 1))) (tVar 1)) tNil))) (tCons (tOp (rIxL K) (tVar 2) (tC (.int 2))) tNil))))))) (tRet (tC (.bl false))) tNext) (tSeq (tIfS (tNot (tB (tCall (sp__law_all K) [] E0 (tCons (tC (.ref (He.ga K "_law_of_none"))) (tCons (tLst (tCons (tC (.int 0)) tNil)) (tCons (tLst (tCons (tC (.int 1)) (tCons (tOp oAdd (tC (.int 1)) (tVar 1)) (tCons (tUn oNeg (tC (.int 1))) (tCons (tC .non) tNil))))) (tCons (tOp (rIxL K) (tVar 2) (tC (.int 2))) tNil))))))) (tRet (tC (.bl false))) tNext) (tSeq (tAsg (tLst (tCons (tC .non) (tCons (tTup tNil) (tCons (tTup (tCons (tC (.int 1)) tNil)) (tCons (tC (.str "1")) (tCons tDNewK (tCons (tC (.int 5)) (tCons (tLst (tCons (tC .non) tNil)) (tCons (tLst (tCons (tC (.str "1")) tNil)) (tCons (tLst (tCons (tC (.bl true)) tNil)) (tCons (tLst (tCons (tC (.int 3)) (tCons (tC (.bl false)) tNil))) (tCons (tLst (tCons (tLst (tCons (tC (.int 1)) tNil)) tNil)) (tCons (tLst (tCons (tUn oNeg (tC (.int 1))) tNil)) (tCons (tLst (tCons (tC (.int 3)) (tCons (tOp oSub (tUn oNeg (tC (.int 1))) (tVar 1)) tNil))) (tCons (tOp rRep (tLst (tCons (tC (.int 0)) tNil)) (tC (.int 21))) tNil))))))))))))))) (gName 6)) (tSeq (tIfS (tNot (tB (tCall (sp__law_all K) [] E0 (tCons (tC (.ref (He.ga K "_law_with_row"))) (tCons (tLst (tCons (tC (.int 0)) (tCons (tC (.int 1)) (tCons (tC (.int 2)) tNil)))) (tCons (tOp rCat (tVar 6) (tLst (tCons (tLst (tCons (tC (.int 4)) (tCons (tC (.int 3)) (tCons (tC .non) tNil)))) (tCons (tLst (tCons (tC (.int 4)) (tCons (tTup (tCons (tC (.int 1)) tNil)) tNil))) tNil)))) (tCons (tOp (rIxL K) (tVar 2) (tC (.int 3))) tNil))))))) (tRet (tC (.bl false))) tNext) (tSeq (tAsg (tLst (tCons (tLst (tCons (tC (.int 3)) (tCons (tC (.int 4)) tNil))) (tCons (tLst (tCons (tC (.int 0)) (tCons (tOp oAdd (tC (.int 1)) (tVar 1)) tNil))) (tCons (tLst (tCons (tC (.int 4)) (tCons (tC (.int 5)) (tCons (tC (.int 3)) tNil)))) (tCons (tLst (tCons (tC (.int 5)) (tCons (tC (.int 10)) (tCons (tC (.int 10)) (tCons (tC (.int 5)) (tCons (tC (.int 2)) tNil)))))) (tCons (tLst (tCons (tC (.int 2)) (tCons (tC (.int 1)) (tCons (tC (.int 1)) tNil)))) (tCons (tLst (tCons (tC (.int 3)) (tCons (tOp oAdd (tC (.int 4)) (tVar 1)) (tCons (tC (.int 0)) tNil)))) tNil))))))) (gName 7)) (tSeq (tIfS (tOr (tNot (tB (tCall (sp__law_all K) [] E0 (tCons (tC (.ref (He.ga K "_law_next"))) (tCons (tLst (tCons (tC (.int 0)) (tCons (tC (.int 1)) tNil))) (tCons (tVar 7) (tCons (tOp (rIxL K) (tVar 2) (tC (.int 3))) tNil))))))) (tNot (tB (tCall (sp__law_all K) [] E0 (tCons (tC (.ref (He.ga K "_law_with_row"))) (tCons (tLst (tCons (tC (.int 2)) tNil)) (tCons (tLst (tCons (tLst tNil) (tCons (tOp rRep (tLst (tCons (tC (.int 0)) tNil)) (tC (.int 20))) tNil))) (tCons (tOp (rIxL K) (tVar 2) (tC (.int 3))) tNil)))))))) (tRet (tC (.bl false))) tNext) (tSeq (tIfS (tOr (tTest (tOp rNotB (tMeth (cCan K) "shows" (sp_Can_shows K) [] E0 (tCall (sp_X_told K) [] E0 (tCons (tOp rRep (tLst (tCons (tC (.int 0)) tNil)) (tC (.int 20))) tNil)) (tCons (tOp rRep (tLst (tCons (tC (.int 0)) tNil)) (tC (.int 20))) tNil)) (tC (.bl true)))) (tTest (tOp rNe (tCall (sp_X_number_of K) [] E0 (tCons (tLstR3 (tCons (tC (.int 19)) (tCons (tUn oNeg (tC (.int 1))) (tCons (tUn oNeg (tC (.int 1))) tNil)))) tNil)) (tC (.int 0))))) (tRet (tC (.bl false))) tNext) (tRet (tAndV (tCall (sp_X_has K) [] E0 (tCons (tOp rRep (tLst (tCons (tC (.int 0)) tNil)) (tC (.int 20))) (tCons (tLst tNil) tNil))) (tAndV (tOp rEq (tCall (sp_X_most K) [] E0 (tCons (tOp rRep (tLst (tCons (tC (.int 0)) tNil)) (tC (.int 19))) tNil)) (tC (.int 0))) (tAndV (tOp oGt (tOp (rIxL K) (tCall (sp_X_set_of K) [] E0 (tCons (tC (.int 20)) (tCons (tVar 1) tNil))) (tC (.int 0))) (tC (.int 18))) (tChain rEq rEq (tCall (sp_X_under K) [] E0 (tCons (tC (.int 20)) (tCons (tC (.int 0)) tNil))) (tC (.int 0)) (tCall (sp_X_over K) [] E0 (tCons (tC (.int 19)) (tCons (tC (.int 0)) tNil)))))))))))))))))))))))))
set_option maxHeartbeats 8000000 in
theorem pure_law {vs : List V} {H : Hp} {Q : VK} {E : XK} (h : sp_law K vs H Q E) : t_law K w { nx := fun _ H' => Q .non H', rt := Q } (start ["_law_script", "_law_far", "_law_due", "_law_k", "_law_bad", "_law_strange", "_law_rows", "_law_barred"] vs) H := by
  obtain ⟨a, ns, rfl, ha, hns, ⟨cf, kn⟩, q⟩ := h
  show t_law K w _ [some (.ref a), none, none, none, none, none, none, none] H
  obtain ⟨z, hz⟩ : ∃ z, z = ns.getD 0 0 := ⟨_, rfl⟩
  obtain ⟨far, hfar⟩ : ∃ far : Nat, far = ((if z < 0 then -z else z) % 10 ^ 30).toNat := ⟨_, rfl⟩
  have hc1 := Int.emod_nonneg (if z < 0 then -z else z) (show (10 : Int) ^ 30 ≠ 0 by decide)
  have hc2 := Int.emod_lt_of_pos (if z < 0 then -z else z) (show (0 : Int) < 10 ^ 30 by decide)
  have hcI : (far : Int) = (if z < 0 then -z else z) % 10 ^ 30 := by rw [hfar]; exact Int.toNat_of_nonneg hc1
  have sfar : Sm 140 far := by
    have : far < 10 ^ 30 := by
      have e : ((10 : Int) ^ 30) = ((10 ^ 30 : Nat) : Int) := by decide
      rw [e] at hc2 hcI
      rw [e] at hc1
      omega
    exact Nat.lt_trans this (by decide)
  have smf : ∀ {n : Nat}, n ≤ far + 9 → Sm 200000 n := fun {n} h => ((sfar.add (Sm.num (b := 140) (n := 9) (by omega))).le h).up (by omega)
  refine q_asg (v := vi far) (ev_is (ev_mod (ev_abs (ev_call (vs := [.ref a, vi 0]) (ea_cons (ev_var rfl) (ea_cons ev_c ea_nil)) (v_cell ha))) (ev_pow ev_c ev_c pow30) (by decide)) (by show V.int _ = V.int _; rw [hcI, hz]; rfl)) fun H1 e1 => ?_
  refine q_asgL (el_lst ea_nil (by decide)) fun D H2 nD e2 hD => ?_
  -- what is due
  refine q_forN (ei_rng1 ev_c (by decide)) (fun Ha i σ Hb => ∃ (L : List V) (x3 : Option V), Chg Ha D (.lst L) Hb ∧ σ = [some (.ref a), some (vi far), some (.ref D), x3, none, none, none, none] ∧ L.length = i ∧ ∀ (k : Nat) (x : V), L[k]? = some x → ∃ p, x = .ref p ∧ p ≠ D ∧ Hb p = some (.lst (kindsV k)))
    (fun Ha ea => ⟨[], none, Chg.refl (ea _ _ hD), rfl, rfl, fun k x h => by simp at h⟩) (fun Ha i σ Hb ea r o u ho h2 => ?_) (fun Ha i x σ Hb Hc ea hi r hy => ?_) fun Ha σ Hb ea r => ?_
  · obtain ⟨L, x3, c, _⟩ := r
    exact c.2 o u (fun z => by subst z; rw [hD] at ho; cases ho) h2
  · obtain ⟨L, x3, c, rfl, hL, hP⟩ := r
    obtain ⟨rfl, rfl⟩ := hy
    have ekb : ∀ {σ : L2.St} {H' : Hp} {m : Nat}, σ[3]? = some (some (vi i)) → Ev (tOp rEq (tVar 3) (tC (.int m))) σ H' (.bl (decide (i = m))) := fun hσ => ev_is (ev_eqI (i := (i : Int)) (ev_var hσ) ev_c) (congrArg V.bl (by rw [decide_eq_decide]; omega))
    refine s_appL (ys := kindsV i) c.1 (ev_var rfl) (el_lst (ea_cons (ekb (m := 0) rfl) (ea_cons (ekb (m := 1) rfl) (ea_cons (ekb (m := 2) rfl) (ea_cons (ekb (m := 3) rfl) (ea_cons ev_c ea_nil))))) (by show 5 ≤ 100000; decide)) (by rw [hL]; omega) fun p Hd np ed hp => ⟨L ++ [.ref p], _, (c.ex ed).put, rfl, by rw [List.length_append, hL]; rfl, fun k x hk => ?_⟩
    have npD : p ≠ D := fun z => by subst z; rw [c.1] at np; cases np
    by_cases hkL : k < L.length
    · rw [List.getElem?_append_left hkL] at hk
      obtain ⟨p', rfl, n', h'⟩ := hP k x hk
      exact ⟨p', rfl, n', by rw [upd_ne n']; exact ed _ _ h'⟩
    · have hk2 : k = L.length := by
        have := (List.getElem?_eq_some_iff.mp hk).1
        rw [List.length_append] at this
        have h1 : [V.ref p].length = 1 := rfl
        omega
      subst hk2
      rw [List.getElem?_append_right (Nat.le_refl _), Nat.sub_self] at hk
      cases hk
      exact ⟨p, rfl, npD, by rw [upd_ne npD, hL]; exact hp⟩
  obtain ⟨L, x3, c, rfl, hL, hP⟩ := r
  have hD0 := c.1
  clear hD
  have due : ∀ j : Nat, j < 4 → ∃ u, (∀ {σ : L2.St} {H' : Hp}, σ[2]? = some (some (.ref D)) → Ex Hb H' → Ev (tOp (rIxL K) (tVar 2) (tC (.int j))) σ H' (.ref u)) ∧ ∀ {H' : Hp}, Ex Hb H' → SqL K H' u (kindsV j) := fun j hj => by
    obtain ⟨x, hx⟩ : ∃ x, L[j]? = some x := ⟨_, List.getElem?_eq_getElem (by rw [hL]; exact hj)⟩
    obtain ⟨u, rfl, _, hu⟩ := hP j x hx
    exact ⟨u, fun hσ e => ev_ixS (i := ((j : Nat) : Int)) (es_v (ev_var hσ) (sq_of (e _ _ hD0))) ev_c (atI_nat hx), fun e => sq_of (e _ _ hu)⟩
  obtain ⟨u0, du0, k0⟩ := due 0 (by decide)
  obtain ⟨u1, du1, k1⟩ := due 1 (by decide)
  obtain ⟨u2, du2, k2⟩ := due 2 (by decide)
  obtain ⟨u3, du3, k3⟩ := due 3 (by decide)
  have ev_mf : ∀ {σ : L2.St} {H' : Hp}, σ[1]? = some (some (vi far)) → Ev (tOp oSub (tUn oNeg (tC (.int 1))) (tVar 1)) σ H' (.int (-1 - far)) := fun hσ => ev_sub (ev_neg ev_c) (ev_var hσ)
  have ev_pf : ∀ {σ : L2.St} {H' : Hp} {m : Nat}, σ[1]? = some (some (vi far)) → Ev (tOp oAdd (tC (.int m)) (tVar 1)) σ H' (vi (m + far)) := fun hσ => ev_is (ev_add ev_c (ev_var hσ)) rfl
  have ev_fp : ∀ {σ : L2.St} {H' : Hp} {m : Nat}, σ[1]? = some (some (vi far)) → Ev (tOp oAdd (tVar 1) (tC (.int m))) σ H' (vi (far + m)) := fun hσ => ev_is (ev_add (ev_var hσ) ev_c) rfl
  have icmf : ∀ H', IC K H' (.int (-1 - far)) false := fun H' => ic_neg (by omega)
  -- no sets
  refine q_asgP (ep_G (P := BadS K) (n := 15) (eg_cons mo_badS (bs_of b_non) (eg_cons mo_badS (bs_of (b_tup ea_nil (by decide))) (eg_cons mo_badS (bs_of (b_tup (ea_cons ev_c (ea_cons ev_c ea_nil)) (by decide))) (eg_cons mo_badS (bs_of b_str) (eg_cons mo_badS (bs_of b_dict) (eg_cons mo_badS (bs_of b_int)
    (eg_cons mo_badS (bs_of (bl_lastV (ns := []) (u := .non) (el_lst (ea_cons ev_c ea_nil) (by decide)) (by decide) fun _ => ic_non))
    (eg_cons mo_badS (bs_of (bl_lastV (ns := []) (u := .str "1") (el_lst (ea_cons ev_c ea_nil) (by decide)) (by decide) fun _ => ic_str))
    (eg_cons mo_badS (bs_of (bl_lastV (ns := []) (u := .bl true) (el_lst (ea_cons ev_c ea_nil) (by decide)) (by decide) fun _ => ic_bl))
    (eg_cons mo_badS (bs_of (bl_lastV (ns := [1]) (u := .bl false) (el_lst (ea_cons ev_c (ea_cons ev_c ea_nil)) (by decide)) (by decide) fun _ => ic_bl))
    (eg_cons mo_badS (bs_of (b_inner (el_lst (ea_cons ev_c ea_nil) (by decide))))
    (eg_cons mo_badS (bs_fall (ns := [0, 1]) (el_lst (ea_cons ev_c (ea_cons ev_c ea_nil)) (by decide)) (by decide) 0 0 1 rfl rfl (by decide))
    (eg_cons mo_badS (bs_fall (ns := [1, 1]) (el_lst (ea_cons ev_c (ea_cons ev_c ea_nil)) (by decide)) (by decide) 0 1 1 rfl rfl (by decide))
    (eg_cons mo_badS (bs_of (bl_lastV (ns := []) (u := .int (-1)) (el_lst (ea_cons (ev_neg ev_c) ea_nil) (by decide)) (by decide) fun _ => ic_neg (by decide)))
    (eg_cons mo_badS (bs_of (bl_lastV (ns := [2]) (u := .int (-1 - far)) (el_lst (ea_cons ev_c (ea_cons (ev_mf rfl) ea_nil)) (by show 2 ≤ 100000; decide)) (by decide) icmf)) eg_nil))))))))))))))) (by decide)) fun v H3 e3 r => ?_
  obtain ⟨b1, xs1, Hm1, rfl, em1, nm1, e3m, hb1, hl1, hx1⟩ := r
  refine q_asgP (ep_catG (P := BadS K) (n := 4) (m := 15) mo_badS (ev_var rfl) hb1 (fun x hx => mo_badS _ _ _ e3m (hx1 x hx)) (eg_cons mo_badS (bs_fall (ns := [far, far + 1]) (el_lst (ea_cons (ev_var rfl) (ea_cons (ev_fp (m := 1) rfl) ea_nil)) (by show 2 ≤ 100000; decide)) (by show 2 ≤ 20; decide) 0 far (far + 1) rfl rfl (by omega))
    (eg_cons mo_badS (bs_fall (ns := [far + 2, 1, 1]) (el_lst (ea_cons (ev_fp (m := 2) rfl) (ea_cons ev_c (ea_cons ev_c ea_nil))) (by show 3 ≤ 100000; decide)) (by show 3 ≤ 20; decide) 1 1 1 rfl rfl (by omega))
    (eg_cons mo_badS (bs_of (bl_long (el_lrg3 (i := 20) (j := -1) ev_c (ev_neg ev_c) (ev_neg ev_c) (by omega) (by omega)) (by unfold rgC; rw [List.length_map, List.length_range]; decide)))
    (eg_cons mo_badS (bs_of (bl_long (el_lrg3 (i := ((20 + far % 9 : Nat) : Int)) (j := -1) (ev_is (ev_add ev_c (ev_mod (ev_var rfl) ev_c (by decide))) rfl) (ev_neg ev_c) (ev_neg ev_c) (by omega) (by omega)) (by unfold rgC; rw [List.length_map, List.length_range]; omega))) eg_nil)))) (by decide) hl1 (by decide)) fun v H4 e4 r => ?_
  obtain ⟨b2, xs2, Hm2, rfl, em2, nm2, e4m, hb2, hl2, hx2⟩ := r
  have eb2 : Ex Hb Hm2 := (e3.trans em2)
  -- one more
  refine q_appL (xs := xs2) (ys := [vi 3, vi 1, .non]) hb2 (ev_var rfl) (el_lst (ea_cons ev_c (ea_cons ev_c (ea_cons ev_c ea_nil))) (by decide)) (by rw [hl2]; omega) fun p5 H5 np5 e5 hp5 => ?_
  have np52 : p5 ≠ b2 := fun z => by subst z; rw [hb2] at np5; cases np5
  have ex6 : Ex Hm2 (upd H5 b2 (.lst (xs2 ++ [.ref p5]))) := Sx.Ex.put (e4m.trans e5) nm2
  obtain ⟨H6, hH6⟩ : ∃ H6, H6 = upd H5 b2 (.lst (xs2 ++ [.ref p5])) := ⟨_, rfl⟩
  have h6b : H6 b2 = some (.lst (xs2 ++ [.ref p5])) := by rw [hH6]; exact upd_same
  have h6p : H6 p5 = some (.lst [vi 3, vi 1, .non]) := by rw [hH6, upd_ne np52]; exact hp5
  rw [← hH6] at ex6 ⊢
  have eb6 : Ex Hb H6 := eb2.trans ex6
  have th6 : Thg K (BadS K) H6 (.ref b2) := ⟨b2, _, rfl, sq_of h6b, by rw [List.length_append, hl2]; show 15 + 4 + 1 ≤ 1000; decide, fun x hx => by
    rcases List.mem_append.mp hx with h | h
    · exact mo_badS _ _ _ ex6 (hx2 x h)
    · rw [List.mem_singleton] at h
      subst h
      refine .inl (.inr ⟨p5, [vi 3, vi 1, .non], rfl, sq_of h6p, .inr ⟨fun i => decide (i < 2), by decide, fun i x hx => ?_, 2, by decide, by decide⟩⟩)
      match i, hx with
      | 0, hx => cases hx; exact ic_nat (n := 3)
      | 1, hx => cases hx; exact ic_nat (n := 1)
      | 2, hx => cases hx; exact ic_non
      | n + 3, hx => simp at hx⟩
  have mt : ∀ {H H' : Hp} {v : V} {P : Hp → V → Prop}, Mono P → Thg K P H v → Ex H H' → Thg K P H' v := fun {H H' v P} mo h e => by
    obtain ⟨p, xs, h1, h2, h3, h4⟩ := h
    exact ⟨p, xs, h1, ex_l e h2, h3, fun x hx => mo _ _ _ e (h4 x hx)⟩
  refine q_when (b := false) (et_is (et_not (et_B (ev_all5 (P := BadS K) (ds := [0, 1, 2, 3]) (j := 0) mo_badS kn (el_lst (ea_cons ev_c (ea_cons ev_c (ea_cons ev_c (ea_cons ev_c ea_nil)))) (by decide)) (ep_v (ev_var rfl) fun Ha Hb ea eb => mt mo_badS th6 (ea.trans eb)) (du0 rfl eb6) (k0 eb6) fun H' x hx d _ => .inl ⟨rfl, rfl, hx⟩))) rfl) (fun hb => by cases hb) fun _ H7 e7 => ?_
  have eb7 := eb6.trans e7
  -- strange things
  refine q_asgP (ep_G (P := Strange K) (n := 7) (eg_cons mo_strange (st_of_T iw_non (ot_v ev_c fun _ => ty_non)) (eg_cons mo_strange (st_of_T iw_str (ot_v ev_c fun _ => ty_str)) (eg_cons mo_strange (st_of_T iw_bool (ot_v ev_c fun _ => ty_bl)) (eg_cons mo_strange (st_of_T iw_bool (ot_v ev_c fun _ => ty_bl))
    (eg_cons mo_strange (st_of_T iw_list (ot_lst (el_lst (ea_cons ev_c ea_nil) (by decide)))) (eg_cons mo_strange (st_of_T iw_tup (ot_tup (eu_tup (ea_cons ev_c ea_nil) (by decide)))) (eg_cons mo_strange (st_of_T iw_dict ot_dict) eg_nil))))))) (by decide)) fun v H8 e8 r => ?_
  have eb8 := eb7.trans e8
  obtain ⟨s1, ss, Hs, rfl, es1, ns1, es2, hs1, hsl, hsx⟩ := r
  have hsx8 : ∀ x ∈ ss, Strange K H8 x := fun x hx => mo_strange _ _ _ es2 (hsx x hx)
  have th8 : Thg K (Strange K) H8 (.ref s1) := ⟨s1, ss, rfl, sq_of hs1, by omega, hsx8⟩
  have mo0 : Mono fun H v => BadZ K H v 0 20 := fun H H' v e h => h.ex e
  have mo12 : Mono fun H v => BadZ K H v 1 20 ∧ BadZ K H v 1 19 := fun H H' v e h => ⟨h.1.ex e, h.2.ex e⟩
  have z0 : ∀ {σ : L2.St} {H' : Hp} {te : TE} {i : Int}, Ev te σ H' (.int i) → ¬ (0 ≤ i ∧ i ≤ 20) → EvP te σ H' fun _ v H2 => BadZ K H2 v 0 20 := fun h hi => ep_v h fun _ _ _ _ => .inl ⟨_, rfl, hi⟩
  have z12 : ∀ {σ : L2.St} {H' : Hp} {te : TE} {i : Int}, Ev te σ H' (.int i) → ¬ (1 ≤ i ∧ i ≤ 20) → EvP te σ H' fun _ v H2 => BadZ K H2 v 1 20 ∧ BadZ K H2 v 1 19 := fun h hi => ep_v h fun _ _ _ _ => ⟨.inl ⟨_, rfl, hi⟩, .inl ⟨_, rfl, by omega⟩⟩
  refine q_when (b := false) (et_is (et_not (et_B (ev_all5 (P := fun H v => BadZ K H v 0 20) (ds := [0]) (j := 1) mo0 kn (el_lst (ea_cons ev_c ea_nil) (by decide)) ((ep_catG (P := fun H v => BadZ K H v 0 20) (n := 4) (m := 7) mo0 (ev_var rfl) hs1 (fun x hx => .inr (hsx8 x hx)) (eg_cons mo0 (z0 (ev_neg ev_c) (by omega)) (eg_cons mo0 (z0 (ev_mf rfl) (by omega)) (eg_cons mo0 (z0 ev_c (by omega)) (eg_cons mo0 (z0 (ev_pf (m := 21) rfl) (by omega)) eg_nil)))) (by decide) hsl (by decide)).imp fun _ _ _ _ _ r => r.thg mo0 (by decide)) (du1 rfl eb8) (k1 eb8) fun H' x hx d hd => .inr (.inl ⟨rfl, rfl, .inl ⟨List.mem_singleton.mp hd, hx⟩⟩)))) rfl) (fun hb => by cases hb) fun _ H9 e9 => ?_
  have eb9 := eb8.trans e9
  have hs9 := e9 _ _ hs1
  have hsx9 : ∀ x ∈ ss, Strange K H9 x := fun x hx => mo_strange _ _ _ e9 (hsx8 x hx)
  refine q_when (b := false) (et_is (et_not (et_B (ev_all5 (P := fun H v => BadZ K H v 1 20 ∧ BadZ K H v 1 19) (ds := [1, 2]) (j := 1) mo12 kn (el_lst (ea_cons ev_c (ea_cons ev_c ea_nil)) (by decide)) ((ep_catG (P := fun H v => BadZ K H v 1 20 ∧ BadZ K H v 1 19) (n := 5) (m := 7) mo12 (ev_var rfl) hs9 (fun x hx => ⟨.inr (hsx9 x hx), .inr (hsx9 x hx)⟩) (eg_cons mo12 (z12 ev_c (by omega)) (eg_cons mo12 (z12 (ev_neg ev_c) (by omega)) (eg_cons mo12 (z12 (ev_mf rfl) (by omega)) (eg_cons mo12 (z12 ev_c (by omega)) (eg_cons mo12 (z12 (ev_pf (m := 21) rfl) (by omega)) eg_nil))))) (by decide) hsl (by decide)).imp fun _ _ _ _ _ r => r.thg mo12 (by decide)) (du1 rfl eb9) (k1 eb9) fun H' x hx d hd => .inr (.inl ⟨rfl, rfl, .inr ?_⟩)))) rfl) (fun hb => by cases hb) fun _ H10 e10 => ?_
  · rcases List.mem_cons.mp hd with rfl | hd
    · exact .inl ⟨rfl, hx.1⟩
    · exact .inr ⟨List.mem_singleton.mp hd, hx.2⟩
  have eb10 := eb9.trans e10
  have th10 := mt mo_strange th8 (e9.trans e10)
  have mo3 : Mono fun H v => BadZ K H v 1 19 := fun H H' v e h => h.ex e
  have ics : ∀ {H' : Hp} {v : V}, Strange K H' v → IC K H' v false := fun ⟨T, h1, h2⟩ => .inr ⟨T, h1, h2, rfl⟩
  refine q_when (b := false) (et_is (et_or (a := false) (et_is (et_not (et_B (ev_all5 (P := fun H v => BadZ K H v 1 19) (ds := [2]) (j := 1) mo3 kn (el_lst (ea_cons ev_c ea_nil) (by decide)) ((ep_G (P := fun H v => BadZ K H v 1 19) (n := 1) (eg_cons mo3 (ep_v ev_c fun _ _ _ _ => .inl ⟨20, rfl, by omega⟩) eg_nil) (by decide)).imp fun _ _ _ _ _ r => r.thg mo3 (by decide)) (du1 rfl eb10) (k1 eb10) fun H' x hx d hd => .inr (.inl ⟨rfl, rfl, .inr (.inr ⟨List.mem_singleton.mp hd, hx⟩)⟩)))) rfl)
    fun _ => et_is (et_not (et_B (ev_all5 (P := Strange K) (ds := [0, 1, 2]) (j := 2) mo_strange kn (el_lst (ea_cons ev_c (ea_cons ev_c (ea_cons ev_c ea_nil))) (by decide)) (ep_v (ev_var rfl) fun Ha Hb ea eb => mt mo_strange th10 (ea.trans eb)) (du2 rfl eb10) (k2 eb10) fun H' x hx d hd => .inr (.inr (.inl ⟨rfl, rfl, ics hx⟩))))) (b := false) rfl) rfl) (fun hb => by cases hb) fun _ H11 e11 => ?_
  have eb11 := eb10.trans e11
  have mo4 : Mono fun H v => IC K H v false := mo_IC
  refine q_when (b := false) (et_is (et_not (et_B (ev_all5 (P := fun H v => IC K H v false) (ds := [0, 1, 2]) (j := 2) mo4 kn (el_lst (ea_cons ev_c (ea_cons ev_c (ea_cons ev_c ea_nil))) (by decide)) ((ep_G (P := fun H v => IC K H v false) (n := 2) (eg_cons mo4 (ep_v (ev_neg ev_c) fun _ _ _ _ => ic_neg (by decide)) (eg_cons mo4 (ep_v (ev_mf rfl) fun _ _ _ _ => ic_neg (by omega)) eg_nil)) (by decide)).imp fun _ _ _ _ _ r => r.thg mo4 (by decide)) (du2 rfl eb11) (k2 eb11) fun H' x hx d hd => .inr (.inr (.inl ⟨rfl, rfl, hx⟩))))) rfl) (fun hb => by cases hb) fun _ H12 e12 => ?_
  have eb12 := eb11.trans e12
  have mo5 : Mono fun H v => IC K H v false ∨ ∃ n : Nat, v = vi n ∧ 0 < n := fun H H' v e h => h.imp (fun h => h.ex e) id
  refine q_when (b := false) (et_is (et_not (et_B (ev_all5 (P := fun H v => IC K H v false ∨ ∃ n : Nat, v = vi n ∧ 0 < n) (ds := [0]) (j := 2) mo5 kn (el_lst (ea_cons ev_c ea_nil) (by decide)) ((ep_G (P := fun H v => IC K H v false ∨ ∃ n : Nat, v = vi n ∧ 0 < n) (n := 4) (eg_cons mo5 (ep_v ev_c fun _ _ _ _ => .inr ⟨1, rfl, by decide⟩) (eg_cons mo5 (ep_v (ev_pf (m := 1) rfl) fun _ _ _ _ => .inr ⟨1 + far, rfl, by omega⟩) (eg_cons mo5 (ep_v (ev_neg ev_c) fun _ _ _ _ => .inl (ic_neg (by decide))) (eg_cons mo5 (ep_v ev_c fun _ _ _ _ => .inl ic_non) eg_nil)))) (by decide)).imp fun _ _ _ _ _ r => r.thg mo5 (by decide)) (du2 rfl eb12) (k2 eb12) fun H' x hx d hd => .inr (.inr (.inr (.inr (.inr ⟨rfl, rfl, List.mem_singleton.mp hd, hx⟩))))))) rfl) (fun hb => by cases hb) fun _ H13 e13 => ?_
  have eb13 := eb12.trans e13
  -- no rows
  refine q_asgP (ep_G (P := BadL K) (n := 14) (eg_cons mo_badL b_non (eg_cons mo_badL (b_tup ea_nil (by decide)) (eg_cons mo_badL (b_tup (ea_cons ev_c ea_nil) (by decide)) (eg_cons mo_badL b_str (eg_cons mo_badL b_dict (eg_cons mo_badL b_int
    (eg_cons mo_badL (bl_lastV (ns := []) (u := .non) (el_lst (ea_cons ev_c ea_nil) (by decide)) (by decide) fun _ => ic_non)
    (eg_cons mo_badL (bl_lastV (ns := []) (u := .str "1") (el_lst (ea_cons ev_c ea_nil) (by decide)) (by decide) fun _ => ic_str)
    (eg_cons mo_badL (bl_lastV (ns := []) (u := .bl true) (el_lst (ea_cons ev_c ea_nil) (by decide)) (by decide) fun _ => ic_bl)
    (eg_cons mo_badL (bl_lastV (ns := [3]) (u := .bl false) (el_lst (ea_cons ev_c (ea_cons ev_c ea_nil)) (by decide)) (by decide) fun _ => ic_bl)
    (eg_cons mo_badL (b_inner (el_lst (ea_cons ev_c ea_nil) (by decide)))
    (eg_cons mo_badL (bl_lastV (ns := []) (u := .int (-1)) (el_lst (ea_cons (ev_neg ev_c) ea_nil) (by decide)) (by decide) fun _ => ic_neg (by decide))
    (eg_cons mo_badL (bl_lastV (ns := [3]) (u := .int (-1 - far)) (el_lst (ea_cons ev_c (ea_cons (ev_mf rfl) ea_nil)) (by show 2 ≤ 100000; decide)) (by decide) icmf)
    (eg_cons mo_badL (bl_long (el_rep (x := vi 0) (k := 21) (el_lst (ea_cons ev_c ea_nil) (by decide)) ev_c (by decide)) (by rw [List.length_replicate]; decide)) eg_nil)))))))))))))) (by decide)) fun v H14 e14 r => ?_
  have eb14 := eb13.trans e14
  obtain ⟨r1, rrs, Hr, rfl, er1, nr1, er2, hr1, hrl, hrx⟩ := r
  refine q_when (b := false) (et_is (et_not (et_B (ev_all5 (P := BadL K) (ds := [0, 1, 2]) (j := 3) mo_badL kn (el_lst (ea_cons ev_c (ea_cons ev_c (ea_cons ev_c ea_nil))) (by decide)) ((ep_catG (P := BadL K) (n := 2) (m := 14) mo_badL (ev_var rfl) hr1 (fun x hx => mo_badL _ _ _ er2 (hrx x hx)) (eg_cons mo_badL (bl_lastV (ns := [4, 3]) (u := .non) (el_lst (ea_cons ev_c (ea_cons ev_c (ea_cons ev_c ea_nil))) (by decide)) (by decide) fun _ => ic_non) (eg_cons mo_badL (bl_lastP (ns := [4]) (by decide) (ep_two mo_IC ev_c (ic_T iw_tup (ot_tup (eu_tup (ea_cons ev_c ea_nil) (by decide)))))) eg_nil)) (by decide) hrl (by decide)).imp fun _ _ _ _ _ r => r.thg mo_badL (by decide)) (du3 rfl eb14) (k3 eb14) fun H' x hx d hd => .inr (.inr (.inr (.inl ⟨rfl, rfl, .inl ⟨?_, hx⟩⟩)))))) rfl) (fun hb => by cases hb) fun _ H15 e15 => ?_
  · rcases List.mem_cons.mp hd with rfl | hd
    · omega
    rcases List.mem_cons.mp hd with rfl | hd
    · omega
    · rw [List.mem_singleton] at hd
      omega
  have eb15 := eb14.trans e15
  -- barred rows
  have sm4 : ∀ (l : List Nat), (∀ n ∈ l, n ≤ far + 9) → ∀ n ∈ l, Sm 200000 n := fun l h n hn => smf (h n hn)
  have smc : ∀ (l : List Nat), (∀ n ∈ l, n ≤ 200000) → ∀ n ∈ l, Sm 200000 n := fun l h n hn => Sm.num (h n hn)
  refine q_asgP (ep_G (P := BadB K) (n := 6) (eg_cons mo_badB (bb_list (ns := [3, 4]) (el_lst (ea_cons ev_c (ea_cons ev_c ea_nil)) (by decide)) (by decide) (smc _ (by decide)) (by decide +kernel))
    (eg_cons mo_badB (bb_list (ns := [0, 1 + far]) (el_lst (ea_cons ev_c (ea_cons (ev_pf (m := 1) rfl) ea_nil)) (by show 2 ≤ 100000; decide)) (by show 2 ≤ 20; decide) (fun n hn => smf (by
      rcases List.mem_cons.mp hn with rfl | hn
      · omega
      · rw [List.mem_singleton] at hn
        omega)) (bar_first (by rw [show ovr 1 0 = 0 by decide +kernel]; omega)))
    (eg_cons mo_badB (bb_list (ns := [4, 5, 3]) (el_lst (ea_cons ev_c (ea_cons ev_c (ea_cons ev_c ea_nil))) (by decide)) (by decide) (smc _ (by decide)) (by decide +kernel))
    (eg_cons mo_badB (bb_list (ns := [5, 10, 10, 5, 2]) (el_lst (ea_cons ev_c (ea_cons ev_c (ea_cons ev_c (ea_cons ev_c (ea_cons ev_c ea_nil))))) (by decide)) (by decide) (smc _ (by decide)) (by decide +kernel))
    (eg_cons mo_badB (bb_list (ns := [2, 1, 1]) (el_lst (ea_cons ev_c (ea_cons ev_c (ea_cons ev_c ea_nil))) (by decide)) (by decide) (smc _ (by decide)) (by decide +kernel))
    (eg_cons mo_badB (bb_list (ns := [3, 4 + far, 0]) (el_lst (ea_cons ev_c (ea_cons (ev_pf (m := 4) rfl) (ea_cons ev_c ea_nil))) (by show 3 ≤ 100000; decide)) (by show 3 ≤ 20; decide) (fun n hn => smf (by
      rcases List.mem_cons.mp hn with rfl | hn
      · omega
      rcases List.mem_cons.mp hn with rfl | hn
      · omega
      · rw [List.mem_singleton] at hn
        omega)) (bar_first (by rw [show ovr 1 3 = 3 by decide +kernel]; omega))) eg_nil)))))) (by decide)) fun v H16 e16 r => ?_
  have eb16 := eb15.trans e16
  have thb := r.thg mo_badB (K := K) (by decide)
  obtain ⟨bp, _, _, rfl, _⟩ := r
  refine q_when (b := false) (et_is (et_or (a := false) (et_is (et_not (et_B (ev_all5 (P := BadB K) (ds := [0, 1]) (j := 3) mo_badB kn (el_lst (ea_cons ev_c (ea_cons ev_c ea_nil)) (by decide)) (ep_v (ev_var rfl) fun Ha Hb ea eb => mt mo_badB thb (ea.trans eb)) (du3 rfl eb16) (k3 eb16) fun H' x hx d hd => .inr (.inr (.inr (.inr (.inl ⟨rfl, rfl, hx⟩))))))) rfl)
    fun _ => et_is (et_not (et_B (ev_all5 (P := NoNext K) (ds := [2]) (j := 3) mo_noNext kn (el_lst (ea_cons ev_c ea_nil) (by decide)) ((ep_G (P := NoNext K) (n := 2) (eg_cons mo_noNext (nn_list (ns := []) (el_lst ea_nil (by decide)) (.inl rfl) (fun n hn => by cases hn) rfl) (eg_cons mo_noNext (nn_list (ns := List.replicate 20 0) (el_is (el_rep (x := vi 0) (k := 20) (el_lst (ea_cons ev_c ea_nil) (by decide)) ev_c (by decide)) (rep_vi 20 0)) (.inr (by rw [List.length_replicate])) sm_rep zeros20) eg_nil)) (by decide)).imp fun _ _ _ _ _ r => r.thg mo_noNext (by decide)) (du3 rfl eb16) (k3 eb16) fun H' x hx d hd => .inr (.inr (.inr (.inl ⟨rfl, rfl, .inr ⟨List.mem_singleton.mp hd, hx⟩⟩)))))) (b := false) rfl) rfl) (fun hb => by cases hb) fun _ H17 e17 => ?_
  -- what is just within
  have rep0 : ∀ {σ : L2.St} {H' : Hp} (k : Nat), k ≤ 1000 → EvL (tOp rRep (tLst (tCons (tC (.int 0)) tNil)) (tC (.int k))) σ H' ((List.replicate k 0).map vi) := fun k hk => el_is (el_rep (x := vi 0) (k := k) (el_lst (ea_cons ev_c ea_nil) (by decide)) ev_c hk) (rep_vi k 0)
  refine q_when (b := false) (et_is (et_or (a := false) (et_is (et_test (ev_notB (ev_can_shows (ns := List.replicate 20 0) (ep_call1L (R := fun _ v H2 => IsC K H2 v) (rep0 20 (by decide)) (fun _ _ _ _ _ r => r) fun p Ha ea hp Q q => .inl ⟨p, List.replicate 20 0, rfl, sq_of hp, by rw [List.length_replicate]; decide, sm_rep, cf, fun v Hb eb r => q v Hb eb ?_⟩) (es_L (rep0 20 (by decide))) (by rw [List.length_replicate]; decide) sm_rep) ev_c)) (by rw [zeros20]; rfl))
    fun _ => et_is (et_test (ev_neI (i := ((rank (down 19) : Nat) : Int)) (j := 0) (ev_call1L (xs := (down 19).map vi) (el_is (el_lrg3 (i := 19) (j := -1) ev_c (ev_neg ev_c) (ev_neg ev_c) (by omega) (by omega)) (down_rg 19)) fun p Ha ea hp => fun Hb eb Q q E => .inl (v_number_of (sq_of hp) (by rw [down_len]; decide) (down_falls 19) (fun n hn => Sm.num (by have := down_le _ _ hn; omega)) Hb eb Q q E)) ev_c)) (b := false) (by decide +kernel)) rfl) (fun hb => by cases hb) fun _ H18 e18 => ?_
  · rcases r with ⟨_, h⟩ | ⟨s, m, h, _⟩
    · exact h
    · rw [zeros20] at h
      cases h
  have z20 : Sm 1000000 0 := Sm.num (by omega)
  obtain ⟨hd, tl, htop⟩ : ∃ hd tl, unrank 20 far = hd :: tl := ⟨_, _, rfl⟩
  have h19 : 19 ≤ hd := by
    have h1 := unrank_falls 20 far (by omega)
    have h2 := unrank_len 20 far
    rw [htop] at h1 h2
    have h3 := falls_ge h1
    have h4 : tl.length + 1 = 20 := h2
    omega
  refine s_ret (v := .bl true) (ev_is (ev_andV (a := true) (b := true) (ev_callLL (z := .bl (inF (List.replicate 20 0) [])) (rep0 20 (by decide)) (el_lst ea_nil (by decide)) fun p l Ha hp hl => fun Hb eb Q q E => .inl (v_has (so := []) (sq_of hp) (by rw [List.length_replicate]; decide) sm_rep zeros20 (sq_of hl) (fun n hn => by cases hn) (by decide) trivial Hb eb Q q E)) fun _ => ?_) rfl) fun H19 e19 => q H19
  refine ev_is (ev_andV (a := true) (b := true) (ev_is (ev_eqI (i := ((ovr 19 0 : Nat) : Int)) (j := 0) (ev_call1L (rep0 19 (by decide)) fun p Ha ea hp => fun Hb eb Q q E => .inl (v_most (ns := List.replicate 19 0) (l := 0) (sq_of hp) (by rw [List.length_replicate]; decide) sm_rep zeros19 (by rw [List.length_replicate]; decide) (by rw [List.length_replicate]; rfl) Hb eb Q (by rw [List.length_replicate]; exact q) E)) ev_c) (congrArg V.bl (by decide +kernel))) fun _ => ?_) rfl
  refine ev_is (ev_andV (a := true) (b := true) (ev_is (ev_gt (i := (hd : Int)) (j := 18) (ev_ixS (i := ((0 : Nat) : Int)) (es_L (el_call (vs := [vi 20, vi far]) (ea_cons ev_c (ea_cons (ev_var rfl) ea_nil)) (fun Hb eb Q q E => .inl (v_set_of (k := 20) (n := far) (by omega) (by omega) (sfar.up (by omega)) Hb eb Q q E)))) ev_c (atI_nat (by rw [htop]; rfl))) ev_c) (congrArg V.bl (decide_eq_true (by omega)))) fun _ => ?_) rfl
  exact ev_chEE (i := ((und 20 0 : Nat) : Int)) (j := 0) (k := ((ovr 19 0 : Nat) : Int)) (ev_call (vs := [vi 20, vi 0]) (ea_cons ev_c (ea_cons ev_c ea_nil)) (fun Hb eb Q q E => .inl (v_under (by omega) (by omega) z20 Hb eb Q q E))) ev_c (ev_call (vs := [vi 19, vi 0]) (ea_cons ev_c (ea_cons ev_c ea_nil)) (fun Hb eb Q q E => .inl (v_over (by omega) (by omega) z20 Hb eb Q q E))) (by decide +kernel) (by decide +kernel)
end Sx


set_option Elab.async false
set_option linter.all false
set_option maxRecDepth 100000
set_option maxHeartbeats 4000000
namespace Sx
open PySem PySem.Spec PyProof.Rows L2 Evl Mth
def top (i : Nat) : Stmt := PySem.Challenge.pw_shadowrow_k05_refused.main.body.getD i (.Pass ⟨0, 0, 0, 0⟩)
abbrev s_is_whole : Stmt := top 8
abbrev s_is_count : Stmt := top 9
abbrev s_check_set : Stmt := top 10
abbrev s_check_size : Stmt := top 11
abbrev s_check_count : Stmt := top 12
abbrev s_picks : Stmt := top 13
abbrev s_place_of : Stmt := top 14
abbrev s_first_of : Stmt := top 15
abbrev s_told_by : Stmt := top 16
abbrev s_number_of : Stmt := top 17
abbrev s_set_of : Stmt := top 18
abbrev s_beneath : Stmt := top 19
abbrev s_moved : Stmt := top 21
abbrev s_under : Stmt := top 22
abbrev s_over : Stmt := top 23
abbrev s_first_bar : Stmt := top 26
abbrev s_Can_shows : Stmt := inClass (top 27) 0
abbrev s_Barred_init : Stmt := inClass (top 28) 0
abbrev s_Barred_shows : Stmt := inClass (top 28) 1
abbrev s_check_row : Stmt := top 30
abbrev s_check_can : Stmt := top 31
abbrev s_told : Stmt := top 32
abbrev s_has : Stmt := top 33
abbrev s_most : Stmt := top 34
abbrev s__law_cell_at : Stmt := top 36
abbrev s__law_kinds : Stmt := top 37
abbrev s__law_with_set : Stmt := top 38
abbrev s__law_with_size : Stmt := top 39
abbrev s__law_with_number : Stmt := top 40
abbrev s__law_with_row : Stmt := top 41
abbrev s__law_next : Stmt := top 42
abbrev s__law_of_none : Stmt := top 43
abbrev s__law_told : Stmt := top 44
abbrev s__law_all : Stmt := top 45
abbrev s_law : Stmt := top 46
def d_is_whole : He.DefD := ⟨("is_whole", none), "is_whole", "is_whole", defArgs s_is_whole, defBody s_is_whole, defScope s_is_whole, [], []⟩
def d_is_count : He.DefD := ⟨("is_count", none), "is_count", "is_count", defArgs s_is_count, defBody s_is_count, defScope s_is_count, [], []⟩
def d_check_set : He.DefD := ⟨("check_set", none), "check_set", "check_set", defArgs s_check_set, defBody s_check_set, defScope s_check_set, [], []⟩
def d_check_size : He.DefD := ⟨("check_size", none), "check_size", "check_size", defArgs s_check_size, defBody s_check_size, defScope s_check_size, [], []⟩
def d_check_count : He.DefD := ⟨("check_count", none), "check_count", "check_count", defArgs s_check_count, defBody s_check_count, defScope s_check_count, [], []⟩
def d_picks : He.DefD := ⟨("picks", none), "picks", "picks", defArgs s_picks, defBody s_picks, defScope s_picks, [], []⟩
def d_place_of : He.DefD := ⟨("place_of", none), "place_of", "place_of", defArgs s_place_of, defBody s_place_of, defScope s_place_of, [], []⟩
def d_first_of : He.DefD := ⟨("first_of", none), "first_of", "first_of", defArgs s_first_of, defBody s_first_of, defScope s_first_of, [], []⟩
def d_told_by : He.DefD := ⟨("told_by", none), "told_by", "told_by", defArgs s_told_by, defBody s_told_by, defScope s_told_by, [], []⟩
def d_number_of : He.DefD := ⟨("number_of", none), "number_of", "number_of", defArgs s_number_of, defBody s_number_of, defScope s_number_of, [], []⟩
def d_set_of : He.DefD := ⟨("set_of", none), "set_of", "set_of", defArgs s_set_of, defBody s_set_of, defScope s_set_of, [], []⟩
def d_beneath : He.DefD := ⟨("beneath", none), "beneath", "beneath", defArgs s_beneath, defBody s_beneath, defScope s_beneath, [], []⟩
def d_moved : He.DefD := ⟨("moved", none), "moved", "moved", defArgs s_moved, defBody s_moved, defScope s_moved, [], []⟩
def d_under : He.DefD := ⟨("under", none), "under", "under", defArgs s_under, defBody s_under, defScope s_under, [], []⟩
def d_over : He.DefD := ⟨("over", none), "over", "over", defArgs s_over, defBody s_over, defScope s_over, [], []⟩
def d_first_bar : He.DefD := ⟨("first_bar", none), "first_bar", "first_bar", defArgs s_first_bar, defBody s_first_bar, defScope s_first_bar, [], []⟩
def d_Can_shows : He.DefD := ⟨("Can", some "shows"), "shows", "Can.shows", defArgs s_Can_shows, defBody s_Can_shows, defScope s_Can_shows, [], []⟩
def d_Barred_init : He.DefD := ⟨("Barred", some "__init__"), "__init__", "Barred.__init__", defArgs s_Barred_init, defBody s_Barred_init, defScope s_Barred_init, [], []⟩
def d_Barred_shows : He.DefD := ⟨("Barred", some "shows"), "shows", "Barred.shows", defArgs s_Barred_shows, defBody s_Barred_shows, defScope s_Barred_shows, [], []⟩
def d_check_row : He.DefD := ⟨("check_row", none), "check_row", "check_row", defArgs s_check_row, defBody s_check_row, defScope s_check_row, [], []⟩
def d_check_can : He.DefD := ⟨("check_can", none), "check_can", "check_can", defArgs s_check_can, defBody s_check_can, defScope s_check_can, [], []⟩
def d_told : He.DefD := ⟨("told", none), "told", "told", defArgs s_told, defBody s_told, defScope s_told, [], []⟩
def d_has : He.DefD := ⟨("has", none), "has", "has", defArgs s_has, defBody s_has, defScope s_has, [], []⟩
def d_most : He.DefD := ⟨("most", none), "most", "most", defArgs s_most, defBody s_most, defScope s_most, [], []⟩
def d__law_cell_at : He.DefD := ⟨("_law_cell_at", none), "_law_cell_at", "_law_cell_at", defArgs s__law_cell_at, defBody s__law_cell_at, defScope s__law_cell_at, [], []⟩
def d__law_kinds : He.DefD := ⟨("_law_kinds", none), "_law_kinds", "_law_kinds", defArgs s__law_kinds, defBody s__law_kinds, defScope s__law_kinds, [], []⟩
def d__law_with_set : He.DefD := ⟨("_law_with_set", none), "_law_with_set", "_law_with_set", defArgs s__law_with_set, defBody s__law_with_set, defScope s__law_with_set, [], []⟩
def d__law_with_size : He.DefD := ⟨("_law_with_size", none), "_law_with_size", "_law_with_size", defArgs s__law_with_size, defBody s__law_with_size, defScope s__law_with_size, [], []⟩
def d__law_with_number : He.DefD := ⟨("_law_with_number", none), "_law_with_number", "_law_with_number", defArgs s__law_with_number, defBody s__law_with_number, defScope s__law_with_number, [], []⟩
def d__law_with_row : He.DefD := ⟨("_law_with_row", none), "_law_with_row", "_law_with_row", defArgs s__law_with_row, defBody s__law_with_row, defScope s__law_with_row, [], []⟩
def d__law_next : He.DefD := ⟨("_law_next", none), "_law_next", "_law_next", defArgs s__law_next, defBody s__law_next, defScope s__law_next, [], []⟩
def d__law_of_none : He.DefD := ⟨("_law_of_none", none), "_law_of_none", "_law_of_none", defArgs s__law_of_none, defBody s__law_of_none, defScope s__law_of_none, [], []⟩
def d__law_told : He.DefD := ⟨("_law_told", none), "_law_told", "_law_told", defArgs s__law_told, defBody s__law_told, defScope s__law_told, [], []⟩
def d__law_all : He.DefD := ⟨("_law_all", none), "_law_all", "_law_all", defArgs s__law_all, defBody s__law_all, defScope s__law_all, [], []⟩
def d_law : He.DefD := ⟨("law", none), "law", "law", defArgs s_law, defBody s_law, defScope s_law, [], []⟩
def fn : List He.DefD := [d_is_whole, d_is_count, d_check_set, d_check_size, d_check_count, d_picks, d_place_of, d_first_of, d_told_by, d_number_of, d_set_of, d_beneath, d_moved, d_under, d_over, d_first_bar, d_Can_shows, d_Barred_init, d_Barred_shows, d_check_row, d_check_can, d_told, d_has, d_most, d__law_cell_at, d__law_kinds, d__law_with_set, d__law_with_size, d__law_with_number, d__law_with_row, d__law_next, d__law_of_none, d__law_told, d__law_all, d_law]
def fa : List He.Fa := ([.glo "is_whole", .glo "is_count", .glo "check_set", .glo "check_size", .glo "check_count", .glo "picks", .glo "place_of", .glo "first_of", .glo "told_by", .glo "number_of", .glo "set_of", .glo "beneath"] : List He.Fa) ++ ([.glo "moved", .glo "under", .glo "over", .glo "first_bar", .glo "check_row", .glo "check_can", .glo "told", .glo "has", .glo "most", .glo "_law_cell_at", .glo "_law_kinds", .glo "_law_with_set"] : List He.Fa) ++ ([.glo "_law_with_size", .glo "_law_with_number", .glo "_law_with_row", .glo "_law_next", .glo "_law_of_none", .glo "_law_told", .glo "_law_all", .glo "law", .free "len", .free "range", .free "isinstance", .free "all"] : List He.Fa) ++ ([.free "any", .free "zip", .free "enumerate", .free "sum", .free "sorted", .free "set", .free "list", .free "max", .free "min", .free "abs", .free "int", .free "bool"] : List He.Fa) ++ ([.free "ValueError", .int "GREATEST" 20, .glo "SetsError", .glo "BadSet", .exc "BadSet", .exm "BadSet" "SetsError" true, .glo "BadSize", .exc "BadSize", .exm "BadSize" "SetsError" true, .glo "BadNumber", .exc "BadNumber", .exm "BadNumber" "SetsError" true] : List He.Fa) ++ ([.glo "BadRow", .exc "BadRow", .exm "BadRow" "SetsError" true, .glo "Answer", .cls "Answer", .glo "Can", .cls "Can", .meth "Can" "shows", .glo "Barred", .cls "Barred", .meth "Barred" "__init__", .meth "Barred" "shows"] : List He.Fa) ++ ([.noat "Barred" "size", .noat "Barred" "most", .mkr "Barred"] : List He.Fa)
section
variable {P : Program} {w : World} {K : PySem.W.Frag} {mg : Str → Option Value} {base : Heap}
abbrev N_picks : List Str := ["many", "size", "found", "turn"]
theorem sc_picks : FnScope N_picks ["many", "size"] (defScope s_picks) := ⟨rfl, rfl, rfl, by decide +kernel, rfl, by decide +kernel, by decide +kernel⟩
theorem ok_picks {f : Addr} {fd : FuncData} (F : FunX K s_picks "picks" "picks" f fd) (gf : mg "picks" = some (.ref f)) (B : Bl mg)  : DefOk P w K mg base CX0 1 "picks" ["many", "size"] (sp_picks K) := by
  refine DefOk.of F gf (F.bindsN fun _ _ _ _ _ _ us hl => match us, hl with | [_, _], _ => rfl) (FunD.ok F sc_picks (fun vs H Q E h => len_picks h) fun cdv A outer s H vs Q E hr h => ⟨t_picks K w, PSs.nox ?_, pure_picks h⟩)
  exact (pss_cons (ps_if (pt_cmpR op_lt (pv 0) (pv 1) (nomark _)) (pss_one (ps_ret pe_int)) pss_nil)
    (pss_cons (ps_set (i := 2) sc_picks.nd rfl (.inl rfl) pe_int)
    (pss_cons (ps_for PassesOwn.never rfl (pi_range1 (by rfl) B.range (pa_cons (pv 1) pa_nil)) (pg_name (i := 3) sc_picks.nd rfl (.inl rfl)) (pss_one (ps_set (i := 2) sc_picks.nd rfl (.inl rfl) (pe_op op_fdiv (pe_op op_mulX (pv 2) (pe_op op_sub (pv 0) (pv 3))) (pe_op op_add (pv 3) pe_int)))))
    (pss_one (ps_ret (pv 2))))))
abbrev N_first_of : List Str := ["size", "number", "low", "high", "middle"]
theorem sc_first_of : FnScope N_first_of ["size", "number"] (defScope s_first_of) := ⟨rfl, rfl, rfl, by decide +kernel, rfl, by decide +kernel, by decide +kernel⟩
theorem ok_first_of {f : Addr} {fd : FuncData} (F : FunX K s_first_of "first_of" "first_of" f fd) (gf : mg "first_of" = some (.ref f)) (B : Bl mg) (D_picks : DefOk P w K mg base CX0 1 "picks" ["many", "size"] (sp_picks K)) : DefOk P w K mg base CX0 2 "first_of" ["size", "number"] (sp_first_of K) := by
  refine DefOk.of F gf (F.bindsN fun _ _ _ _ _ _ us hl => match us, hl with | [_, _], _ => rfl) (FunD.ok F sc_first_of (fun vs H Q E h => len_first_of h) fun cdv A outer s H vs Q E hr h => ⟨t_first_of K w, PSs.nox ?_, pure_first_of h⟩)
  exact (pss_cons (ps_set (i := 2) sc_first_of.nd rfl (.inl rfl) (pe_op op_sub (pv 0) pe_int))
    (pss_cons (ps_set (i := 3) sc_first_of.nd rfl (.inl rfl) (pv 0))
    (pss_cons (ps_while PassesOwn.never (pt_cmpR op_le (pe_callD D_picks (hr.mono (by decide)) rfl (pa_cons (pv 3) (pa_cons (pv 0) pa_nil))) (pv 1) (nomark _)) (pss_one (ps_par (by rfl) sc_first_of.nd rfl rfl (by decide) rfl rfl (pa_cons (pv 3) (pa_cons (pe_op op_mulX pe_int (pv 3)) pa_nil)) (by rfl))))
    (pss_cons (ps_while PassesOwn.never (pt_cmpR op_gt (pe_op op_sub (pv 3) (pv 2)) pe_int (nomark _)) (pss_cons (ps_set (i := 4) sc_first_of.nd rfl (.inl rfl) (pe_op op_fdiv (pe_op op_add (pv 2) (pv 3)) pe_int))
    (pss_one (ps_if (pt_cmpR op_le (pe_callD D_picks (hr.mono (by decide)) rfl (pa_cons (pv 4) (pa_cons (pv 0) pa_nil))) (pv 1) (nomark _)) (pss_one (ps_set (i := 2) sc_first_of.nd rfl (.inl rfl) (pv 4))) (pss_one (ps_set (i := 3) sc_first_of.nd rfl (.inl rfl) (pv 4)))))))
    (pss_one (ps_ret (pv 2)))))))
abbrev N_told_by : List Str := ["size", "number", "found", "left", "one"]
theorem sc_told_by : FnScope N_told_by ["size", "number"] (defScope s_told_by) := ⟨rfl, rfl, rfl, by decide +kernel, rfl, by decide +kernel, by decide +kernel⟩
theorem ok_told_by {f : Addr} {fd : FuncData} (F : FunX K s_told_by "told_by" "told_by" f fd) (gf : mg "told_by" = some (.ref f)) (B : Bl mg) (D_first_of : DefOk P w K mg base CX0 2 "first_of" ["size", "number"] (sp_first_of K)) (D_picks : DefOk P w K mg base CX0 1 "picks" ["many", "size"] (sp_picks K)) : DefOk P w K mg base CX0 3 "told_by" ["size", "number"] (sp_told_by K) := by
  refine DefOk.of F gf (F.bindsN fun _ _ _ _ _ _ us hl => match us, hl with | [_, _], _ => rfl) (FunD.ok F sc_told_by (fun vs H Q E h => len_told_by h) fun cdv A outer s H vs Q E hr h => ⟨t_told_by K w, PSs.nox ?_, pure_told_by h⟩)
  exact (pss_cons (ps_set (i := 2) sc_told_by.nd rfl (.inl rfl) (pe_lst pa_nil))
    (pss_cons (ps_for PassesOwn.never rfl (pi_range3 (by rfl) B.range (pa_cons (pv 0) (pa_cons pe_int (pa_cons (pe_un un_neg pe_int) pa_nil)))) (pg_name (i := 3) sc_told_by.nd rfl (.inl rfl)) (pss_cons (ps_set (i := 4) sc_told_by.nd rfl (.inl rfl) (pe_callD D_first_of (hr.mono (by decide)) rfl (pa_cons (pv 3) (pa_cons (pv 1) pa_nil))))
    (pss_cons (ps_expr (pe_bm PySem.F.plainAttrs_list PySem.F.slot_list_append PySem.F.type_list_append mt_append (pv 2) (pa_cons (pv 4) pa_nil)))
    (pss_one (ps_aug (i := 1) sc_told_by.nd rfl (.inl rfl) (pe_callD D_picks (hr.mono (by decide)) rfl (pa_cons (pv 4) (pa_cons (pv 3) pa_nil))) ip_sub)))))
    (pss_one (ps_ret (pv 2)))))
abbrev N_moved : List Str := ["size", "many", "by", "found", "at", "one", "left"]
theorem sc_moved : FnScope N_moved ["size", "many", "by"] (defScope s_moved) := ⟨rfl, rfl, rfl, by decide +kernel, rfl, by decide +kernel, by decide +kernel⟩
theorem ok_moved {f : Addr} {fd : FuncData} (F : FunX K s_moved "moved" "moved" f fd) (gf : mg "moved" = some (.ref f)) (B : Bl mg) (D_picks : DefOk P w K mg base CX0 1 "picks" ["many", "size"] (sp_picks K)) (D_told_by : DefOk P w K mg base CX0 3 "told_by" ["size", "number"] (sp_told_by K)) : DefOk P w K mg base CX0 4 "moved" ["size", "many", "by"] (sp_moved K) := by
  refine DefOk.of F gf (F.bindsN fun _ _ _ _ _ _ us hl => match us, hl with | [_, _, _], _ => rfl) (FunD.ok F sc_moved (fun vs H Q E h => len_moved h) fun cdv A outer s H vs Q E hr h => ⟨t_moved K w, PSs.nox ?_, pure_moved h⟩)
  exact (pss_cons (ps_set (i := 3) sc_moved.nd rfl (.inl rfl) pe_int)
    (pss_cons (ps_for PassesOwn.never rfl (pi_enum (by rfl) B.enumerate (pa_cons (pe_callD D_told_by (hr.mono (by decide)) rfl (pa_cons (pv 0) (pa_cons (pv 1) pa_nil))) pa_nil)) (pg_tup rfl (pgs_cons (pg_name (i := 4) sc_moved.nd rfl (.inl rfl)) (pgs_cons (pg_name (i := 5) sc_moved.nd rfl (.inl rfl)) pgs_nil))) (pss_cons (ps_set (i := 6) sc_moved.nd rfl (.inl rfl) (pe_op op_sub (pv 0) (pv 4)))
    (pss_one (ps_if (pt_cmpR op_ge (pv 5) (pv 6) (nomark _)) (pss_one (ps_aug (i := 3) sc_moved.nd rfl (.inl rfl) (pe_callD D_picks (hr.mono (by decide)) rfl (pa_cons (pv 5) (pa_cons (pe_op op_add (pv 6) (pv 2)) pa_nil))) ip_add)) pss_nil))))
    (pss_one (ps_ret (pv 3)))))
abbrev N_first_bar : List Str := ["row", "size", "most"]
theorem sc_first_bar : FnScope N_first_bar ["row"] (defScope s_first_bar) := ⟨rfl, rfl, rfl, by decide +kernel, rfl, by decide +kernel, by decide +kernel⟩
theorem ok_first_bar {f : Addr} {fd : FuncData} (F : FunX K s_first_bar "first_bar" "first_bar" f fd) (gf : mg "first_bar" = some (.ref f)) (B : Bl mg) (D_moved : DefOk P w K mg base CX0 4 "moved" ["size", "many", "by"] (sp_moved K)) : DefOk P w K mg base CX0 5 "first_bar" ["row"] (sp_first_bar K) := by
  refine DefOk.of F gf (F.bindsN fun _ _ _ _ _ _ us hl => match us, hl with | [_], _ => rfl) (FunD.ok F sc_first_bar (fun vs H Q E h => len_first_bar h) fun cdv A outer s H vs Q E hr h => ⟨t_first_bar K w, PSs.nox ?_, pure_first_bar h⟩)
  exact (pss_cons (ps_for PassesOwn.never rfl (pi_range2 (by rfl) B.range (pa_cons pe_int (pa_cons (pe_callB call_len_seq (by rfl) B.len PySem.boot_len (pa_cons (pv 0) pa_nil)) pa_nil))) (pg_name (i := 1) sc_first_bar.nd rfl (.inl rfl)) (pss_cons (ps_set (i := 2) sc_first_bar.nd rfl (.inl rfl) (pe_callD D_moved (hr.mono (by decide)) rfl (pa_cons (pv 1) (pa_cons (pe_ix ix_list (pv 0) (pe_op op_sub (pv 1) pe_int) (fun _ _ => rfl)) (pa_cons pe_int pa_nil)))))
    (pss_one (ps_if (pt_cmpR op_gt (pe_ix ix_list (pv 0) (pv 1) (fun _ _ => rfl)) (pv 2) (nomark _)) (pss_one (ps_ret (pe_tup (pa_cons (pe_op op_add (pv 1) pe_int) (pa_cons (pv 2) pa_nil))))) pss_nil))))
    (pss_one (ps_ret (pe_tup (pa_cons pe_int (pa_cons pe_int pa_nil))))))
abbrev N_Can_shows : List Str := ["self", "row"]
theorem sc_Can_shows : FnScope N_Can_shows ["self", "row"] (defScope s_Can_shows) := ⟨rfl, rfl, rfl, by decide +kernel, rfl, by decide +kernel, by decide +kernel⟩
theorem ok_Can_shows {f : Addr} {fd : FuncData} (F : FunX K s_Can_shows "shows" "Can.shows" f fd) (cl : Cls K (cCan K)) (me : Meth K (cCan K) "shows" f) (B : Bl mg) (D_first_bar : DefOk P w K mg base CX0 5 "first_bar" ["row"] (sp_first_bar K)) : MetOk P w K mg base CX0 6 (cCan K) "shows" ["self", "row"] (sp_Can_shows K) := by
  refine ⟨f, fd, cl, me, F.bindsN fun _ _ _ _ _ _ us hl => match us, hl with | [_, _], _ => rfl, FunD.ok F sc_Can_shows (fun vs H Q E h => len_Can_shows h) fun cdv A outer s H vs Q E hr h => ⟨t_Can_shows K w, PSs.nox ?_, pure_Can_shows h⟩⟩
  exact (pss_one (ps_ret (pe_cmpR (op_eqD hr.units) (pe_callD D_first_bar (hr.mono (by decide)) rfl (pa_cons (pv 1) pa_nil)) (pe_tup (pa_cons pe_int (pa_cons pe_int pa_nil))) (nomark _))))
abbrev N__law_kinds : List Str := ["_law_error", "_law_found"]
theorem sc__law_kinds : FnScope N__law_kinds ["_law_error"] (defScope s__law_kinds) := ⟨rfl, rfl, rfl, by decide +kernel, rfl, by decide +kernel, by decide +kernel⟩
theorem ok__law_kinds {f : Addr} {fd : FuncData} (F : FunX K s__law_kinds "_law_kinds" "_law_kinds" f fd) (gf : mg "_law_kinds" = some (.ref f)) (B : Bl mg) (mVE : mg "ValueError" = none) (bBadSet : BadOk K mg "BadSet") (bBadSize : BadOk K mg "BadSize") (bBadNumber : BadOk K mg "BadNumber") (bBadRow : BadOk K mg "BadRow") : KindsOk P w K mg base := by
  refine ⟨f, gf, F.kp, fun A outer s H a oe j Q hr hpin hz hf e0 kn q => ?_⟩
  refine hot_run (vs := [.ref a]) (us := [.ref a]) (k := 1) (t := t_kinds K (bA K j) a) F sc__law_kinds hr hpin e0 (FunD.bindsA (ps := ["_law_error"]) F (fun _ _ _ _ _ _ us hl => match us, hl with | [_], _ => rfl) s [.ref a] rfl) rfl (.cons rfl .nil) (fun cdv => ?_) (pure_kinds kn q)
  exact (pss_cons (ps_set (i := 1) sc__law_kinds.nd rfl (.inl rfl) (pe_lst (pa_cons (pe_callB (call_isP kn.c (List.mem_singleton.mpr rfl) hz hf) (by rfl) B.isinstance (by decide +kernel) (pa_cons (pv 0) (pa_cons (pe_glob rfl bBadSet.g rfl) pa_nil))) (pa_cons (pe_callB (call_isP kn.c (List.mem_singleton.mpr rfl) hz hf) (by rfl) B.isinstance (by decide +kernel) (pa_cons (pv 0) (pa_cons (pe_glob rfl bBadSize.g rfl) pa_nil))) (pa_cons (pe_callB (call_isP kn.c (List.mem_singleton.mpr rfl) hz hf) (by rfl) B.isinstance (by decide +kernel) (pa_cons (pv 0) (pa_cons (pe_glob rfl bBadNumber.g rfl) pa_nil))) pa_nil)))))
    (pss_one (ps_ret (pe_op op_cat (pv 1) (pe_lst (pa_cons (pe_callB (call_isP kn.c (List.mem_singleton.mpr rfl) hz hf) (by rfl) B.isinstance (by decide +kernel) (pa_cons (pv 0) (pa_cons (pe_glob rfl bBadRow.g rfl) pa_nil))) (pa_cons (pe_callB (call_isP kn.c (List.mem_singleton.mpr rfl) hz hf) (by rfl) B.isinstance (by decide +kernel) (pa_cons (pv 0) (pa_cons (pe_bltn (by rfl) mVE (by decide +kernel) rfl) pa_nil))) pa_nil)))))))
abbrev N_is_whole : List Str := ["thing"]
theorem sc_is_whole : FnScope N_is_whole ["thing"] (defScope s_is_whole) := ⟨rfl, rfl, rfl, by decide +kernel, rfl, by decide +kernel, by decide +kernel⟩
theorem ok_is_whole {f : Addr} {fd : FuncData} (F : FunX K s_is_whole "is_whole" "is_whole" f fd) (gf : mg "is_whole" = some (.ref f)) (B : Bl mg)  : DefOk P w K mg base CX0 1 "is_whole" ["thing"] (sp_is_whole K) := by
  refine DefOk.of F gf (F.bindsN fun _ _ _ _ _ _ us hl => match us, hl with | [_], _ => rfl) (FunD.ok F sc_is_whole (fun vs H Q E h => len_is_whole h) fun cdv A outer s H vs Q E hr h => ⟨t_is_whole K w, PSs.nox ?_, pure_is_whole h⟩)
  exact (pss_one (ps_ret (pe_and (pe_callB call_isi (by rfl) B.isinstance (by decide +kernel) (pa_cons (pv 0) (pa_cons (pe_bltn (by rfl) B.int (by decide +kernel) rfl) pa_nil))) (pe_one (pe_not (pe_callB call_isi (by rfl) B.isinstance (by decide +kernel) (pa_cons (pv 0) (pa_cons (pe_bltn (by rfl) B.bool (by decide +kernel) rfl) pa_nil))))))))
abbrev N_is_count : List Str := ["thing"]
theorem sc_is_count : FnScope N_is_count ["thing"] (defScope s_is_count) := ⟨rfl, rfl, rfl, by decide +kernel, rfl, by decide +kernel, by decide +kernel⟩
theorem ok_is_count {f : Addr} {fd : FuncData} (F : FunX K s_is_count "is_count" "is_count" f fd) (gf : mg "is_count" = some (.ref f)) (B : Bl mg) (D_is_whole : DefOk P w K mg base CX0 1 "is_whole" ["thing"] (sp_is_whole K)) : DefOk P w K mg base CX0 2 "is_count" ["thing"] (sp_is_count K) := by
  refine DefOk.of F gf (F.bindsN fun _ _ _ _ _ _ us hl => match us, hl with | [_], _ => rfl) (FunD.ok F sc_is_count (fun vs H Q E h => len_is_count h) fun cdv A outer s H vs Q E hr h => ⟨t_is_count K w, PSs.nox ?_, pure_is_count h⟩)
  exact (pss_one (ps_ret (pe_and (pe_callD D_is_whole (hr.mono (by decide)) rfl (pa_cons (pv 0) pa_nil)) (pe_one (pe_cmpR op_ge (pv 0) pe_int (nomark _))))))
abbrev N_check_row : List Str := ["row", "number"]
theorem sc_check_row : FnScope N_check_row ["row"] (defScope s_check_row) := ⟨rfl, rfl, rfl, by decide +kernel, rfl, by decide +kernel, by decide +kernel⟩
theorem ok_X_check_row {f : Addr} {fd : FuncData} (F : FunX K s_check_row "check_row" "check_row" f fd) (gf : mg "check_row" = some (.ref f)) (B : Bl mg) {tG : Tok} (mG : mg "GREATEST" = some (.int 20 tG)) (bBadRow : BadOk K mg "BadRow") (D_is_count : DefOk P w K mg base CX0 2 "is_count" ["thing"] (sp_is_count K)) : DefOk P w K mg base (L2.CX P w) 3 "check_row" ["row"] (sp_X_check_row K) := by
  refine DefOk.of F gf (F.bindsN fun _ _ _ _ _ _ us hl => match us, hl with | [_], _ => rfl) (FunD.ok F sc_check_row (fun vs H Q E h => len_X_check_row h) fun cdv A outer s H vs Q E hr h => ⟨t_X_check_row K w E, ?_, pure_X_check_row h⟩)
  exact (pss_one (ps_if (PT.nox (PW.pt (pw_or (pt_not (pt_val (pe_callB call_isi (by rfl) B.isinstance (by decide +kernel) (pa_cons (pv 0) (pa_cons (pe_bltn (by rfl) B.list (by decide +kernel) rfl) pa_nil))))) (pw_or (pt_cmpR op_gt (pe_callB call_len_seq (by rfl) B.len PySem.boot_len (pa_cons (pv 0) pa_nil)) (pe_glob rfl mG ⟨_, rfl⟩) (nomark _)) (pw_or1 (pt_not (pt_val (pe_callB (cr_all rfl) (by rfl) B.all (by decide +kernel) (pa_cons (pe_lc (own := [("number", 1)]) (g := (gName 1)) rfl sc_check_row.nd (pi_list (pv 0)) (blkOk_by (own := [("number", 1)]) (N := N_check_row) (sc := defScope s_check_row) (by decide +kernel)) (fun _ _ _ _ _ => (pg_name (i := 1) sc_check_row.nd rfl (.inl rfl))) (fun _ _ _ _ _ => pts_nil) (fun _ _ _ _ _ => (pe_callD D_is_count (hr.mono (by decide)) rfl (pa_cons (pv 1) pa_nil)))) pa_nil))))))))) (pss_one (ps_raiseX rfl takes_cx bBadRow rfl)) pss_nil))
abbrev N_check_can : List Str := ["row"]
theorem sc_check_can : FnScope N_check_can ["row"] (defScope s_check_can) := ⟨rfl, rfl, rfl, by decide +kernel, rfl, by decide +kernel, by decide +kernel⟩
theorem ok_X_check_can {f : Addr} {fd : FuncData} (F : FunX K s_check_can "check_can" "check_can" f fd) (gf : mg "check_can" = some (.ref f)) (B : Bl mg) (bBadRow : BadOk K mg "BadRow") (D_X_check_row : DefOk P w K mg base (L2.CX P w) 3 "check_row" ["row"] (sp_X_check_row K)) (D_first_bar : DefOk P w K mg base CX0 5 "first_bar" ["row"] (sp_first_bar K)) : DefOk P w K mg base (L2.CX P w) 6 "check_can" ["row"] (sp_X_check_can K) := by
  refine DefOk.of F gf (F.bindsN fun _ _ _ _ _ _ us hl => match us, hl with | [_], _ => rfl) (FunD.ok F sc_check_can (fun vs H Q E h => len_X_check_can h) fun cdv A outer s H vs Q E hr h => ⟨t_X_check_can K w E, ?_, pure_X_check_can h⟩)
  exact (pss_cons (ps_expr (pe_callDX D_X_check_row (hr.mono (by decide)) rfl takes_cx (pa_cons (pv 0) pa_nil)))
    (pss_one (ps_if (pt_cmpR (op_neD hr.units) (pe_callD D_first_bar (hr.mono (by decide)) rfl (pa_cons (pv 0) pa_nil)) (pe_tup (pa_cons pe_int (pa_cons pe_int pa_nil))) (nomark _)) (pss_one (ps_raiseX rfl takes_cx bBadRow rfl)) pss_nil)))
abbrev N_check_set : List Str := ["some", "one", "other"]
theorem sc_check_set : FnScope N_check_set ["some"] (defScope s_check_set) := ⟨rfl, rfl, rfl, by decide +kernel, rfl, by decide +kernel, by decide +kernel⟩
theorem ok_X_check_set {f : Addr} {fd : FuncData} (F : FunX K s_check_set "check_set" "check_set" f fd) (gf : mg "check_set" = some (.ref f)) (B : Bl mg) {tG : Tok} (mG : mg "GREATEST" = some (.int 20 tG)) (bBadSet : BadOk K mg "BadSet") (D_is_count : DefOk P w K mg base CX0 2 "is_count" ["thing"] (sp_is_count K)) : DefOk P w K mg base (L2.CX P w) 3 "check_set" ["some"] (sp_X_check_set K) := by
  refine DefOk.of F gf (F.bindsN fun _ _ _ _ _ _ us hl => match us, hl with | [_], _ => rfl) (FunD.ok F sc_check_set (fun vs H Q E h => len_X_check_set h) fun cdv A outer s H vs Q E hr h => ⟨t_X_check_set K w E, ?_, pure_X_check_set h⟩)
  exact (pss_cons (ps_if (PT.nox (PW.pt (pw_or (pt_not (pt_val (pe_callB call_isi (by rfl) B.isinstance (by decide +kernel) (pa_cons (pv 0) (pa_cons (pe_bltn (by rfl) B.list (by decide +kernel) rfl) pa_nil))))) (pw_or (pt_cmpR op_gt (pe_callB call_len_seq (by rfl) B.len PySem.boot_len (pa_cons (pv 0) pa_nil)) (pe_glob rfl mG ⟨_, rfl⟩) (nomark _)) (pw_or1 (pt_not (pt_val (pe_callB (cr_all rfl) (by rfl) B.all (by decide +kernel) (pa_cons (pe_lc (own := [("one", 1)]) (g := (gName 1)) rfl sc_check_set.nd (pi_list (pv 0)) (blkOk_by (own := [("one", 1)]) (N := N_check_set) (sc := defScope s_check_set) (by decide +kernel)) (fun _ _ _ _ _ => (pg_name (i := 1) sc_check_set.nd rfl (.inl rfl))) (fun _ _ _ _ _ => pts_nil) (fun _ _ _ _ _ => (pe_callD D_is_count (hr.mono (by decide)) rfl (pa_cons (pv 1) pa_nil)))) pa_nil))))))))) (pss_one (ps_raiseX rfl takes_cx bBadSet rfl)) pss_nil)
    (pss_one (ps_if (PT.nox (pt_val (pe_callB (cr_any rfl) (by rfl) B.any (by decide +kernel) (pa_cons (pe_lc (own := [("one", 1), ("other", 2)]) (g := (gTup K 2 (gCons (gName 1) (gCons (gName 2) gNil)))) rfl sc_check_set.nd (pi_zip (by rfl) B.zip (pa_cons (pv 0) (pa_cons (pe_slice sl_list (pv 0) (po_some pe_int) po_none) pa_nil))) (blkOk_by (own := [("one", 1), ("other", 2)]) (N := N_check_set) (sc := defScope s_check_set) (by decide +kernel)) (fun _ _ _ _ _ => (pg_tup rfl (pgs_cons (pg_name (i := 1) sc_check_set.nd rfl (.inl rfl)) (pgs_cons (pg_name (i := 2) sc_check_set.nd rfl (.inl rfl)) pgs_nil)))) (fun _ _ _ _ _ => pts_nil) (fun _ _ _ _ _ => (pe_cmpR op_le (pv 1) (pv 2) (nomark _)))) pa_nil)))) (pss_one (ps_raiseX rfl takes_cx bBadSet rfl)) pss_nil)))
abbrev N_place_of : List Str := ["some", "at", "one"]
theorem sc_place_of : FnScope N_place_of ["some"] (defScope s_place_of) := ⟨rfl, rfl, rfl, by decide +kernel, rfl, by decide +kernel, by decide +kernel⟩
theorem ok_place_of {f : Addr} {fd : FuncData} (F : FunX K s_place_of "place_of" "place_of" f fd) (gf : mg "place_of" = some (.ref f)) (B : Bl mg) (D_picks : DefOk P w K mg base CX0 1 "picks" ["many", "size"] (sp_picks K)) : DefOk P w K mg base CX0 2 "place_of" ["some"] (sp_place_of K) := by
  refine DefOk.of F gf (F.bindsN fun _ _ _ _ _ _ us hl => match us, hl with | [_], _ => rfl) (FunD.ok F sc_place_of (fun vs H Q E h => len_place_of h) fun cdv A outer s H vs Q E hr h => ⟨t_place_of K w, PSs.nox ?_, pure_place_of h⟩)
  exact (pss_one (ps_ret (pe_callB (cr_sum rfl) (by rfl) B.sum (by decide +kernel) (pa_cons (pe_lc (own := [("at", 1), ("one", 2)]) (g := (gTup K 2 (gCons (gName 1) (gCons (gName 2) gNil)))) rfl sc_place_of.nd (pi_enum (by rfl) B.enumerate (pa_cons (pv 0) pa_nil)) (blkOk_by (own := [("at", 1), ("one", 2)]) (N := N_place_of) (sc := defScope s_place_of) (by decide +kernel)) (fun _ _ _ _ _ => (pg_tup rfl (pgs_cons (pg_name (i := 1) sc_place_of.nd rfl (.inl rfl)) (pgs_cons (pg_name (i := 2) sc_place_of.nd rfl (.inl rfl)) pgs_nil)))) (fun _ _ _ _ _ => pts_nil) (fun _ _ _ _ _ => (pe_callD D_picks (hr.mono (by decide)) rfl (pa_cons (pv 2) (pa_cons (pe_op op_sub (pe_callB call_len_seq (by rfl) B.len PySem.boot_len (pa_cons (pv 0) pa_nil)) (pv 1)) pa_nil))))) pa_nil))))
abbrev N_has : List Str := ["row", "some"]
theorem sc_has : FnScope N_has ["row", "some"] (defScope s_has) := ⟨rfl, rfl, rfl, by decide +kernel, rfl, by decide +kernel, by decide +kernel⟩
theorem ok_X_has {f : Addr} {fd : FuncData} (F : FunX K s_has "has" "has" f fd) (gf : mg "has" = some (.ref f)) (B : Bl mg) (D_X_check_can : DefOk P w K mg base (L2.CX P w) 6 "check_can" ["row"] (sp_X_check_can K)) (D_X_check_set : DefOk P w K mg base (L2.CX P w) 3 "check_set" ["some"] (sp_X_check_set K)) (D_place_of : DefOk P w K mg base CX0 2 "place_of" ["some"] (sp_place_of K)) : DefOk P w K mg base (L2.CX P w) 7 "has" ["row", "some"] (sp_X_has K) := by
  refine DefOk.of F gf (F.bindsN fun _ _ _ _ _ _ us hl => match us, hl with | [_, _], _ => rfl) (FunD.ok F sc_has (fun vs H Q E h => len_X_has h) fun cdv A outer s H vs Q E hr h => ⟨t_X_has K w E, ?_, pure_X_has h⟩)
  exact (pss_cons (ps_expr (pe_callDX D_X_check_can (hr.mono (by decide)) rfl takes_cx (pa_cons (pv 0) pa_nil)))
    (pss_cons (ps_expr (pe_callDX D_X_check_set (hr.mono (by decide)) rfl takes_cx (pa_cons (pv 1) pa_nil)))
    (pss_cons (ps_if (pt_cmpR op_eq (pe_callB call_len_seq (by rfl) B.len PySem.boot_len (pa_cons (pv 1) pa_nil)) pe_int (nomark _)) (pss_one (ps_ret pe_bl)) pss_nil)
    (pss_one (ps_ret (pe_and (pe_cmpR op_le (pe_callB call_len_seq (by rfl) B.len PySem.boot_len (pa_cons (pv 1) pa_nil)) (pe_callB call_len_seq (by rfl) B.len PySem.boot_len (pa_cons (pv 0) pa_nil)) (nomark _)) (pe_one (pe_cmpR op_lt (pe_callD D_place_of (hr.mono (by decide)) rfl (pa_cons (pv 1) pa_nil)) (pe_ix ix_list (pv 0) (pe_op op_sub (pe_callB call_len_seq (by rfl) B.len PySem.boot_len (pa_cons (pv 1) pa_nil)) pe_int) (fun _ _ => rfl)) (nomark _)))))))))
abbrev N_most : List Str := ["row"]
theorem sc_most : FnScope N_most ["row"] (defScope s_most) := ⟨rfl, rfl, rfl, by decide +kernel, rfl, by decide +kernel, by decide +kernel⟩
theorem ok_X_most {f : Addr} {fd : FuncData} (F : FunX K s_most "most" "most" f fd) (gf : mg "most" = some (.ref f)) (B : Bl mg) {tG : Tok} (mG : mg "GREATEST" = some (.int 20 tG)) (bBadRow : BadOk K mg "BadRow") (D_X_check_can : DefOk P w K mg base (L2.CX P w) 6 "check_can" ["row"] (sp_X_check_can K)) (D_moved : DefOk P w K mg base CX0 4 "moved" ["size", "many", "by"] (sp_moved K)) : DefOk P w K mg base (L2.CX P w) 7 "most" ["row"] (sp_X_most K) := by
  refine DefOk.of F gf (F.bindsN fun _ _ _ _ _ _ us hl => match us, hl with | [_], _ => rfl) (FunD.ok F sc_most (fun vs H Q E h => len_X_most h) fun cdv A outer s H vs Q E hr h => ⟨t_X_most K w E, ?_, pure_X_most h⟩)
  exact (pss_cons (ps_expr (pe_callDX D_X_check_can (hr.mono (by decide)) rfl takes_cx (pa_cons (pv 0) pa_nil)))
    (pss_cons (ps_if (pt_not (pt_chain op_le op_lt pe_int (pe_callB call_len_seq (by rfl) B.len PySem.boot_len (pa_cons (pv 0) pa_nil)) (pe_glob rfl mG ⟨_, rfl⟩))) (pss_one (ps_raiseX rfl takes_cx bBadRow rfl)) pss_nil)
    (pss_one (ps_ret (pe_callD D_moved (hr.mono (by decide)) rfl (pa_cons (pe_callB call_len_seq (by rfl) B.len PySem.boot_len (pa_cons (pv 0) pa_nil)) (pa_cons (pe_ix ix_list (pv 0) (pe_un un_neg pe_int) (fun _ _ => rfl)) (pa_cons pe_int pa_nil))))))))
abbrev N__law_next : List Str := ["_law_door", "_law_row"]
theorem sc__law_next : FnScope N__law_next ["_law_door", "_law_row"] (defScope s__law_next) := ⟨rfl, rfl, rfl, by decide +kernel, rfl, by decide +kernel, by decide +kernel⟩
theorem ok_X__law_next {f : Addr} {fd : FuncData} (F : FunX K s__law_next "_law_next" "_law_next" f fd) (gf : mg "_law_next" = some (.ref f)) (B : Bl mg) (D_X_has : DefOk P w K mg base (L2.CX P w) 7 "has" ["row", "some"] (sp_X_has K)) (D_X_most : DefOk P w K mg base (L2.CX P w) 7 "most" ["row"] (sp_X_most K)) : DefOk P w K mg base (L2.CX P w) 8 "_law_next" ["_law_door", "_law_row"] (sp_X__law_next K) := by
  refine DefOk.of F gf (F.bindsN fun _ _ _ _ _ _ us hl => match us, hl with | [_, _], _ => rfl) (FunD.ok F sc__law_next (fun vs H Q E h => len_X__law_next h) fun cdv A outer s H vs Q E hr h => ⟨t_X__law_next K w E, ?_, pure_X__law_next h⟩)
  exact (pss_one (ps_ret (pe_ifExp (pt_cmpR op_eq (pv 0) pe_int (nomark _)) (pe_callDX D_X_has (hr.mono (by decide)) rfl takes_cx (pa_cons (pv 1) (pa_cons (pe_lst (pa_cons pe_int (pa_cons pe_int pa_nil))) pa_nil))) (pe_callDX D_X_most (hr.mono (by decide)) rfl takes_cx (pa_cons (pv 1) pa_nil)))))
abbrev N_check_count : List Str := ["number"]
theorem sc_check_count : FnScope N_check_count ["number"] (defScope s_check_count) := ⟨rfl, rfl, rfl, by decide +kernel, rfl, by decide +kernel, by decide +kernel⟩
theorem ok_X_check_count {f : Addr} {fd : FuncData} (F : FunX K s_check_count "check_count" "check_count" f fd) (gf : mg "check_count" = some (.ref f)) (B : Bl mg) (bBadNumber : BadOk K mg "BadNumber") (D_is_count : DefOk P w K mg base CX0 2 "is_count" ["thing"] (sp_is_count K)) : DefOk P w K mg base (L2.CX P w) 3 "check_count" ["number"] (sp_X_check_count K) := by
  refine DefOk.of F gf (F.bindsN fun _ _ _ _ _ _ us hl => match us, hl with | [_], _ => rfl) (FunD.ok F sc_check_count (fun vs H Q E h => len_X_check_count h) fun cdv A outer s H vs Q E hr h => ⟨t_X_check_count K w E, ?_, pure_X_check_count h⟩)
  exact (pss_one (ps_if (pt_not (pt_val (pe_callD D_is_count (hr.mono (by decide)) rfl (pa_cons (pv 0) pa_nil)))) (pss_one (ps_raiseX rfl takes_cx bBadNumber rfl)) pss_nil))
abbrev N_check_size : List Str := ["size", "low", "high"]
theorem sc_check_size : FnScope N_check_size ["size", "low", "high"] (defScope s_check_size) := ⟨rfl, rfl, rfl, by decide +kernel, rfl, by decide +kernel, by decide +kernel⟩
theorem ok_X_check_size {f : Addr} {fd : FuncData} (F : FunX K s_check_size "check_size" "check_size" f fd) (gf : mg "check_size" = some (.ref f)) (B : Bl mg) (bBadSize : BadOk K mg "BadSize") (D_is_whole : DefOk P w K mg base CX0 1 "is_whole" ["thing"] (sp_is_whole K)) : DefOk P w K mg base (L2.CX P w) 2 "check_size" ["size", "low", "high"] (sp_X_check_size K) := by
  refine DefOk.of F gf (F.bindsN fun _ _ _ _ _ _ us hl => match us, hl with | [_, _, _], _ => rfl) (FunD.ok F sc_check_size (fun vs H Q E h => len_X_check_size h) fun cdv A outer s H vs Q E hr h => ⟨t_X_check_size K w E, ?_, pure_X_check_size h⟩)
  exact (pss_one (ps_if (PW.pt (pw_or (pt_not (pt_val (pe_callD D_is_whole (hr.mono (by decide)) rfl (pa_cons (pv 0) pa_nil)))) (pw_or1 (pt_not (pt_chain op_le op_le (pv 1) (pv 0) (pv 2)))))) (pss_one (ps_raiseX rfl takes_cx bBadSize rfl)) pss_nil))
abbrev N_set_of : List Str := ["size", "number"]
theorem sc_set_of : FnScope N_set_of ["size", "number"] (defScope s_set_of) := ⟨rfl, rfl, rfl, by decide +kernel, rfl, by decide +kernel, by decide +kernel⟩
theorem ok_X_set_of {f : Addr} {fd : FuncData} (F : FunX K s_set_of "set_of" "set_of" f fd) (gf : mg "set_of" = some (.ref f)) (B : Bl mg) {tG : Tok} (mG : mg "GREATEST" = some (.int 20 tG)) (bBadNumber : BadOk K mg "BadNumber") (D_X_check_count : DefOk P w K mg base (L2.CX P w) 3 "check_count" ["number"] (sp_X_check_count K)) (D_X_check_size : DefOk P w K mg base (L2.CX P w) 2 "check_size" ["size", "low", "high"] (sp_X_check_size K)) (D_told_by : DefOk P w K mg base CX0 3 "told_by" ["size", "number"] (sp_told_by K)) : DefOk P w K mg base (L2.CX P w) 4 "set_of" ["size", "number"] (sp_X_set_of K) := by
  refine DefOk.of F gf (F.bindsN fun _ _ _ _ _ _ us hl => match us, hl with | [_, _], _ => rfl) (FunD.ok F sc_set_of (fun vs H Q E h => len_X_set_of h) fun cdv A outer s H vs Q E hr h => ⟨t_X_set_of K w E, ?_, pure_X_set_of h⟩)
  exact (pss_cons (ps_expr (pe_callDX D_X_check_size (hr.mono (by decide)) rfl takes_cx (pa_cons (pv 0) (pa_cons pe_int (pa_cons (pe_glob rfl mG ⟨_, rfl⟩) pa_nil)))))
    (pss_cons (ps_expr (pe_callDX D_X_check_count (hr.mono (by decide)) rfl takes_cx (pa_cons (pv 1) pa_nil)))
    (pss_cons (ps_if (PW.pt (pw_and (pt_cmpR op_eq (pv 0) pe_int (nomark _)) (pw_and1 (pt_cmpR op_gt (pv 1) pe_int (nomark _))))) (pss_one (ps_raiseX rfl takes_cx bBadNumber rfl)) pss_nil)
    (pss_one (ps_ret (pe_callD D_told_by (hr.mono (by decide)) rfl (pa_cons (pv 0) (pa_cons (pv 1) pa_nil))))))))
abbrev N__law_of_none : List Str := ["_law_door", "_law_number"]
theorem sc__law_of_none : FnScope N__law_of_none ["_law_door", "_law_number"] (defScope s__law_of_none) := ⟨rfl, rfl, rfl, by decide +kernel, rfl, by decide +kernel, by decide +kernel⟩
theorem ok_X__law_of_none {f : Addr} {fd : FuncData} (F : FunX K s__law_of_none "_law_of_none" "_law_of_none" f fd) (gf : mg "_law_of_none" = some (.ref f)) (B : Bl mg) (D_X_set_of : DefOk P w K mg base (L2.CX P w) 4 "set_of" ["size", "number"] (sp_X_set_of K)) : DefOk P w K mg base (L2.CX P w) 5 "_law_of_none" ["_law_door", "_law_number"] (sp_X__law_of_none K) := by
  refine DefOk.of F gf (F.bindsN fun _ _ _ _ _ _ us hl => match us, hl with | [_, _], _ => rfl) (FunD.ok F sc__law_of_none (fun vs H Q E h => len_X__law_of_none h) fun cdv A outer s H vs Q E hr h => ⟨t_X__law_of_none K w E, ?_, pure_X__law_of_none h⟩)
  exact (pss_one (ps_ret (pe_callDX D_X_set_of (hr.mono (by decide)) rfl takes_cx (pa_cons (pv 0) (pa_cons (pv 1) pa_nil)))))
abbrev N_over : List Str := ["size", "many"]
theorem sc_over : FnScope N_over ["size", "many"] (defScope s_over) := ⟨rfl, rfl, rfl, by decide +kernel, rfl, by decide +kernel, by decide +kernel⟩
theorem ok_X_over {f : Addr} {fd : FuncData} (F : FunX K s_over "over" "over" f fd) (gf : mg "over" = some (.ref f)) (B : Bl mg) {tG : Tok} (mG : mg "GREATEST" = some (.int 20 tG)) (D_X_check_count : DefOk P w K mg base (L2.CX P w) 3 "check_count" ["number"] (sp_X_check_count K)) (D_X_check_size : DefOk P w K mg base (L2.CX P w) 2 "check_size" ["size", "low", "high"] (sp_X_check_size K)) (D_moved : DefOk P w K mg base CX0 4 "moved" ["size", "many", "by"] (sp_moved K)) : DefOk P w K mg base (L2.CX P w) 5 "over" ["size", "many"] (sp_X_over K) := by
  refine DefOk.of F gf (F.bindsN fun _ _ _ _ _ _ us hl => match us, hl with | [_, _], _ => rfl) (FunD.ok F sc_over (fun vs H Q E h => len_X_over h) fun cdv A outer s H vs Q E hr h => ⟨t_X_over K w E, ?_, pure_X_over h⟩)
  exact (pss_cons (ps_expr (pe_callDX D_X_check_size (hr.mono (by decide)) rfl takes_cx (pa_cons (pv 0) (pa_cons pe_int (pa_cons (pe_op op_sub (pe_glob rfl mG ⟨_, rfl⟩) pe_int) pa_nil)))))
    (pss_cons (ps_expr (pe_callDX D_X_check_count (hr.mono (by decide)) rfl takes_cx (pa_cons (pv 1) pa_nil)))
    (pss_one (ps_ret (pe_callD D_moved (hr.mono (by decide)) rfl (pa_cons (pv 0) (pa_cons (pv 1) (pa_cons pe_int pa_nil))))))))
abbrev N_under : List Str := ["size", "many"]
theorem sc_under : FnScope N_under ["size", "many"] (defScope s_under) := ⟨rfl, rfl, rfl, by decide +kernel, rfl, by decide +kernel, by decide +kernel⟩
theorem ok_X_under {f : Addr} {fd : FuncData} (F : FunX K s_under "under" "under" f fd) (gf : mg "under" = some (.ref f)) (B : Bl mg) {tG : Tok} (mG : mg "GREATEST" = some (.int 20 tG)) (D_X_check_count : DefOk P w K mg base (L2.CX P w) 3 "check_count" ["number"] (sp_X_check_count K)) (D_X_check_size : DefOk P w K mg base (L2.CX P w) 2 "check_size" ["size", "low", "high"] (sp_X_check_size K)) (D_moved : DefOk P w K mg base CX0 4 "moved" ["size", "many", "by"] (sp_moved K)) : DefOk P w K mg base (L2.CX P w) 5 "under" ["size", "many"] (sp_X_under K) := by
  refine DefOk.of F gf (F.bindsN fun _ _ _ _ _ _ us hl => match us, hl with | [_, _], _ => rfl) (FunD.ok F sc_under (fun vs H Q E h => len_X_under h) fun cdv A outer s H vs Q E hr h => ⟨t_X_under K w E, ?_, pure_X_under h⟩)
  exact (pss_cons (ps_expr (pe_callDX D_X_check_size (hr.mono (by decide)) rfl takes_cx (pa_cons (pv 0) (pa_cons pe_int (pa_cons (pe_glob rfl mG ⟨_, rfl⟩) pa_nil)))))
    (pss_cons (ps_expr (pe_callDX D_X_check_count (hr.mono (by decide)) rfl takes_cx (pa_cons (pv 1) pa_nil)))
    (pss_one (ps_ret (pe_callD D_moved (hr.mono (by decide)) rfl (pa_cons (pv 0) (pa_cons (pv 1) (pa_cons (pe_un un_neg pe_int) pa_nil))))))))
abbrev N__law_with_number : List Str := ["_law_door", "_law_number"]
theorem sc__law_with_number : FnScope N__law_with_number ["_law_door", "_law_number"] (defScope s__law_with_number) := ⟨rfl, rfl, rfl, by decide +kernel, rfl, by decide +kernel, by decide +kernel⟩
theorem ok_X__law_with_number {f : Addr} {fd : FuncData} (F : FunX K s__law_with_number "_law_with_number" "_law_with_number" f fd) (gf : mg "_law_with_number" = some (.ref f)) (B : Bl mg) (D_X_over : DefOk P w K mg base (L2.CX P w) 5 "over" ["size", "many"] (sp_X_over K)) (D_X_set_of : DefOk P w K mg base (L2.CX P w) 4 "set_of" ["size", "number"] (sp_X_set_of K)) (D_X_under : DefOk P w K mg base (L2.CX P w) 5 "under" ["size", "many"] (sp_X_under K)) : DefOk P w K mg base (L2.CX P w) 6 "_law_with_number" ["_law_door", "_law_number"] (sp_X__law_with_number K) := by
  refine DefOk.of F gf (F.bindsN fun _ _ _ _ _ _ us hl => match us, hl with | [_, _], _ => rfl) (FunD.ok F sc__law_with_number (fun vs H Q E h => len_X__law_with_number h) fun cdv A outer s H vs Q E hr h => ⟨t_X__law_with_number K w E, ?_, pure_X__law_with_number h⟩)
  exact (pss_one (ps_ret (pe_ifExp (pt_cmpR op_eq (pv 0) pe_int (nomark _)) (pe_callDX D_X_set_of (hr.mono (by decide)) rfl takes_cx (pa_cons pe_int (pa_cons (pv 1) pa_nil))) (pe_ifExp (pt_cmpR op_eq (pv 0) pe_int (nomark _)) (pe_callDX D_X_under (hr.mono (by decide)) rfl takes_cx (pa_cons pe_int (pa_cons (pv 1) pa_nil))) (pe_callDX D_X_over (hr.mono (by decide)) rfl takes_cx (pa_cons pe_int (pa_cons (pv 1) pa_nil)))))))
abbrev N_Barred_init : List Str := ["self", "size", "most"]
theorem sc_Barred_init : FnScope N_Barred_init ["self", "size", "most"] (defScope s_Barred_init) := ⟨rfl, rfl, rfl, by decide +kernel, rfl, by decide +kernel, by decide +kernel⟩
theorem ok_Barred_init {f : Addr} {fd : FuncData} (F : FunX K s_Barred_init "__init__" "Barred.__init__" f fd) (gf : mg "Barred" = some (.ref (cBar K))) (M : Mk K (cBar K) f) (B : Bl mg)  : MakOk P w K mg base CX0 1 "Barred" (cBar K) ["self", "size", "most"] (sp_Barred_init K) := by
  refine ⟨f, fd, gf, M, F.bindsN fun _ _ _ _ _ _ us hl => match us, hl with | [_, _, _], _ => rfl, FunD.ok F sc_Barred_init (fun vs H Q E h => len_Barred_init h) fun cdv A outer s H vs Q E hr h => ⟨t_Barred_init K w, PSs.nox ?_, pure_Barred_init h⟩⟩
  exact (pss_cons (ps_fld (pv 0) (pv 1) rfl)
    (pss_one (ps_fld (pv 0) (pv 2) rfl)))
abbrev N_told : List Str := ["row", "size", "greatest"]
theorem sc_told : FnScope N_told ["row"] (defScope s_told) := ⟨rfl, rfl, rfl, by decide +kernel, rfl, by decide +kernel, by decide +kernel⟩
theorem ok_X_told {f : Addr} {fd : FuncData} (F : FunX K s_told "told" "told" f fd) (gf : mg "told" = some (.ref f)) (B : Bl mg) (mCan : mg "Can" = some (.ref (cCan K))) (M0 : Mk0 K (cCan K)) (D_Barred_init : MakOk P w K mg base CX0 1 "Barred" (cBar K) ["self", "size", "most"] (sp_Barred_init K)) (D_X_check_row : DefOk P w K mg base (L2.CX P w) 3 "check_row" ["row"] (sp_X_check_row K)) (D_first_bar : DefOk P w K mg base CX0 5 "first_bar" ["row"] (sp_first_bar K)) : DefOk P w K mg base (L2.CX P w) 6 "told" ["row"] (sp_X_told K) := by
  refine DefOk.of F gf (F.bindsN fun _ _ _ _ _ _ us hl => match us, hl with | [_], _ => rfl) (FunD.ok F sc_told (fun vs H Q E h => len_X_told h) fun cdv A outer s H vs Q E hr h => ⟨t_X_told K w E, ?_, pure_X_told h⟩)
  exact (pss_cons (ps_expr (pe_callDX D_X_check_row (hr.mono (by decide)) rfl takes_cx (pa_cons (pv 0) pa_nil)))
    (pss_cons (ps_asg (pe_callD D_first_bar (hr.mono (by decide)) rfl (pa_cons (pv 0) pa_nil)) (pg_tup rfl (pgs_cons (pg_name (i := 1) sc_told.nd rfl (.inl rfl)) (pgs_cons (pg_name (i := 2) sc_told.nd rfl (.inl rfl)) pgs_nil))))
    (pss_cons (ps_if (pt_cmpR op_gt (pv 1) pe_int (nomark _)) (pss_one (ps_ret (pe_makD D_Barred_init (hr.mono (by decide)) rfl (pa_cons (pv 1) (pa_cons (pv 2) pa_nil))))) pss_nil)
    (pss_one (ps_ret (pe_made0 M0 rfl mCan))))))
abbrev N__law_with_row : List Str := ["_law_door", "_law_row"]
theorem sc__law_with_row : FnScope N__law_with_row ["_law_door", "_law_row"] (defScope s__law_with_row) := ⟨rfl, rfl, rfl, by decide +kernel, rfl, by decide +kernel, by decide +kernel⟩
theorem ok_X__law_with_row {f : Addr} {fd : FuncData} (F : FunX K s__law_with_row "_law_with_row" "_law_with_row" f fd) (gf : mg "_law_with_row" = some (.ref f)) (B : Bl mg) (D_X_has : DefOk P w K mg base (L2.CX P w) 7 "has" ["row", "some"] (sp_X_has K)) (D_X_most : DefOk P w K mg base (L2.CX P w) 7 "most" ["row"] (sp_X_most K)) (D_X_told : DefOk P w K mg base (L2.CX P w) 6 "told" ["row"] (sp_X_told K)) : DefOk P w K mg base (L2.CX P w) 8 "_law_with_row" ["_law_door", "_law_row"] (sp_X__law_with_row K) := by
  refine DefOk.of F gf (F.bindsN fun _ _ _ _ _ _ us hl => match us, hl with | [_, _], _ => rfl) (FunD.ok F sc__law_with_row (fun vs H Q E h => len_X__law_with_row h) fun cdv A outer s H vs Q E hr h => ⟨t_X__law_with_row K w E, ?_, pure_X__law_with_row h⟩)
  exact (pss_one (ps_ret (pe_ifExp (pt_cmpR op_eq (pv 0) pe_int (nomark _)) (pe_callDX D_X_told (hr.mono (by decide)) rfl takes_cx (pa_cons (pv 1) pa_nil)) (pe_ifExp (pt_cmpR op_eq (pv 0) pe_int (nomark _)) (pe_callDX D_X_has (hr.mono (by decide)) rfl takes_cx (pa_cons (pv 1) (pa_cons pe_non pa_nil))) (pe_callDX D_X_most (hr.mono (by decide)) rfl takes_cx (pa_cons (pv 1) pa_nil))))))
abbrev N_beneath : List Str := ["some", "at"]
theorem sc_beneath : FnScope N_beneath ["some"] (defScope s_beneath) := ⟨rfl, rfl, rfl, by decide +kernel, rfl, by decide +kernel, by decide +kernel⟩
theorem ok_X_beneath {f : Addr} {fd : FuncData} (F : FunX K s_beneath "beneath" "beneath" f fd) (gf : mg "beneath" = some (.ref f)) (B : Bl mg) (D_X_check_set : DefOk P w K mg base (L2.CX P w) 3 "check_set" ["some"] (sp_X_check_set K)) : DefOk P w K mg base (L2.CX P w) 4 "beneath" ["some"] (sp_X_beneath K) := by
  refine DefOk.of F gf (F.bindsN fun _ _ _ _ _ _ us hl => match us, hl with | [_], _ => rfl) (FunD.ok F sc_beneath (fun vs H Q E h => len_X_beneath h) fun cdv A outer s H vs Q E hr h => ⟨t_X_beneath K w E, ?_, pure_X_beneath h⟩)
  exact (pss_cons (ps_expr (pe_callDX D_X_check_set (hr.mono (by decide)) rfl takes_cx (pa_cons (pv 0) pa_nil)))
    (pss_one (ps_ret (PE.nox (pe_lc (own := [("at", 1)]) (g := (gName 1)) rfl sc_beneath.nd (pi_range1 (by rfl) B.range (pa_cons (pe_callB call_len_seq (by rfl) B.len PySem.boot_len (pa_cons (pv 0) pa_nil)) pa_nil)) (blkOk_by (own := [("at", 1)]) (N := N_beneath) (sc := defScope s_beneath) (by decide +kernel)) (fun _ _ _ _ _ => (pg_name (i := 1) sc_beneath.nd rfl (.inl rfl))) (fun _ _ _ _ _ => pts_nil) (fun _ _ _ _ _ => (pe_op op_cat (pe_slice sl_list (pv 0) po_none (po_some (pv 1))) (pe_slice sl_list (pv 0) (po_some (pe_op op_add (pv 1) pe_int)) po_none))))))))
abbrev N_number_of : List Str := ["some"]
theorem sc_number_of : FnScope N_number_of ["some"] (defScope s_number_of) := ⟨rfl, rfl, rfl, by decide +kernel, rfl, by decide +kernel, by decide +kernel⟩
theorem ok_X_number_of {f : Addr} {fd : FuncData} (F : FunX K s_number_of "number_of" "number_of" f fd) (gf : mg "number_of" = some (.ref f)) (B : Bl mg) (D_X_check_set : DefOk P w K mg base (L2.CX P w) 3 "check_set" ["some"] (sp_X_check_set K)) (D_place_of : DefOk P w K mg base CX0 2 "place_of" ["some"] (sp_place_of K)) : DefOk P w K mg base (L2.CX P w) 4 "number_of" ["some"] (sp_X_number_of K) := by
  refine DefOk.of F gf (F.bindsN fun _ _ _ _ _ _ us hl => match us, hl with | [_], _ => rfl) (FunD.ok F sc_number_of (fun vs H Q E h => len_X_number_of h) fun cdv A outer s H vs Q E hr h => ⟨t_X_number_of K w E, ?_, pure_X_number_of h⟩)
  exact (pss_cons (ps_expr (pe_callDX D_X_check_set (hr.mono (by decide)) rfl takes_cx (pa_cons (pv 0) pa_nil)))
    (pss_one (ps_ret (pe_callD D_place_of (hr.mono (by decide)) rfl (pa_cons (pv 0) pa_nil)))))
abbrev N__law_with_set : List Str := ["_law_door", "_law_some"]
theorem sc__law_with_set : FnScope N__law_with_set ["_law_door", "_law_some"] (defScope s__law_with_set) := ⟨rfl, rfl, rfl, by decide +kernel, rfl, by decide +kernel, by decide +kernel⟩
theorem ok_X__law_with_set {f : Addr} {fd : FuncData} (F : FunX K s__law_with_set "_law_with_set" "_law_with_set" f fd) (gf : mg "_law_with_set" = some (.ref f)) (B : Bl mg) (D_X_beneath : DefOk P w K mg base (L2.CX P w) 4 "beneath" ["some"] (sp_X_beneath K)) (D_X_has : DefOk P w K mg base (L2.CX P w) 7 "has" ["row", "some"] (sp_X_has K)) (D_X_number_of : DefOk P w K mg base (L2.CX P w) 4 "number_of" ["some"] (sp_X_number_of K)) : DefOk P w K mg base (L2.CX P w) 8 "_law_with_set" ["_law_door", "_law_some"] (sp_X__law_with_set K) := by
  refine DefOk.of F gf (F.bindsN fun _ _ _ _ _ _ us hl => match us, hl with | [_, _], _ => rfl) (FunD.ok F sc__law_with_set (fun vs H Q E h => len_X__law_with_set h) fun cdv A outer s H vs Q E hr h => ⟨t_X__law_with_set K w E, ?_, pure_X__law_with_set h⟩)
  exact (pss_cons (ps_if (pt_cmpR op_lt (pv 0) pe_int (nomark _)) (pss_one (ps_ret (pe_ifExp (pt_cmpR op_eq (pv 0) pe_int (nomark _)) (pe_callDX D_X_number_of (hr.mono (by decide)) rfl takes_cx (pa_cons (pv 1) pa_nil)) (pe_callDX D_X_beneath (hr.mono (by decide)) rfl takes_cx (pa_cons (pv 1) pa_nil))))) pss_nil)
    (pss_one (ps_ret (pe_ifExp (pt_cmpR op_eq (pv 0) pe_int (nomark _)) (pe_callDX D_X_has (hr.mono (by decide)) rfl takes_cx (pa_cons (pe_lst (pa_cons pe_int (pa_cons pe_int pa_nil))) (pa_cons (pv 1) pa_nil))) (pe_callDX D_X_has (hr.mono (by decide)) rfl takes_cx (pa_cons (pe_lst pa_nil) (pa_cons (pv 1) pa_nil)))))))
abbrev N__law_with_size : List Str := ["_law_door", "_law_size"]
theorem sc__law_with_size : FnScope N__law_with_size ["_law_door", "_law_size"] (defScope s__law_with_size) := ⟨rfl, rfl, rfl, by decide +kernel, rfl, by decide +kernel, by decide +kernel⟩
theorem ok_X__law_with_size {f : Addr} {fd : FuncData} (F : FunX K s__law_with_size "_law_with_size" "_law_with_size" f fd) (gf : mg "_law_with_size" = some (.ref f)) (B : Bl mg) (D_X_over : DefOk P w K mg base (L2.CX P w) 5 "over" ["size", "many"] (sp_X_over K)) (D_X_set_of : DefOk P w K mg base (L2.CX P w) 4 "set_of" ["size", "number"] (sp_X_set_of K)) (D_X_under : DefOk P w K mg base (L2.CX P w) 5 "under" ["size", "many"] (sp_X_under K)) : DefOk P w K mg base (L2.CX P w) 6 "_law_with_size" ["_law_door", "_law_size"] (sp_X__law_with_size K) := by
  refine DefOk.of F gf (F.bindsN fun _ _ _ _ _ _ us hl => match us, hl with | [_, _], _ => rfl) (FunD.ok F sc__law_with_size (fun vs H Q E h => len_X__law_with_size h) fun cdv A outer s H vs Q E hr h => ⟨t_X__law_with_size K w E, ?_, pure_X__law_with_size h⟩)
  exact (pss_one (ps_ret (pe_ifExp (pt_cmpR op_eq (pv 0) pe_int (nomark _)) (pe_callDX D_X_set_of (hr.mono (by decide)) rfl takes_cx (pa_cons (pv 1) (pa_cons (pe_un un_neg pe_int) pa_nil))) (pe_ifExp (pt_cmpR op_eq (pv 0) pe_int (nomark _)) (pe_callDX D_X_under (hr.mono (by decide)) rfl takes_cx (pa_cons (pv 1) (pa_cons pe_non pa_nil))) (pe_callDX D_X_over (hr.mono (by decide)) rfl takes_cx (pa_cons (pv 1) (pa_cons (pe_un un_neg pe_int) pa_nil)))))))
abbrev N__law_told : List Str := ["_law_ask", "_law_door", "_law_thing", "_law_error"]
theorem sc__law_told : FnScope N__law_told ["_law_ask", "_law_door", "_law_thing"] (defScope s__law_told) := ⟨rfl, rfl, rfl, by decide +kernel, rfl, by decide +kernel, by decide +kernel⟩
theorem ok__law_told {f : Addr} {fd : FuncData} (F : FunX K s__law_told "_law_told" "_law_told" f fd) (gf : mg "_law_told" = some (.ref f)) (B : Bl mg) (mSE : mg "SetsError" = some (.ref (He.ga K "SetsError"))) (g__law_with_set : mg "_law_with_set" = some (.ref (He.ga K "_law_with_set"))) (g__law_with_size : mg "_law_with_size" = some (.ref (He.ga K "_law_with_size"))) (g__law_with_number : mg "_law_with_number" = some (.ref (He.ga K "_law_with_number"))) (g__law_with_row : mg "_law_with_row" = some (.ref (He.ga K "_law_with_row"))) (g__law_next : mg "_law_next" = some (.ref (He.ga K "_law_next"))) (g__law_of_none : mg "_law_of_none" = some (.ref (He.ga K "_law_of_none"))) (D_X__law_with_set : DefOk P w K mg base (L2.CX P w) 8 "_law_with_set" ["_law_door", "_law_some"] (sp_X__law_with_set K)) (D_X__law_with_size : DefOk P w K mg base (L2.CX P w) 6 "_law_with_size" ["_law_door", "_law_size"] (sp_X__law_with_size K)) (D_X__law_with_number : DefOk P w K mg base (L2.CX P w) 6 "_law_with_number" ["_law_door", "_law_number"] (sp_X__law_with_number K)) (D_X__law_with_row : DefOk P w K mg base (L2.CX P w) 8 "_law_with_row" ["_law_door", "_law_row"] (sp_X__law_with_row K)) (D_X__law_next : DefOk P w K mg base (L2.CX P w) 8 "_law_next" ["_law_door", "_law_row"] (sp_X__law_next K)) (D_X__law_of_none : DefOk P w K mg base (L2.CX P w) 5 "_law_of_none" ["_law_door", "_law_number"] (sp_X__law_of_none K)) (D__law_kinds : KindsOk P w K mg base) : DefOk P w K mg base CX0 9 "_law_told" ["_law_ask", "_law_door", "_law_thing"] (sp__law_told K) := by
  refine DefOk.of F gf (F.bindsN fun _ _ _ _ _ _ us hl => match us, hl with | [_, _, _], _ => rfl) (FunD.ok F sc__law_told (fun vs H Q E h => len__law_told h) fun cdv A outer s H vs Q E hr h => ⟨t__law_told K w, ?_, pure__law_told h⟩)
  exact pss_cons (ps_try_as (X := cxOf CX0 P w K mg base N__law_told "_law_told" (defScope s__law_told) f cdv A outer s H E) (c := .ref (He.ga K "SetsError")) (i := 3) (tb := fun W => tDrop (tAsk K W)) (ts := ts_told K) (Wout := fun _ _ _ _ => False) rfl rfl sc__law_told.nd rfl rfl ⟨rfl, by decide, .inl mSE⟩ takes0 (fun W pn xe tk _ => pss_one (ps_expr (PE.or (pe_askL (i := 0) D_X__law_with_set g__law_with_set (hr.mono (by decide)) tk rfl (.inl rfl) (pa_cons (pv 1) (pa_cons (pv 2) pa_nil))) (PE.or (pe_askL (i := 0) D_X__law_with_size g__law_with_size (hr.mono (by decide)) tk rfl (.inl rfl) (pa_cons (pv 1) (pa_cons (pv 2) pa_nil))) (PE.or (pe_askL (i := 0) D_X__law_with_number g__law_with_number (hr.mono (by decide)) tk rfl (.inl rfl) (pa_cons (pv 1) (pa_cons (pv 2) pa_nil))) (PE.or (pe_askL (i := 0) D_X__law_with_row g__law_with_row (hr.mono (by decide)) tk rfl (.inl rfl) (pa_cons (pv 1) (pa_cons (pv 2) pa_nil))) (PE.or (pe_askL (i := 0) D_X__law_next g__law_next (hr.mono (by decide)) tk rfl (.inl rfl) (pa_cons (pv 1) (pa_cons (pv 2) pa_nil))) (pe_askL (i := 0) D_X__law_of_none g__law_of_none (hr.mono (by decide)) tk rfl (.inl rfl) (pa_cons (pv 1) (pa_cons (pv 2) pa_nil)))))))))) (fun a oe cls d pn hz hf => pss_one (ps_ret (pe_kinds (X := cxOf CX0 P w K mg base N__law_told "_law_told" (defScope s__law_told) f cdv A outer s H E) (i := 3) D__law_kinds hr (by decide) rfl rfl (.inl rfl) hz hf))))
    (pss_one (ps_ret (pe_lst pa_nil)))
abbrev N__law_all : List Str := ["_law_ask", "_law_doors", "_law_things", "_law_due", "_law_door", "_law_thing"]
theorem sc__law_all : FnScope N__law_all ["_law_ask", "_law_doors", "_law_things", "_law_due"] (defScope s__law_all) := ⟨rfl, rfl, rfl, by decide +kernel, rfl, by decide +kernel, by decide +kernel⟩
theorem ok__law_all {f : Addr} {fd : FuncData} (F : FunX K s__law_all "_law_all" "_law_all" f fd) (gf : mg "_law_all" = some (.ref f)) (B : Bl mg) (D__law_told : DefOk P w K mg base CX0 9 "_law_told" ["_law_ask", "_law_door", "_law_thing"] (sp__law_told K)) : DefOk P w K mg base CX0 10 "_law_all" ["_law_ask", "_law_doors", "_law_things", "_law_due"] (sp__law_all K) := by
  refine DefOk.of F gf (F.bindsN fun _ _ _ _ _ _ us hl => match us, hl with | [_, _, _, _], _ => rfl) (FunD.ok F sc__law_all (fun vs H Q E h => len__law_all h) fun cdv A outer s H vs Q E hr h => ⟨t__law_all K w, PSs.nox ?_, pure__law_all h⟩)
  exact (pss_cons (ps_for PassesOwn.never rfl (pi_list (pv 1)) (pg_name (i := 4) sc__law_all.nd rfl (.inr rfl)) (pss_one (ps_if (pt_not (pt_val (pe_callB (cr_all rfl) (by rfl) B.all (by decide +kernel) (pa_cons (pe_lc (own := [("_law_thing", 5)]) (g := (gName 5)) rfl sc__law_all.nd (pi_list (pv 2)) (blkOk_by (own := [("_law_thing", 5)]) (N := N__law_all) (sc := defScope s__law_all) (by decide +kernel)) (fun _ _ _ _ _ => (pg_name (i := 5) sc__law_all.nd rfl (.inl rfl))) (fun _ _ _ _ _ => pts_nil) (fun _ _ _ _ _ => (pe_cmpR (op_eqD hr.units) (pe_callD D__law_told (hr.mono (by decide)) rfl (pa_cons (pv 0) (pa_cons (pv 4) (pa_cons (pv 5) pa_nil)))) (pv 3) (nomark _)))) pa_nil)))) (pss_one (ps_ret pe_bl)) pss_nil)))
    (pss_one (ps_ret pe_bl)))
abbrev N__law_cell_at : List Str := ["_law_script", "_law_k"]
theorem sc__law_cell_at : FnScope N__law_cell_at ["_law_script", "_law_k"] (defScope s__law_cell_at) := ⟨rfl, rfl, rfl, by decide +kernel, rfl, by decide +kernel, by decide +kernel⟩
theorem ok__law_cell_at {f : Addr} {fd : FuncData} (F : FunX K s__law_cell_at "_law_cell_at" "_law_cell_at" f fd) (gf : mg "_law_cell_at" = some (.ref f)) (B : Bl mg)  : DefOk P w K mg base CX0 1 "_law_cell_at" ["_law_script", "_law_k"] (sp__law_cell_at K) := by
  refine DefOk.of F gf (F.bindsN fun _ _ _ _ _ _ us hl => match us, hl with | [_, _], _ => rfl) (FunD.ok F sc__law_cell_at (fun vs H Q E h => len__law_cell_at h) fun cdv A outer s H vs Q E hr h => ⟨t__law_cell_at K w, PSs.nox ?_, pure__law_cell_at h⟩)
  exact (pss_cons (ps_if (pt_cmpR op_lt (pv 1) (pe_callB call_len_seq (by rfl) B.len PySem.boot_len (pa_cons (pv 0) pa_nil)) (nomark _)) (pss_one (ps_ret (pe_ix ix_list (pv 0) (pv 1) (fun _ _ => rfl)))) pss_nil)
    (pss_one (ps_ret pe_int)))
abbrev N_law : List Str := ["_law_script", "_law_far", "_law_due", "_law_k", "_law_bad", "_law_strange", "_law_rows", "_law_barred"]
theorem sc_law : FnScope N_law ["_law_script"] (defScope s_law) := ⟨rfl, rfl, rfl, by decide +kernel, rfl, by decide +kernel, by decide +kernel⟩
theorem ok_law {f : Addr} {fd : FuncData} (F : FunX K s_law "law" "law" f fd) (B : Bl mg) (g__law_with_set : mg "_law_with_set" = some (.ref (He.ga K "_law_with_set"))) (g__law_with_size : mg "_law_with_size" = some (.ref (He.ga K "_law_with_size"))) (g__law_with_number : mg "_law_with_number" = some (.ref (He.ga K "_law_with_number"))) (g__law_with_row : mg "_law_with_row" = some (.ref (He.ga K "_law_with_row"))) (g__law_next : mg "_law_next" = some (.ref (He.ga K "_law_next"))) (g__law_of_none : mg "_law_of_none" = some (.ref (He.ga K "_law_of_none"))) (D_Can_shows : MetOk P w K mg base CX0 6 (cCan K) "shows" ["self", "row"] (sp_Can_shows K)) (D__law_all : DefOk P w K mg base CX0 10 "_law_all" ["_law_ask", "_law_doors", "_law_things", "_law_due"] (sp__law_all K)) (D__law_cell_at : DefOk P w K mg base CX0 1 "_law_cell_at" ["_law_script", "_law_k"] (sp__law_cell_at K)) (D_X_has : DefOk P w K mg base (L2.CX P w) 7 "has" ["row", "some"] (sp_X_has K)) (D_X_most : DefOk P w K mg base (L2.CX P w) 7 "most" ["row"] (sp_X_most K)) (D_X_number_of : DefOk P w K mg base (L2.CX P w) 4 "number_of" ["some"] (sp_X_number_of K)) (D_X_over : DefOk P w K mg base (L2.CX P w) 5 "over" ["size", "many"] (sp_X_over K)) (D_X_set_of : DefOk P w K mg base (L2.CX P w) 4 "set_of" ["size", "number"] (sp_X_set_of K)) (D_X_told : DefOk P w K mg base (L2.CX P w) 6 "told" ["row"] (sp_X_told K)) (D_X_under : DefOk P w K mg base (L2.CX P w) 5 "under" ["size", "many"] (sp_X_under K)) : FnOk P w K mg base CX0 11 f fd ["_law_script"] (sp_law K) := by
  refine FunD.ok F sc_law (fun vs H Q E h => len_law h) fun cdv A outer s H vs Q E hr h => ⟨t_law K w, PSs.nox ?_, pure_law h⟩
  exact (pss_cons (ps_set (i := 1) sc_law.nd rfl (.inl rfl) (pe_op op_mod (pe_callB call_abs (by rfl) B.abs (by decide +kernel) (pa_cons (pe_callD D__law_cell_at (hr.mono (by decide)) rfl (pa_cons (pv 0) (pa_cons pe_int pa_nil))) pa_nil)) (pe_op op_pow pe_int pe_int)))
    (pss_cons (ps_set (i := 2) sc_law.nd rfl (.inl rfl) (pe_lst pa_nil))
    (pss_cons (ps_for PassesOwn.never rfl (pi_range1 (by rfl) B.range (pa_cons pe_int pa_nil)) (pg_name (i := 3) sc_law.nd rfl (.inl rfl)) (pss_one (ps_expr (pe_bm PySem.F.plainAttrs_list PySem.F.slot_list_append PySem.F.type_list_append mt_append (pv 2) (pa_cons (pe_lst (pa_cons (pe_cmpR op_eq (pv 3) pe_int (nomark _)) (pa_cons (pe_cmpR op_eq (pv 3) pe_int (nomark _)) (pa_cons (pe_cmpR op_eq (pv 3) pe_int (nomark _)) (pa_cons (pe_cmpR op_eq (pv 3) pe_int (nomark _)) (pa_cons pe_bl pa_nil)))))) pa_nil)))))
    (pss_cons (ps_set (i := 4) sc_law.nd rfl (.inl rfl) (pe_lst (pa_cons pe_non (pa_cons (pe_tup pa_nil) (pa_cons (pe_tup (pa_cons pe_int (pa_cons pe_int pa_nil))) (pa_cons pe_str (pa_cons pe_dnewK (pa_cons pe_int (pa_cons (pe_lst (pa_cons pe_non pa_nil)) (pa_cons (pe_lst (pa_cons pe_str pa_nil)) (pa_cons (pe_lst (pa_cons pe_bl pa_nil)) (pa_cons (pe_lst (pa_cons pe_int (pa_cons pe_bl pa_nil))) (pa_cons (pe_lst (pa_cons (pe_lst (pa_cons pe_int pa_nil)) pa_nil)) (pa_cons (pe_lst (pa_cons pe_int (pa_cons pe_int pa_nil))) (pa_cons (pe_lst (pa_cons pe_int (pa_cons pe_int pa_nil))) (pa_cons (pe_lst (pa_cons (pe_un un_neg pe_int) pa_nil)) (pa_cons (pe_lst (pa_cons pe_int (pa_cons (pe_op op_sub (pe_un un_neg pe_int) (pv 1)) pa_nil))) pa_nil)))))))))))))))))
    (pss_cons (ps_set (i := 4) sc_law.nd rfl (.inl rfl) (pe_op op_cat (pv 4) (pe_lst (pa_cons (pe_lst (pa_cons (pv 1) (pa_cons (pe_op op_add (pv 1) pe_int) pa_nil))) (pa_cons (pe_lst (pa_cons (pe_op op_add (pv 1) pe_int) (pa_cons pe_int (pa_cons pe_int pa_nil)))) (pa_cons (pe_listR3 rfl (by rfl) B.list (by rfl) B.range (pa_cons pe_int (pa_cons (pe_un un_neg pe_int) (pa_cons (pe_un un_neg pe_int) pa_nil)))) (pa_cons (pe_listR3 rfl (by rfl) B.list (by rfl) B.range (pa_cons (pe_op op_add pe_int (pe_op op_mod (pv 1) pe_int)) (pa_cons (pe_un un_neg pe_int) (pa_cons (pe_un un_neg pe_int) pa_nil)))) pa_nil)))))))
    (pss_cons (ps_expr (pe_bm PySem.F.plainAttrs_list PySem.F.slot_list_append PySem.F.type_list_append mt_append (pv 4) (pa_cons (pe_lst (pa_cons pe_int (pa_cons pe_int (pa_cons pe_non pa_nil)))) pa_nil)))
    (pss_cons (ps_if (pt_not (pt_val (pe_callD D__law_all (hr.mono (by decide)) rfl (pa_cons (pe_glob rfl g__law_with_set rfl) (pa_cons (pe_lst (pa_cons pe_int (pa_cons pe_int (pa_cons pe_int (pa_cons pe_int pa_nil))))) (pa_cons (pv 4) (pa_cons (pe_ix ix_list (pv 2) pe_int (fun _ _ => rfl)) pa_nil))))))) (pss_one (ps_ret pe_bl)) pss_nil)
    (pss_cons (ps_set (i := 5) sc_law.nd rfl (.inl rfl) (pe_lst (pa_cons pe_non (pa_cons pe_str (pa_cons pe_bl (pa_cons pe_bl (pa_cons (pe_lst (pa_cons pe_int pa_nil)) (pa_cons (pe_tup (pa_cons pe_int pa_nil)) (pa_cons pe_dnewK pa_nil)))))))))
    (pss_cons (ps_if (pt_not (pt_val (pe_callD D__law_all (hr.mono (by decide)) rfl (pa_cons (pe_glob rfl g__law_with_size rfl) (pa_cons (pe_lst (pa_cons pe_int pa_nil)) (pa_cons (pe_op op_cat (pv 5) (pe_lst (pa_cons (pe_un un_neg pe_int) (pa_cons (pe_op op_sub (pe_un un_neg pe_int) (pv 1)) (pa_cons pe_int (pa_cons (pe_op op_add pe_int (pv 1)) pa_nil)))))) (pa_cons (pe_ix ix_list (pv 2) pe_int (fun _ _ => rfl)) pa_nil))))))) (pss_one (ps_ret pe_bl)) pss_nil)
    (pss_cons (ps_if (pt_not (pt_val (pe_callD D__law_all (hr.mono (by decide)) rfl (pa_cons (pe_glob rfl g__law_with_size rfl) (pa_cons (pe_lst (pa_cons pe_int (pa_cons pe_int pa_nil))) (pa_cons (pe_op op_cat (pv 5) (pe_lst (pa_cons pe_int (pa_cons (pe_un un_neg pe_int) (pa_cons (pe_op op_sub (pe_un un_neg pe_int) (pv 1)) (pa_cons pe_int (pa_cons (pe_op op_add pe_int (pv 1)) pa_nil))))))) (pa_cons (pe_ix ix_list (pv 2) pe_int (fun _ _ => rfl)) pa_nil))))))) (pss_one (ps_ret pe_bl)) pss_nil)
    (pss_cons (ps_if (PW.pt (pw_or (pt_not (pt_val (pe_callD D__law_all (hr.mono (by decide)) rfl (pa_cons (pe_glob rfl g__law_with_size rfl) (pa_cons (pe_lst (pa_cons pe_int pa_nil)) (pa_cons (pe_lst (pa_cons pe_int pa_nil)) (pa_cons (pe_ix ix_list (pv 2) pe_int (fun _ _ => rfl)) pa_nil))))))) (pw_or1 (pt_not (pt_val (pe_callD D__law_all (hr.mono (by decide)) rfl (pa_cons (pe_glob rfl g__law_with_number rfl) (pa_cons (pe_lst (pa_cons pe_int (pa_cons pe_int (pa_cons pe_int pa_nil)))) (pa_cons (pv 5) (pa_cons (pe_ix ix_list (pv 2) pe_int (fun _ _ => rfl)) pa_nil)))))))))) (pss_one (ps_ret pe_bl)) pss_nil)
    (pss_cons (ps_if (pt_not (pt_val (pe_callD D__law_all (hr.mono (by decide)) rfl (pa_cons (pe_glob rfl g__law_with_number rfl) (pa_cons (pe_lst (pa_cons pe_int (pa_cons pe_int (pa_cons pe_int pa_nil)))) (pa_cons (pe_lst (pa_cons (pe_un un_neg pe_int) (pa_cons (pe_op op_sub (pe_un un_neg pe_int) (pv 1)) pa_nil))) (pa_cons (pe_ix ix_list (pv 2) pe_int (fun _ _ => rfl)) pa_nil))))))) (pss_one (ps_ret pe_bl)) pss_nil)
    (pss_cons (ps_if (pt_not (pt_val (pe_callD D__law_all (hr.mono (by decide)) rfl (pa_cons (pe_glob rfl g__law_of_none rfl) (pa_cons (pe_lst (pa_cons pe_int pa_nil)) (pa_cons (pe_lst (pa_cons pe_int (pa_cons (pe_op op_add pe_int (pv 1)) (pa_cons (pe_un un_neg pe_int) (pa_cons pe_non pa_nil))))) (pa_cons (pe_ix ix_list (pv 2) pe_int (fun _ _ => rfl)) pa_nil))))))) (pss_one (ps_ret pe_bl)) pss_nil)
    (pss_cons (ps_set (i := 6) sc_law.nd rfl (.inl rfl) (pe_lst (pa_cons pe_non (pa_cons (pe_tup pa_nil) (pa_cons (pe_tup (pa_cons pe_int pa_nil)) (pa_cons pe_str (pa_cons pe_dnewK (pa_cons pe_int (pa_cons (pe_lst (pa_cons pe_non pa_nil)) (pa_cons (pe_lst (pa_cons pe_str pa_nil)) (pa_cons (pe_lst (pa_cons pe_bl pa_nil)) (pa_cons (pe_lst (pa_cons pe_int (pa_cons pe_bl pa_nil))) (pa_cons (pe_lst (pa_cons (pe_lst (pa_cons pe_int pa_nil)) pa_nil)) (pa_cons (pe_lst (pa_cons (pe_un un_neg pe_int) pa_nil)) (pa_cons (pe_lst (pa_cons pe_int (pa_cons (pe_op op_sub (pe_un un_neg pe_int) (pv 1)) pa_nil))) (pa_cons (pe_op op_rep (pe_lst (pa_cons pe_int pa_nil)) pe_int) pa_nil))))))))))))))))
    (pss_cons (ps_if (pt_not (pt_val (pe_callD D__law_all (hr.mono (by decide)) rfl (pa_cons (pe_glob rfl g__law_with_row rfl) (pa_cons (pe_lst (pa_cons pe_int (pa_cons pe_int (pa_cons pe_int pa_nil)))) (pa_cons (pe_op op_cat (pv 6) (pe_lst (pa_cons (pe_lst (pa_cons pe_int (pa_cons pe_int (pa_cons pe_non pa_nil)))) (pa_cons (pe_lst (pa_cons pe_int (pa_cons (pe_tup (pa_cons pe_int pa_nil)) pa_nil))) pa_nil)))) (pa_cons (pe_ix ix_list (pv 2) pe_int (fun _ _ => rfl)) pa_nil))))))) (pss_one (ps_ret pe_bl)) pss_nil)
    (pss_cons (ps_set (i := 7) sc_law.nd rfl (.inl rfl) (pe_lst (pa_cons (pe_lst (pa_cons pe_int (pa_cons pe_int pa_nil))) (pa_cons (pe_lst (pa_cons pe_int (pa_cons (pe_op op_add pe_int (pv 1)) pa_nil))) (pa_cons (pe_lst (pa_cons pe_int (pa_cons pe_int (pa_cons pe_int pa_nil)))) (pa_cons (pe_lst (pa_cons pe_int (pa_cons pe_int (pa_cons pe_int (pa_cons pe_int (pa_cons pe_int pa_nil)))))) (pa_cons (pe_lst (pa_cons pe_int (pa_cons pe_int (pa_cons pe_int pa_nil)))) (pa_cons (pe_lst (pa_cons pe_int (pa_cons (pe_op op_add pe_int (pv 1)) (pa_cons pe_int pa_nil)))) pa_nil))))))))
    (pss_cons (ps_if (PW.pt (pw_or (pt_not (pt_val (pe_callD D__law_all (hr.mono (by decide)) rfl (pa_cons (pe_glob rfl g__law_next rfl) (pa_cons (pe_lst (pa_cons pe_int (pa_cons pe_int pa_nil))) (pa_cons (pv 7) (pa_cons (pe_ix ix_list (pv 2) pe_int (fun _ _ => rfl)) pa_nil))))))) (pw_or1 (pt_not (pt_val (pe_callD D__law_all (hr.mono (by decide)) rfl (pa_cons (pe_glob rfl g__law_with_row rfl) (pa_cons (pe_lst (pa_cons pe_int pa_nil)) (pa_cons (pe_lst (pa_cons (pe_lst pa_nil) (pa_cons (pe_op op_rep (pe_lst (pa_cons pe_int pa_nil)) pe_int) pa_nil))) (pa_cons (pe_ix ix_list (pv 2) pe_int (fun _ _ => rfl)) pa_nil)))))))))) (pss_one (ps_ret pe_bl)) pss_nil)
    (pss_cons (ps_if (PW.pt (pw_or (pt_cmpR op_notBl (pe_metD D_Can_shows (hr.mono (by decide)) (pe_callD0 D_X_told (hr.mono (by decide)) rfl (pa_cons (pe_op op_rep (pe_lst (pa_cons pe_int pa_nil)) pe_int) pa_nil)) (pa_cons (pe_op op_rep (pe_lst (pa_cons pe_int pa_nil)) pe_int) pa_nil)) pe_bl (nomark _)) (pw_or1 (pt_cmpR op_ne (pe_callD0 D_X_number_of (hr.mono (by decide)) rfl (pa_cons (pe_listR3 rfl (by rfl) B.list (by rfl) B.range (pa_cons pe_int (pa_cons (pe_un un_neg pe_int) (pa_cons (pe_un un_neg pe_int) pa_nil)))) pa_nil)) pe_int (nomark _))))) (pss_one (ps_ret pe_bl)) pss_nil)
    (pss_one (ps_ret (pe_and (pe_callD0 D_X_has (hr.mono (by decide)) rfl (pa_cons (pe_op op_rep (pe_lst (pa_cons pe_int pa_nil)) pe_int) (pa_cons (pe_lst pa_nil) pa_nil))) (pe_and (pe_cmpR op_eq (pe_callD0 D_X_most (hr.mono (by decide)) rfl (pa_cons (pe_op op_rep (pe_lst (pa_cons pe_int pa_nil)) pe_int) pa_nil)) pe_int (nomark _)) (pe_and (pe_cmpR op_gt (pe_ix ix_list (pe_callD0 D_X_set_of (hr.mono (by decide)) rfl (pa_cons pe_int (pa_cons (pv 1) pa_nil))) pe_int (fun _ _ => rfl)) pe_int (nomark _)) (pe_one (pe_chain op_eq op_eq (pe_callD0 D_X_under (hr.mono (by decide)) rfl (pa_cons pe_int (pa_cons pe_int pa_nil))) pe_int (pe_callD0 D_X_over (hr.mono (by decide)) rfl (pa_cons pe_int (pa_cons pe_int pa_nil))))))))))))))))))))))))))))
end
def xs : List (PySem.W.Frag → Bool) := [mk0Test, kndTest 0, kndTest 1, kndTest 2, kndTest 3]
def loose : List Str := (["SetsError", "BadSet", "BadSize", "BadNumber", "BadRow", "GREATEST", "is_whole", "is_count", "check_set", "check_size", "check_count", "picks"] : List Str) ++ (["place_of", "first_of", "told_by", "number_of", "set_of", "beneath", "moved", "under", "over", "Answer", "first_bar", "Can"] : List Str) ++ (["Barred", "check_row", "check_can", "told", "has", "most", "_law_cell_at", "_law_kinds", "_law_with_set", "_law_with_size", "_law_with_number", "_law_with_row"] : List Str) ++ (["_law_next", "_law_of_none", "_law_told", "_law_all"] : List Str)
abbrev R : PySem.W.OpenRow := PySem.W.OpenLaw.row PySem.Challenge.rw_shadowrow_k05_refused
abbrev hk : PySem.W.Hook := hookX 4 fa fn xs
def ob (s : PySem.W.SharedT) : AlX := obsXG 4 fa fn xs (HandSHeadRun.getT s)
theorem ob_eq (s : PySem.W.SharedT) : ob s = hk.obs s.abs := obsXG_eq (HandSHeadRun.getT_eq s)
set_option maxHeartbeats 0 in
theorem run (w : World) : HandSHeadRun.RunEq R (PySem.W.view R.prog [46]) hk ob 3000 loose w := by
  intro os
  kernel_rfl
theorem facts {l : PySem.W.OpenLaw} {w : World} {K : PySem.W.Frag} {h : Heap} {mg : Str → Option Value} {f : Addr} (X : K.In h) (G : h.Ns mainGlobals mg) (hfa : mg ("law" : Str) = some (.ref f)) (c : SaysX fa fn xs K) :
    (CF K ∧ ∀ i, i < 4 → Knd K i) ∧ ∃ fd : FuncData, (∀ (s : Shared) (v : Value), BindsTo s fd ⟨[v], []⟩ [("_law_script", v)]) ∧ ∀ base : Heap, K.In base → base.Ns mainGlobals mg → FnOk l.prog w K mg base CX0 11 f fd ["_law_script"] (sp_law K) := by
  have B : Bl mg := ⟨He.free_ok X G (c.d.fact 32 (f := .free "len") rfl), He.free_ok X G (c.d.fact 33 (f := .free "range") rfl), He.free_ok X G (c.d.fact 34 (f := .free "isinstance") rfl), He.free_ok X G (c.d.fact 35 (f := .free "all") rfl), He.free_ok X G (c.d.fact 36 (f := .free "any") rfl), He.free_ok X G (c.d.fact 37 (f := .free "zip") rfl), He.free_ok X G (c.d.fact 38 (f := .free "enumerate") rfl), He.free_ok X G (c.d.fact 39 (f := .free "sum") rfl), He.free_ok X G (c.d.fact 40 (f := .free "sorted") rfl), He.free_ok X G (c.d.fact 41 (f := .free "set") rfl), He.free_ok X G (c.d.fact 42 (f := .free "list") rfl), He.free_ok X G (c.d.fact 43 (f := .free "max") rfl), He.free_ok X G (c.d.fact 44 (f := .free "min") rfl), He.free_ok X G (c.d.fact 45 (f := .free "abs") rfl), He.free_ok X G (c.d.fact 46 (f := .free "int") rfl), He.free_ok X G (c.d.fact 47 (f := .free "bool") rfl)⟩
  obtain ⟨tG, mG⟩ := He.int_ok X G (c.d.fact 49 (f := .int "GREATEST" 20) rfl)
  obtain ⟨fd_is_whole, F_is_whole⟩ := c.d.def_ 0 (d := d_is_whole) rfl
  obtain ⟨fd_is_count, F_is_count⟩ := c.d.def_ 1 (d := d_is_count) rfl
  obtain ⟨fd_check_set, F_check_set⟩ := c.d.def_ 2 (d := d_check_set) rfl
  obtain ⟨fd_check_size, F_check_size⟩ := c.d.def_ 3 (d := d_check_size) rfl
  obtain ⟨fd_check_count, F_check_count⟩ := c.d.def_ 4 (d := d_check_count) rfl
  obtain ⟨fd_picks, F_picks⟩ := c.d.def_ 5 (d := d_picks) rfl
  obtain ⟨fd_place_of, F_place_of⟩ := c.d.def_ 6 (d := d_place_of) rfl
  obtain ⟨fd_first_of, F_first_of⟩ := c.d.def_ 7 (d := d_first_of) rfl
  obtain ⟨fd_told_by, F_told_by⟩ := c.d.def_ 8 (d := d_told_by) rfl
  obtain ⟨fd_number_of, F_number_of⟩ := c.d.def_ 9 (d := d_number_of) rfl
  obtain ⟨fd_set_of, F_set_of⟩ := c.d.def_ 10 (d := d_set_of) rfl
  obtain ⟨fd_beneath, F_beneath⟩ := c.d.def_ 11 (d := d_beneath) rfl
  obtain ⟨fd_moved, F_moved⟩ := c.d.def_ 12 (d := d_moved) rfl
  obtain ⟨fd_under, F_under⟩ := c.d.def_ 13 (d := d_under) rfl
  obtain ⟨fd_over, F_over⟩ := c.d.def_ 14 (d := d_over) rfl
  obtain ⟨fd_first_bar, F_first_bar⟩ := c.d.def_ 15 (d := d_first_bar) rfl
  obtain ⟨fd_Can_shows, F_Can_shows⟩ := c.d.def_ 16 (d := d_Can_shows) rfl
  obtain ⟨fd_Barred_init, F_Barred_init⟩ := c.d.def_ 17 (d := d_Barred_init) rfl
  obtain ⟨fd_Barred_shows, F_Barred_shows⟩ := c.d.def_ 18 (d := d_Barred_shows) rfl
  obtain ⟨fd_check_row, F_check_row⟩ := c.d.def_ 19 (d := d_check_row) rfl
  obtain ⟨fd_check_can, F_check_can⟩ := c.d.def_ 20 (d := d_check_can) rfl
  obtain ⟨fd_told, F_told⟩ := c.d.def_ 21 (d := d_told) rfl
  obtain ⟨fd_has, F_has⟩ := c.d.def_ 22 (d := d_has) rfl
  obtain ⟨fd_most, F_most⟩ := c.d.def_ 23 (d := d_most) rfl
  obtain ⟨fd__law_cell_at, F__law_cell_at⟩ := c.d.def_ 24 (d := d__law_cell_at) rfl
  obtain ⟨fd__law_kinds, F__law_kinds⟩ := c.d.def_ 25 (d := d__law_kinds) rfl
  obtain ⟨fd__law_with_set, F__law_with_set⟩ := c.d.def_ 26 (d := d__law_with_set) rfl
  obtain ⟨fd__law_with_size, F__law_with_size⟩ := c.d.def_ 27 (d := d__law_with_size) rfl
  obtain ⟨fd__law_with_number, F__law_with_number⟩ := c.d.def_ 28 (d := d__law_with_number) rfl
  obtain ⟨fd__law_with_row, F__law_with_row⟩ := c.d.def_ 29 (d := d__law_with_row) rfl
  obtain ⟨fd__law_next, F__law_next⟩ := c.d.def_ 30 (d := d__law_next) rfl
  obtain ⟨fd__law_of_none, F__law_of_none⟩ := c.d.def_ 31 (d := d__law_of_none) rfl
  obtain ⟨fd__law_told, F__law_told⟩ := c.d.def_ 32 (d := d__law_told) rfl
  obtain ⟨fd__law_all, F__law_all⟩ := c.d.def_ 33 (d := d__law_all) rfl
  obtain ⟨fd_law, F_law⟩ := c.d.def_ 34 (d := d_law) rfl
  have e := hfa.symm.trans (He.glo_ok X G (c.d.fact 31 (f := .glo "law") rfl))
  cases e
  have mCan := He.glo_ok X G (c.d.fact 65 (f := .glo "Can") rfl)
  have mBarred := He.glo_ok X G (c.d.fact 68 (f := .glo "Barred") rfl)
  have mAnswer := He.glo_ok X G (c.d.fact 63 (f := .glo "Answer") rfl)
  have bBadSet : BadOk K mg "BadSet" := ⟨He.glo_ok X G (c.d.fact 51 (f := .glo "BadSet") rfl), (He.exc_ok (c.d.fact 52 (f := .exc "BadSet") rfl)).1, (He.exc_ok (c.d.fact 52 (f := .exc "BadSet") rfl)).2.1, (He.exc_ok (c.d.fact 52 (f := .exc "BadSet") rfl)).2.2.1, (He.exc_ok (c.d.fact 52 (f := .exc "BadSet") rfl)).2.2.2⟩
  have bBadSize : BadOk K mg "BadSize" := ⟨He.glo_ok X G (c.d.fact 54 (f := .glo "BadSize") rfl), (He.exc_ok (c.d.fact 55 (f := .exc "BadSize") rfl)).1, (He.exc_ok (c.d.fact 55 (f := .exc "BadSize") rfl)).2.1, (He.exc_ok (c.d.fact 55 (f := .exc "BadSize") rfl)).2.2.1, (He.exc_ok (c.d.fact 55 (f := .exc "BadSize") rfl)).2.2.2⟩
  have bBadNumber : BadOk K mg "BadNumber" := ⟨He.glo_ok X G (c.d.fact 57 (f := .glo "BadNumber") rfl), (He.exc_ok (c.d.fact 58 (f := .exc "BadNumber") rfl)).1, (He.exc_ok (c.d.fact 58 (f := .exc "BadNumber") rfl)).2.1, (He.exc_ok (c.d.fact 58 (f := .exc "BadNumber") rfl)).2.2.1, (He.exc_ok (c.d.fact 58 (f := .exc "BadNumber") rfl)).2.2.2⟩
  have bBadRow : BadOk K mg "BadRow" := ⟨He.glo_ok X G (c.d.fact 60 (f := .glo "BadRow") rfl), (He.exc_ok (c.d.fact 61 (f := .exc "BadRow") rfl)).1, (He.exc_ok (c.d.fact 61 (f := .exc "BadRow") rfl)).2.1, (He.exc_ok (c.d.fact 61 (f := .exc "BadRow") rfl)).2.2.1, (He.exc_ok (c.d.fact 61 (f := .exc "BadRow") rfl)).2.2.2⟩
  have g__law_with_set := He.glo_ok X G (c.d.fact 23 (f := .glo "_law_with_set") rfl)
  have g__law_with_size := He.glo_ok X G (c.d.fact 24 (f := .glo "_law_with_size") rfl)
  have g__law_with_number := He.glo_ok X G (c.d.fact 25 (f := .glo "_law_with_number") rfl)
  have g__law_with_row := He.glo_ok X G (c.d.fact 26 (f := .glo "_law_with_row") rfl)
  have g__law_next := He.glo_ok X G (c.d.fact 27 (f := .glo "_law_next") rfl)
  have g__law_of_none := He.glo_ok X G (c.d.fact 28 (f := .glo "_law_of_none") rfl)
  have mSE := He.glo_ok X G (c.d.fact 50 (f := .glo "SetsError") rfl)
  have mVE := He.free_ok X G (c.d.fact 48 (f := .free "ValueError") rfl)
  have kn : ∀ i, i < 4 → Knd K i := fun i hi => match i, hi with | 0, _ => knd_of (c.x (t := kndTest 0) (List.mem_of_getElem? (i := 1) rfl)) | 1, _ => knd_of (c.x (t := kndTest 1) (List.mem_of_getElem? (i := 2) rfl)) | 2, _ => knd_of (c.x (t := kndTest 2) (List.mem_of_getElem? (i := 3) rfl)) | 3, _ => knd_of (c.x (t := kndTest 3) (List.mem_of_getElem? (i := 4) rfl))
  have M0 : Mk0 K (cCan K) := mk0_of (c.x (t := mk0Test) (List.mem_of_getElem? (i := 0) rfl))
  have clCan : Cls K (cCan K) := He.cls_ok (c.d.fact 66 (f := .cls "Can") rfl)
  have clBarred : Cls K (cBar K) := He.cls_ok (c.d.fact 69 (f := .cls "Barred") rfl)
  have cf : CF K := ⟨clCan, clBarred, He.noat_ok (c.d.fact 72 (f := .noat "Barred" "size") rfl), He.noat_ok (c.d.fact 73 (f := .noat "Barred" "most") rfl)⟩
  refine ⟨⟨cf, kn⟩, ⟨fd_law, fun s v => FunD.bindsA (ps := ["_law_script"]) F_law (fun _ _ _ _ _ _ us hl => match us, hl with | [_], _ => rfl) s [v] rfl, fun base _ _ => ?_⟩⟩
  have D_picks : DefOk l.prog w K mg base CX0 1 "picks" ["many", "size"] (sp_picks K) := ok_picks F_picks (He.glo_ok X G (c.d.fact 5 (f := .glo "picks") rfl)) B 
  have D_first_of : DefOk l.prog w K mg base CX0 2 "first_of" ["size", "number"] (sp_first_of K) := ok_first_of F_first_of (He.glo_ok X G (c.d.fact 7 (f := .glo "first_of") rfl)) B D_picks
  have D_told_by : DefOk l.prog w K mg base CX0 3 "told_by" ["size", "number"] (sp_told_by K) := ok_told_by F_told_by (He.glo_ok X G (c.d.fact 8 (f := .glo "told_by") rfl)) B D_first_of D_picks
  have D_moved : DefOk l.prog w K mg base CX0 4 "moved" ["size", "many", "by"] (sp_moved K) := ok_moved F_moved (He.glo_ok X G (c.d.fact 12 (f := .glo "moved") rfl)) B D_picks D_told_by
  have D_first_bar : DefOk l.prog w K mg base CX0 5 "first_bar" ["row"] (sp_first_bar K) := ok_first_bar F_first_bar (He.glo_ok X G (c.d.fact 15 (f := .glo "first_bar") rfl)) B D_moved
  have D_Can_shows : MetOk l.prog w K mg base CX0 6 (cCan K) "shows" ["self", "row"] (sp_Can_shows K) := ok_Can_shows F_Can_shows clCan (He.meth_ok (c.d.fact 67 (f := .meth "Can" "shows") rfl)) B D_first_bar
  have D__law_kinds : KindsOk l.prog w K mg base := ok__law_kinds F__law_kinds (He.glo_ok X G (c.d.fact 22 (f := .glo "_law_kinds") rfl)) B mVE bBadSet bBadSize bBadNumber bBadRow
  have D_is_whole : DefOk l.prog w K mg base CX0 1 "is_whole" ["thing"] (sp_is_whole K) := ok_is_whole F_is_whole (He.glo_ok X G (c.d.fact 0 (f := .glo "is_whole") rfl)) B 
  have D_is_count : DefOk l.prog w K mg base CX0 2 "is_count" ["thing"] (sp_is_count K) := ok_is_count F_is_count (He.glo_ok X G (c.d.fact 1 (f := .glo "is_count") rfl)) B D_is_whole
  have D_X_check_row : DefOk l.prog w K mg base (L2.CX l.prog w) 3 "check_row" ["row"] (sp_X_check_row K) := ok_X_check_row F_check_row (He.glo_ok X G (c.d.fact 16 (f := .glo "check_row") rfl)) B mG bBadRow D_is_count
  have D_X_check_can : DefOk l.prog w K mg base (L2.CX l.prog w) 6 "check_can" ["row"] (sp_X_check_can K) := ok_X_check_can F_check_can (He.glo_ok X G (c.d.fact 17 (f := .glo "check_can") rfl)) B bBadRow D_X_check_row D_first_bar
  have D_X_check_set : DefOk l.prog w K mg base (L2.CX l.prog w) 3 "check_set" ["some"] (sp_X_check_set K) := ok_X_check_set F_check_set (He.glo_ok X G (c.d.fact 2 (f := .glo "check_set") rfl)) B mG bBadSet D_is_count
  have D_place_of : DefOk l.prog w K mg base CX0 2 "place_of" ["some"] (sp_place_of K) := ok_place_of F_place_of (He.glo_ok X G (c.d.fact 6 (f := .glo "place_of") rfl)) B D_picks
  have D_X_has : DefOk l.prog w K mg base (L2.CX l.prog w) 7 "has" ["row", "some"] (sp_X_has K) := ok_X_has F_has (He.glo_ok X G (c.d.fact 19 (f := .glo "has") rfl)) B D_X_check_can D_X_check_set D_place_of
  have D_X_most : DefOk l.prog w K mg base (L2.CX l.prog w) 7 "most" ["row"] (sp_X_most K) := ok_X_most F_most (He.glo_ok X G (c.d.fact 20 (f := .glo "most") rfl)) B mG bBadRow D_X_check_can D_moved
  have D_X__law_next : DefOk l.prog w K mg base (L2.CX l.prog w) 8 "_law_next" ["_law_door", "_law_row"] (sp_X__law_next K) := ok_X__law_next F__law_next (He.glo_ok X G (c.d.fact 27 (f := .glo "_law_next") rfl)) B D_X_has D_X_most
  have D_X_check_count : DefOk l.prog w K mg base (L2.CX l.prog w) 3 "check_count" ["number"] (sp_X_check_count K) := ok_X_check_count F_check_count (He.glo_ok X G (c.d.fact 4 (f := .glo "check_count") rfl)) B bBadNumber D_is_count
  have D_X_check_size : DefOk l.prog w K mg base (L2.CX l.prog w) 2 "check_size" ["size", "low", "high"] (sp_X_check_size K) := ok_X_check_size F_check_size (He.glo_ok X G (c.d.fact 3 (f := .glo "check_size") rfl)) B bBadSize D_is_whole
  have D_X_set_of : DefOk l.prog w K mg base (L2.CX l.prog w) 4 "set_of" ["size", "number"] (sp_X_set_of K) := ok_X_set_of F_set_of (He.glo_ok X G (c.d.fact 10 (f := .glo "set_of") rfl)) B mG bBadNumber D_X_check_count D_X_check_size D_told_by
  have D_X__law_of_none : DefOk l.prog w K mg base (L2.CX l.prog w) 5 "_law_of_none" ["_law_door", "_law_number"] (sp_X__law_of_none K) := ok_X__law_of_none F__law_of_none (He.glo_ok X G (c.d.fact 28 (f := .glo "_law_of_none") rfl)) B D_X_set_of
  have D_X_over : DefOk l.prog w K mg base (L2.CX l.prog w) 5 "over" ["size", "many"] (sp_X_over K) := ok_X_over F_over (He.glo_ok X G (c.d.fact 14 (f := .glo "over") rfl)) B mG D_X_check_count D_X_check_size D_moved
  have D_X_under : DefOk l.prog w K mg base (L2.CX l.prog w) 5 "under" ["size", "many"] (sp_X_under K) := ok_X_under F_under (He.glo_ok X G (c.d.fact 13 (f := .glo "under") rfl)) B mG D_X_check_count D_X_check_size D_moved
  have D_X__law_with_number : DefOk l.prog w K mg base (L2.CX l.prog w) 6 "_law_with_number" ["_law_door", "_law_number"] (sp_X__law_with_number K) := ok_X__law_with_number F__law_with_number (He.glo_ok X G (c.d.fact 25 (f := .glo "_law_with_number") rfl)) B D_X_over D_X_set_of D_X_under
  have D_Barred_init : MakOk l.prog w K mg base CX0 1 "Barred" (cBar K) ["self", "size", "most"] (sp_Barred_init K) := ok_Barred_init F_Barred_init mBarred (He.mkr_ok (c.d.fact 74 (f := .mkr "Barred") rfl)) B 
  have D_X_told : DefOk l.prog w K mg base (L2.CX l.prog w) 6 "told" ["row"] (sp_X_told K) := ok_X_told F_told (He.glo_ok X G (c.d.fact 18 (f := .glo "told") rfl)) B mCan M0 D_Barred_init D_X_check_row D_first_bar
  have D_X__law_with_row : DefOk l.prog w K mg base (L2.CX l.prog w) 8 "_law_with_row" ["_law_door", "_law_row"] (sp_X__law_with_row K) := ok_X__law_with_row F__law_with_row (He.glo_ok X G (c.d.fact 26 (f := .glo "_law_with_row") rfl)) B D_X_has D_X_most D_X_told
  have D_X_beneath : DefOk l.prog w K mg base (L2.CX l.prog w) 4 "beneath" ["some"] (sp_X_beneath K) := ok_X_beneath F_beneath (He.glo_ok X G (c.d.fact 11 (f := .glo "beneath") rfl)) B D_X_check_set
  have D_X_number_of : DefOk l.prog w K mg base (L2.CX l.prog w) 4 "number_of" ["some"] (sp_X_number_of K) := ok_X_number_of F_number_of (He.glo_ok X G (c.d.fact 9 (f := .glo "number_of") rfl)) B D_X_check_set D_place_of
  have D_X__law_with_set : DefOk l.prog w K mg base (L2.CX l.prog w) 8 "_law_with_set" ["_law_door", "_law_some"] (sp_X__law_with_set K) := ok_X__law_with_set F__law_with_set (He.glo_ok X G (c.d.fact 23 (f := .glo "_law_with_set") rfl)) B D_X_beneath D_X_has D_X_number_of
  have D_X__law_with_size : DefOk l.prog w K mg base (L2.CX l.prog w) 6 "_law_with_size" ["_law_door", "_law_size"] (sp_X__law_with_size K) := ok_X__law_with_size F__law_with_size (He.glo_ok X G (c.d.fact 24 (f := .glo "_law_with_size") rfl)) B D_X_over D_X_set_of D_X_under
  have D__law_told : DefOk l.prog w K mg base CX0 9 "_law_told" ["_law_ask", "_law_door", "_law_thing"] (sp__law_told K) := ok__law_told F__law_told (He.glo_ok X G (c.d.fact 29 (f := .glo "_law_told") rfl)) B mSE g__law_with_set g__law_with_size g__law_with_number g__law_with_row g__law_next g__law_of_none D_X__law_with_set D_X__law_with_size D_X__law_with_number D_X__law_with_row D_X__law_next D_X__law_of_none D__law_kinds
  have D__law_all : DefOk l.prog w K mg base CX0 10 "_law_all" ["_law_ask", "_law_doors", "_law_things", "_law_due"] (sp__law_all K) := ok__law_all F__law_all (He.glo_ok X G (c.d.fact 30 (f := .glo "_law_all") rfl)) B D__law_told
  have D__law_cell_at : DefOk l.prog w K mg base CX0 1 "_law_cell_at" ["_law_script", "_law_k"] (sp__law_cell_at K) := ok__law_cell_at F__law_cell_at (He.glo_ok X G (c.d.fact 21 (f := .glo "_law_cell_at") rfl)) B 
  exact ok_law F_law B g__law_with_set g__law_with_size g__law_with_number g__law_with_row g__law_next g__law_of_none D_Can_shows D__law_all D__law_cell_at D_X_has D_X_most D_X_number_of D_X_over D_X_set_of D_X_told D_X_under
end Sx
open PySem PySem.W PySem.Calls PyProof.Rows
set_option maxRecDepth 100000 in
set_option maxHeartbeats 8000000 in
theorem PySem.Challenge.cw_shadowrow_k05_refused_holds : PySem.Challenge.rw_shadowrow_k05_refused.Holds := by
  w_on; o_law
  refine HandSHeadRun.head_any (r := OpenLaw.row PySem.Challenge.rw_shadowrow_k05_refused) (q := view (OpenLaw.row PySem.Challenge.rw_shadowrow_k05_refused).prog [46]) (H := Sx.hk) (ob := Sx.ob) (M := 3000) (loose := Sx.loose) (d := HandSHeadRun.topDef (OpenLaw.row PySem.Challenge.rw_shadowrow_k05_refused).prog 46) (kwd := []) Sx.ob_eq
    (by kernel_rfl) (fun s => by kernel_rfl) Sx.run (by kernel_rfl) (by kernel_rfl) (by kernel_rfl) (by rfl) (by first | assumption | decide +kernel) (by decide +kernel) ⟨rfl, rfl, rfl, rfl, rfl, by decide +kernel⟩ ?hw ?hc
  case hw => w_witness2
  case hc =>
    refine Sx.walk_X (l := PySem.Challenge.rw_shadowrow_k05_refused) (n := 63) (k := 11) (x := "_law_script") (CX := L2.CX0) rfl (by decide) (by kernel_rfl) ⟨rfl, by decide, by decide⟩ ?F (fun _ _ _ _ z => z)
    intro w mg fa h Y G hmg0
    obtain ⟨K, KX, c⟩ := Y
    have hmg : mg ("law" : PySem.Str) = some (.ref fa) := by
      have e : (HandSHeadRun.topDef (OpenLaw.row PySem.Challenge.rw_shadowrow_k05_refused).prog 46).name = ("law" : PySem.Str) := by kernel_rfl
      rw [← e]
      exact hmg0
    obtain ⟨cf, fd, hb, hF⟩ := Sx.facts (l := PySem.Challenge.rw_shadowrow_k05_refused) (w := w) KX G hmg c
    exact ⟨K, fd, Sx.sp_law K, KX, hb, fun H a ns _ bits hS => ⟨a, ns, rfl, hS, fun z hz => Sx.Bt.bits (bits z hz), cf, fun _ => rfl⟩, hF⟩
#print axioms PySem.Challenge.cw_shadowrow_k05_refused_holds
