import PyProof.Rows.All
import Wide.All
import OpenK.AllK
import Wide.FinOn
import HandS.ForMost
import HandS.Wide
import HandS.Defaults
import HandS.HeadHook1
import HandS.HeadHook2
import HandS.IsInst
import HandS.TupAny
import HandS.Evl
import HandS.Exc
import HandS.ExcOwn
import HandS.ExcInit
import HandS.ExcValue
import HandS.ExcField
import HandS.ExcIs
import HandS.TryMany
import HandS.TryOnly
import KE.KExcIs
import HandS.Walk
import KE.KStateDown
import HandS.Head0
import HandS.Head1
import HandS.Head2
import HandS.HeadEnd
import HandS.More
import HandS.WordsExc
import PySem.Challenge.RW_voicesboth_k01_errors
set_option Elab.async false
set_option linter.all false
set_option maxRecDepth 100000
set_option maxHeartbeats 4000000
namespace VB
open PySem PySem.Spec PyProof.Rows L2
/-! ### the heap: what stays -/
/-- all but what stands at p is as it was -/
def SameB (p : Addr) (H H' : Hp) : Prop := ∀ b o, b ≠ p → H b = some o → H' b = some o
theorem SameB.refl (p : Addr) (H : Hp) : SameB p H H := fun _ _ _ h => h
theorem SameB.trans {p : Addr} {H H1 H2 : Hp} (a : SameB p H H1) (b : SameB p H1 H2) : SameB p H H2 := fun c o n h => b c o n (a c o n h)
theorem same_b {p : Addr} {H H1 : Hp} (a : Same H H1) : SameB p H H1 := fun c o _ h => a c o h
theorem same_new {H : Hp} {p : Addr} {o : HO} (h : H p = none) : Same H (upd H p o) := fun a u e => by
  rw [upd_ne (ne_of_none e h)]
  exact e
theorem sameB_upd {H : Hp} {p : Addr} {o : HO} : SameB p H (upd H p o) := fun a u n e => by
  rw [upd_ne n]
  exact e
theorem rd_mono {H H' : Hp} {a : Addr} {u : HO} (e : Same H H') (h : Rd H a u) : Rd H' a u := by
  rcases h with h | ⟨o, h⟩
  · exact .inl (e _ _ h)
  · exact .inr ⟨o, e _ _ h⟩
theorem sqL_mono {K : PySem.W.Frag} {H H' : Hp} {a : Addr} {xs : List V} (e : Same H H') (h : SqL K H a xs) : SqL K H' a xs := e.seq h
theorem sqT_mono {K : PySem.W.Frag} {H H' : Hp} {a : Addr} {xs : List V} (e : Same H H') (h : SqT K H a xs) : SqT K H' a xs := by
  rcases h with h | h
  · exact .inl (rd_mono e h)
  · exact .inr h
mutual
theorem dp_mono {K : PySem.W.Frag} {H H' : Hp} (e : Same H H') : ∀ {v : V} {d : PyData}, Dp K H v d → Dp K H' v d
  | _, _, .non => .non
  | _, _, .bl b => .bl b
  | _, _, .int i => .int i
  | _, _, .str x => .str x
  | _, _, .lst h hs => .lst (sqL_mono e h) (dpAll_mono e hs)
  | _, _, .tup h hs => .tup (sqT_mono e h) (dpAll_mono e hs)
theorem dpAll_mono {K : PySem.W.Frag} {H H' : Hp} (e : Same H H') : ∀ {vs : List V} {ds : List PyData}, DpAll K H vs ds → DpAll K H' vs ds
  | _, _, .nil => .nil
  | _, _, .cons h hs => .cons (dp_mono e h) (dpAll_mono e hs)
end
/-- a list, a tuple is read at p, and p is not d: what stands at d may change -/
def isDK : HO → Prop
  | .dK _ => True
  | _ => False
theorem rdL_b {H H' : Hp} {p a : Addr} {xs : List V} {kvs : List (Key × V)} (hp : H p = some (.dK kvs)) (e : SameB p H H') (h : Rd H a (.lst xs)) : Rd H' a (.lst xs) := by
  rcases h with h | ⟨o, h⟩
  · exact .inl (e _ _ (ne_of h hp (fun z => by cases z)) h)
  · exact .inr ⟨o, e _ _ (ne_of h hp (fun z => by cases z)) h⟩
theorem rdT_b {H H' : Hp} {p a : Addr} {xs : List V} {kvs : List (Key × V)} (hp : H p = some (.dK kvs)) (e : SameB p H H') (h : Rd H a (.tup xs)) : Rd H' a (.tup xs) := by
  rcases h with h | ⟨o, h⟩
  · exact .inl (e _ _ (ne_of h hp (fun z => by cases z)) h)
  · exact .inr ⟨o, e _ _ (ne_of h hp (fun z => by cases z)) h⟩
theorem sqL_b {K : PySem.W.Frag} {H H' : Hp} {p a : Addr} {xs : List V} {kvs : List (Key × V)} (hp : H p = some (.dK kvs)) (e : SameB p H H') (h : SqL K H a xs) : SqL K H' a xs := by
  rcases h with h | h
  · exact .inl (rdL_b hp e h)
  · exact .inr h
theorem sqT_b {K : PySem.W.Frag} {H H' : Hp} {p a : Addr} {xs : List V} {kvs : List (Key × V)} (hp : H p = some (.dK kvs)) (e : SameB p H H') (h : SqT K H a xs) : SqT K H' a xs := by
  rcases h with h | h
  · exact .inl (rdT_b hp e h)
  · exact .inr h
mutual
theorem dp_b {K : PySem.W.Frag} {H H' : Hp} {p : Addr} {kvs : List (Key × V)} (hp : H p = some (.dK kvs)) (e : SameB p H H') : ∀ {v : V} {d : PyData}, Dp K H v d → Dp K H' v d
  | _, _, .non => .non
  | _, _, .bl b => .bl b
  | _, _, .int i => .int i
  | _, _, .str x => .str x
  | _, _, .lst h hs => .lst (sqL_b hp e h) (dpAll_b hp e hs)
  | _, _, .tup h hs => .tup (sqT_b hp e h) (dpAll_b hp e hs)
theorem dpAll_b {K : PySem.W.Frag} {H H' : Hp} {p : Addr} {kvs : List (Key × V)} (hp : H p = some (.dK kvs)) (e : SameB p H H') : ∀ {vs : List V} {ds : List PyData}, DpAll K H vs ds → DpAll K H' vs ds
  | _, _, .nil => .nil
  | _, _, .cons h hs => .cons (dp_b hp e h) (dpAll_b hp e hs)
end
/-! ### the text's defs, told by the head's facts -/
def fdOf (K : PySem.W.Frag) (p : Str × Option Str) : FuncData := match K.lookup (He.fAd K p) with
  | some ⟨_, _, .func fd, _⟩ => fd
  | _ => PySem.W.fnOf "" "" { posonlyargs := [], args := [], vararg := none, kwonlyargs := [], kw_defaults := [], kwarg := none, defaults := [] } [] { kind := .function, names := [], isGenerator := false, isCoroutine := false } .none .none .none .none none .none .none
theorem fd_is {K : PySem.W.Frag} {x qual : Str} {params : Arguments} {body : List Stmt} {scope : Scope} {dvs : List V} {kws : List (Str × V)} {p : Str × Option Str} {fd : FuncData} (F : FunD K x qual params body scope dvs kws (He.fAd K p) fd) :
    FunD K x qual params body scope dvs kws (He.fAd K p) (fdOf K p) := by
  obtain ⟨⟨oc, od, dV, kV, doc, pm, an, cdv, ct, osl, e, lk, h⟩, kp⟩ := F
  have q : fdOf K p = fd := by
    unfold fdOf
    rw [lk]
  rw [q]
  exact ⟨⟨oc, od, dV, kV, doc, pm, an, cdv, ct, osl, e, lk, h⟩, kp⟩
/-- one def of the module's, found by its name -/
def dfn (x : Str) (st : Stmt) : He.DefD := ⟨(x, none), x, x, defArgs st, defBody st, defScope st, [], []⟩
/-- a method -/
def mth (C m q : Str) (st : Stmt) : He.DefD := ⟨(C, some m), m, q, defArgs st, defBody st, defScope st, [], []⟩
/-- what a law's walk knows of the written part: the facts fa, the defs fn, one Bool more -/
structure Tx (fa : List He.Fa) (fn : List He.DefD) (ex : PySem.W.Frag → Bool) (K : PySem.W.Frag) (mg : Str → Option Value) : Prop where
  c : He.SaysD fa fn K
  x : ex K = true
  hp : ∃ h : Heap, K.In h ∧ h.Ns mainGlobals mg
section
variable {fa : List He.Fa} {fn : List He.DefD} {ex : PySem.W.Frag → Bool} {K : PySem.W.Frag} {mg : Str → Option Value}
theorem Tx.glo (T : Tx fa fn ex K mg) (i : Nat) {x : Str} (h : fa[i]? = some (.glo x) := by rfl) : mg x = some (.ref (He.ga K x)) := by
  obtain ⟨h0, X, G⟩ := T.hp
  exact He.glo_ok X G (T.c.fact i h)
theorem Tx.free (T : Tx fa fn ex K mg) (i : Nat) {x : Str} (h : fa[i]? = some (.free x) := by rfl) : mg x = none := by
  obtain ⟨h0, X, G⟩ := T.hp
  exact He.free_ok X G (T.c.fact i h)
theorem Tx.def_ (T : Tx fa fn ex K mg) (i : Nat) {d : He.DefD} (h : fn[i]? = some d := by rfl) : FunD K d.name d.qual d.params d.body d.scope (d.dvs K) (d.kws K) (He.fAd K d.at_) (fdOf K d.at_) := by
  obtain ⟨fd, F⟩ := T.c.def_ i h
  exact fd_is F
end
/-! ### the Hook with one Bool more -/
abbrev AlM : Type := Bool × He.AlD
def obsM (fa : List He.Fa) (fn : List He.DefD) (ex : PySem.W.Frag → Bool) (K : PySem.W.Frag) : AlM := (ex K, He.obsD fa fn K)
def valM (fn : List He.DefD) : AlM := (true, He.valD fn)
def obsMG (n : Nat) (fa : List He.Fa) (fn : List He.DefD) (ex : PySem.W.Frag → Bool) (g : Addr → Option Obj) : AlM := obsM fa fn ex (He.frG g (He.asD g n))
def hookM (n : Nat) (fa : List He.Fa) (fn : List He.DefD) (ex : PySem.W.Frag → Bool) : PySem.W.Hook where
  α := AlM
  obs := fun s => obsMG n fa fn ex s.heap.get?
  val := fun _ => valM fn
  says := fun _ h => ∃ K : PySem.W.Frag, K.In h ∧ obsM fa fn ex K = valM fn
  of := fun _ _ e => ⟨_, He.frG_in, e⟩
  keeps := fun _ _ _ ⟨K, hK, c⟩ k => ⟨K, PySem.W.Frag.In.keeps hK k, c⟩
theorem obsMG_eq {n : Nat} {fa : List He.Fa} {fn : List He.DefD} {ex : PySem.W.Frag → Bool} {g : Addr → Option Obj} {s : Shared} (h : ∀ a, g a = s.heap.get? a) : obsMG n fa fn ex g = (hookM n fa fn ex).obs s := by
  have e : g = s.heap.get? := funext h
  rw [e] <;> rfl
theorem tx_of {fa : List He.Fa} {fn : List He.DefD} {ex : PySem.W.Frag → Bool} {K : PySem.W.Frag} {mg : Str → Option Value} {h : Heap} (X : K.In h) (G : h.Ns mainGlobals mg) (c : obsM fa fn ex K = valM fn) : Tx fa fn ex K mg :=
  ⟨congrArg (fun z : AlM => z.2) c, congrArg (fun z : AlM => z.1) c, h, X, G⟩
/-! ### a def keeps its promise: the derivation for any context of the def, the reading apart -/
/-- behind an if: one word -/
theorem cut {t u : TS} {D : Ends} {σ : L2.St} {H : Hp} (Mid : L2.St → Hp → Prop) (h1 : t { D with nx := Mid } σ H) (h2 : ∀ σ' H', Mid σ' H' → u D σ' H') : Evl.tCut t u D σ H := ⟨Mid, h1, h2⟩

/-! ### the operators by names -/
abbrev rAdd : R2 := rI0 fun i j => .int (i + j)
abbrev rSub : R2 := rI0 fun i j => .int (i - j)
abbrev rMul : R2 := rI CMul fun i j => .int (i * j)
abbrev rMod : R2 := rI (fun _ j => 0 < j) fun i j => .int (i % j)
abbrev rFdiv : R2 := rI CDivW fun i j => .int (i / j)
abbrev rPow : R2 := rI CPow fun i j => .int (i ^ j.toNat)
abbrev rShl : R2 := rI CPow fun i j => .int (i * 2 ^ j.toNat)
abbrev rShr : R2 := rI (fun _ j => 0 ≤ j) fun i j => .int (i / 2 ^ j.toNat)
abbrev rBAnd : R2 := rI0 fun i j => .int (Builtin.bitAnd i j)
abbrev rBOr : R2 := rI0 fun i j => .int (Builtin.bitOr i j)
abbrev rBXor : R2 := rI0 fun i j => .int (Builtin.bitXor i j)
abbrev rLt : R2 := rI0 fun i j => .bl (decide (i < j))
abbrev rLe : R2 := rI0 fun i j => .bl (decide (i ≤ j))
abbrev rGt : R2 := rI0 fun i j => .bl (decide (j < i))
abbrev rGe : R2 := rI0 fun i j => .bl (decide (j ≤ i))
def rAddStr : R2 := fun x y H Q => ∃ i j, x = .str i ∧ y = .str j ∧ i.length + j.length ≤ sizeLine ∧ Q (.str (i ++ j)) H
theorem opAddStr {X : Cx} : OpR X (binaryOp .Add) rAddStr := op_add_str
abbrev rIsNn : R2 := fun x y H Q => y = .non ∧ Q (.bl (decide (x = .non))) H
abbrev rNotNn : R2 := fun x y H Q => y = .non ∧ Q (.bl (!decide (x = .non))) H
abbrev rLenU (K : PySem.W.Frag) : List V → Hp → VK → Prop := fun xs H Q => ∃ x n, xs = [x] ∧ LenV K x H n ∧ Q (.int (n : Nat)) H
abbrev rIntU : List V → Hp → VK → Prop := fun xs H Q => (∃ i, xs = [.int i] ∧ Q (.int i) H) ∨ ∃ k, xs = [.bl k] ∧ Q (.int (if k then 1 else 0)) H
abbrev rStrI : List V → Hp → VK → Prop := fun xs H Q => ∃ i, xs = [.int i] ∧ i.natAbs.log2 < 1920 ∧ Q (.str (toString i)) H
abbrev rListU (K : PySem.W.Frag) : List V → Hp → VK → Prop := fun xs H Q => ∃ p ys, xs = [.ref p] ∧ (SqL K H p ys ∨ SqT K H p ys) ∧ ∀ l, H l = none → Q (.ref l) (upd H l (.lst ys))
abbrev rTupU (K : PySem.W.Frag) : List V → Hp → VK → Prop := fun xs H Q => ∃ p ys, xs = [.ref p] ∧ ((SqL K H p ys ∧ ∀ l, H l = none → Q (.ref l) (upd H l (.tup ys))) ∨ (SqT K H p ys ∧ Q (.ref p) H))
abbrev rMax2 : List V → Hp → VK → Prop := fun xs H Q => ∃ i j, xs = [.int i, .int j] ∧ Q (.int (if j > i then j else i)) H
abbrev rMin2 : List V → Hp → VK → Prop := fun xs H Q => ∃ i j, xs = [.int i, .int j] ∧ Q (.int (if j < i then j else i)) H
def tTru (K : PySem.W.Frag) (ta : TE) : TT := fun σ H Q => ta σ H fun x H' => ∃ k, TruV K x H' k ∧ Q k H'
/-- any promise, from what it is asked for -/
abbrev E0 : XK := fun _ _ _ => False
/-! ### a walk of a known length, by a word -/
theorem forL {K : PySem.W.Frag} {tl : TE} {g : TG} {tb : TS} {D : Ends} {σ : L2.St} {H : Hp} {a : Addr} {xs : List V} (Pv : Nat → L2.St → Hp → Prop) (hl : tl σ H fun x H1 => x = .ref a ∧ SqL K H1 a xs ∧ Pv 0 σ H1) (hk : ∀ i σ' H', i ≤ xs.length → Pv i σ' H' → SqL K H' a xs)
    (hs : ∀ i x σ' H', xs[i]? = some x → Pv i σ' H' → g x σ' H' fun σ2 H2 => tb { D with nx := Pv (i + 1), ct := Pv (i + 1), bk := D.nx } σ2 H2) (hd : ∀ σ' H', Pv xs.length σ' H' → D.nx σ' H') (mono : ∀ (Q Q' : VK), (∀ v H', Q v H' → Q' v H') → tl σ H Q → tl σ H Q') : tFor (iList K tl) g tb D σ H :=
  mono _ _ (fun v H' ⟨e, h1, h2⟩ => ⟨a, e, ⟨xs, h1⟩, for_list Pv h2 hk hs hd⟩) hl
end VB

set_option Elab.async false
set_option linter.all false
set_option maxRecDepth 100000
set_option maxHeartbeats 4000000
namespace VB
open PySem PySem.Spec PyProof.Rows L2
/-! ### the pen of a law: the source of all draws -/
structure PenD where
  cells : List Int
  at_ : Int
  digits : Int
  count : Int
  fold : Int
def penKvs (l : Addr) (P : PenD) : List (Key × V) := [(.inr "cells", .ref l), (.inr "at", .int P.at_), (.inr "digits", .int P.digits), (.inr "count", .int P.count), (.inr "fold", .int P.fold)]
section
variable {l : Addr} {P : PenD} {z : Int}
theorem pv_cells : valV (penKvs l P) (.inr "cells") = some (.ref l) := by kernel_rfl
theorem pv_at : valV (penKvs l P) (.inr "at") = some (.int P.at_) := by kernel_rfl
theorem pv_digits : valV (penKvs l P) (.inr "digits") = some (.int P.digits) := by kernel_rfl
theorem pv_count : valV (penKvs l P) (.inr "count") = some (.int P.count) := by kernel_rfl
theorem pv_fold : valV (penKvs l P) (.inr "fold") = some (.int P.fold) := by kernel_rfl
theorem pu_at : putK (penKvs l P) (.inr "at") (.int z) = penKvs l { P with at_ := z } := by kernel_rfl
theorem pu_digits : putK (penKvs l P) (.inr "digits") (.int z) = penKvs l { P with digits := z } := by kernel_rfl
theorem pu_count : putK (penKvs l P) (.inr "count") (.int z) = penKvs l { P with count := z } := by kernel_rfl
theorem pu_fold : putK (penKvs l P) (.inr "fold") (.int z) = penKvs l { P with fold := z } := by kernel_rfl
theorem penMerge : mergeK [] (penKvs l P) = penKvs l P := by kernel_rfl
variable {H : Hp} {p : Addr}
theorem pgt {k : Str} {v : V} (e : valV (penKvs l P) (.inr k) = some v) (h : H p = some (.dK (penKvs l P))) : DGet H p (.str k) (some v) := .inl ⟨_, .inr k, .inl h, rfl, e.symm⟩
theorem pst {k : Str} {v : V} {P' : PenD} (e : putK (penKvs l P) (.inr k) v = penKvs l P') (h : H p = some (.dK (penKvs l P))) : DPut H p (.str k) v (upd H p (.dK (penKvs l P'))) := .inl ⟨_, .inr k, h, rfl, by show 5 < sizeLine; decide, by rw [e]⟩
end
/-- a pen stands at p; so many draws at most have been made -/
structure PenAt (c : Int) (p : Addr) (H : Hp) : Prop where
  ex : ∃ (l : Addr) (P : PenD), H p = some (.dK (penKvs l P)) ∧ H l = some (.lst (P.cells.map V.int)) ∧ 0 ≤ P.at_ ∧ 0 ≤ P.digits ∧ 0 ≤ P.count ∧ P.count ≤ c ∧ 0 ≤ P.fold ∧ P.fold < 2147483587 ∧ P.cells.length ≤ 63
theorem PenAt.mono {c c' : Int} {p : Addr} {H : Hp} (h : PenAt c p H) (e : c ≤ c') : PenAt c' p H := by
  obtain ⟨l, P, h1, h2, h3, h4, h5, h6, h7⟩ := h.ex
  exact ⟨l, P, h1, h2, h3, h4, h5, Int.le_trans h6 e, h7⟩
theorem PenAt.same {c : Int} {p : Addr} {H H' : Hp} (h : PenAt c p H) (e : Same H H') : PenAt c p H' := by
  obtain ⟨l, P, h1, h2, h3⟩ := h.ex
  exact ⟨l, P, e _ _ h1, e _ _ h2, h3⟩
theorem PenAt.dk {c : Int} {p : Addr} {H : Hp} (h : PenAt c p H) : ∃ kvs, H p = some (.dK kvs) := by
  obtain ⟨l, P, h1, _⟩ := h.ex
  exact ⟨_, h1⟩
/-- an object that is no dict and no list of ints .. : a store at another place leaves the pen -/
theorem PenAt.upd {c : Int} {p a : Addr} {H : Hp} {o : HO} (h : PenAt c p H) (hp : a ≠ p) (hl : ∀ l P, H p = some (.dK (penKvs l P)) → a ≠ l) : PenAt c p (upd H a o) := by
  obtain ⟨l, P, h1, h2, h3⟩ := h.ex
  exact ⟨l, P, by rw [upd_ne (Ne.symm hp)]; exact h1, by rw [upd_ne (Ne.symm (hl l P h1))]; exact h2, h3⟩
/-! ### the promises -/
def sp_pen (K : PySem.W.Frag) : Sp := fun vs H Q _ => ∃ (a : Addr) (ns : List Int), vs = [.ref a] ∧ SqL K H a (ns.map V.int) ∧ ns.length ≤ 63 ∧ ∀ p H', H p = none → PenAt 0 p H' → Same H H' → Q (.ref p) H'
def sp_draw (K : PySem.W.Frag) : Sp := fun vs H Q _ => ∃ (p : Addr) (m c : Int), vs = [.ref p, .int m] ∧ 0 < m ∧ m < 2 ^ 64 ∧ PenAt c p H ∧ c ≤ 1000000000000 ∧ ∀ d H', 0 ≤ d → d < m → PenAt (c + 1) p H' → SameB p H H' → Q (.int d) H'
/-! ### the readings -/
def t_pen (K : PySem.W.Frag) : TS := (tSeq (tAsg (tC (.int 0)) (gName 1))
  (tSeq (tFor (iList K (tVar 0)) (gName 2) (tAsg (tOp rMod (tCB rIntU (tCons (tOp rAdd (tOp rMul (tVar 1) (tC (.int 59))) (tVar 2)) tNil)) (tC (.int 1000000021))) (gName 1)))
  (tRet (tDisp [((tC (.str "cells")), (tCB (rListU K) (tCons (tVar 0) tNil))), ((tC (.str "at")), (tC (.int 0))), ((tC (.str "digits")), (tC (.int 0))), ((tC (.str "count")), (tC (.int 0))), ((tC (.str "fold")), (tVar 1))]))))
def t_draw (K : PySem.W.Frag) : TS := (tSeq (sDPut (tVar 0) (tC (.str "count")) (tOp rAdd (tDGet (tVar 0) (tC (.str "count"))) (tC (.int 1))))
  (Evl.tCut (tIfS (tAnd (tTest (tOp rEq (tDGet (tVar 0) (tC (.str "digits"))) (tC (.int 0)))) (tTest (tOp rLt (tDGet (tVar 0) (tC (.str "at"))) (tCB (rLenU K) (tCons (tDGet (tVar 0) (tC (.str "cells"))) tNil))))) (tSeq (tAsg (tOp (rIxL K) (tDGet (tVar 0) (tC (.str "cells"))) (tDGet (tVar 0) (tC (.str "at")))) (gName 2))
  (tSeq (sDPut (tVar 0) (tC (.str "at")) (tOp rAdd (tDGet (tVar 0) (tC (.str "at"))) (tC (.int 1))))
  (tIfS (tTest (tOp rGe (tVar 2) (tOp rPow (tC (.int 10)) (tC (.int 18))))) (sDPut (tVar 0) (tC (.str "digits")) (tOp rSub (tVar 2) (tOp rPow (tC (.int 10)) (tC (.int 18))))) (sDPut (tVar 0) (tC (.str "fold")) (tOp rMod (tCB rIntU (tCons (tOp rAdd (tOp rMul (tDGet (tVar 0) (tC (.str "fold"))) (tC (.int 71473))) (tVar 2)) tNil)) (tC (.int 2147483587))))))) tNext)
  (tSeq (tIfS (tTest (tOp rGt (tDGet (tVar 0) (tC (.str "digits"))) (tC (.int 0)))) (tSeq (tAsg (tOp rMod (tCB rIntU (tCons (tDGet (tVar 0) (tC (.str "digits"))) tNil)) (tVar 1)) (gName 3))
  (tSeq (sDPut (tVar 0) (tC (.str "digits")) (tOp rFdiv (tDGet (tVar 0) (tC (.str "digits"))) (tVar 1)))
  (tRet (tVar 3)))) tNext)
  (tSeq (tAsg (tOp rAdd (tOp rAdd (tDGet (tVar 0) (tC (.str "fold"))) (tOp rMul (tDGet (tVar 0) (tC (.str "count"))) (tC (.int 7907)))) (tC (.int 67))) (gName 4))
  (tRet (tOp rMod (tOp rFdiv (tCB rIntU (tCons (tOp rMod (tOp rPow (tVar 4) (tC (.int 17))) (tC (.int 2305843009213693951))) tNil)) (tC (.int 128))) (tVar 1)))))))
section
variable {K : PySem.W.Frag}
theorem ints_at {ns : List Int} {i : Nat} {y : V} (h : (ns.map V.int)[i]? = some y) : ∃ z, ns[i]? = some z ∧ y = V.int z := by
  rw [List.getElem?_map] at h
  cases e : ns[i]? with
  | none => rw [e] at h; cases h
  | some z => rw [e] at h; exact ⟨z, rfl, (Option.some.inj h).symm⟩
theorem rd_pen (vs : List V) (H : Hp) (Q : VK) (E : XK) (h : sp_pen K vs H Q E) : t_pen K { nx := fun _ H' => Q .non H', rt := Q } (start ["script", "fold", "cell"] vs) H := by
  obtain ⟨a, ns, rfl, hS, hlen, k⟩ := h
  refine ⟨_, rfl, a, rfl, ⟨_, hS⟩, for_list (K := K) (a := a) (xs := ns.map V.int) (fun i σ H' => H' = H ∧ ∃ (z : Int) (v : Option V), σ = [some (.ref a), some (.int z), v] ∧ 0 ≤ z ∧ z < 1000000021) ⟨rfl, 0, none, rfl, by decide, by decide⟩
    (fun i σ H' _ h => by rw [h.1]; exact hS) ?_ ?_⟩
  · rintro i y σ H' hi ⟨rfl, z, v, rfl, z0, z1⟩
    obtain ⟨u, _, rfl⟩ := ints_at hi
    refine ⟨_, rfl, z, 59, rfl, rfl, .inl ⟨by omega, by omega⟩, _, rfl, _, _, rfl, rfl, .inl ⟨_, rfl, _, 1000000021, rfl, rfl, (show (0 : Int) < 1000000021 by decide), rfl, _, _, rfl, ?_, ?_⟩⟩
    · exact Int.emod_nonneg _ (by decide)
    · exact Int.emod_lt_of_pos _ (by decide)
  · rintro σ H' ⟨rfl, z, v, rfl, z0, z1⟩
    intro p hp
    refine ⟨_, rfl, a, _, rfl, .inl (sqL_mono (same_new hp) hS), fun l hl => ?_⟩
    have nlp : l ≠ p := fun e => by rw [e, upd_same] at hl; cases hl
    have hl0 : H' l = none := by rw [upd_ne nlp] at hl; exact hl
    refine ⟨_, rfl, by rw [upd_ne (Ne.symm nlp)]; exact upd_same, penKvs l ⟨ns, 0, 0, 0, z⟩, rfl, by show 5 ≤ 15; decide, ?_⟩
    rw [penMerge]
    refine k p _ hp ⟨l, ⟨ns, 0, 0, 0, z⟩, upd_same, by rw [upd_ne nlp]; exact upd_same, by show (0 : Int) ≤ 0; decide, by show (0 : Int) ≤ 0; decide, by show (0 : Int) ≤ 0; decide, by show (0 : Int) ≤ 0; decide, z0, by show z < _; omega, hlen⟩ ?_
    intro b o e
    rw [upd_ne (ne_of_none e hp), upd_ne (ne_of_none e hl0), upd_ne (ne_of_none e hp)]
    exact e
/-- behind the draw's first half -/
def PenMid (p l : Addr) (c : Int) (H0 H : Hp) : Prop := ∃ P : PenD, H p = some (.dK (penKvs l P)) ∧ H l = some (.lst (P.cells.map V.int)) ∧ 0 ≤ P.at_ ∧ 0 ≤ P.digits ∧ 0 ≤ P.count ∧ P.count ≤ c ∧ 0 ≤ P.fold ∧ P.fold < 2147483587 ∧ P.cells.length ≤ 63 ∧ SameB p H0 H
theorem pen_lst {H : Hp} {p l : Addr} {kvs : List (Key × V)} {xs : List V} (h1 : H p = some (.dK kvs)) (h2 : H l = some (.lst xs)) : l ≠ p := ne_of h2 h1 (fun z => by cases z)
theorem rd_draw (vs : List V) (H : Hp) (Q : VK) (E : XK) (h : sp_draw K vs H Q E) : t_draw K { nx := fun _ H' => Q .non H', rt := Q } (start ["pen", "many", "cell", "digit", "blend"] vs) H := by
  obtain ⟨p, m, c, rfl, m0, m1, ⟨l, P, h1, h2, hat, hdg, hc0, hc1, hf0, hf1, hlen⟩, hc, k⟩ := h
  have nlp := pen_lst h1 h2
  -- pen['count'] = pen['count'] + 1
  refine ⟨_, rfl, p, _, rfl, pgt pv_count h1, _, _, rfl, rfl, _, rfl, p, _, rfl, pst pu_count h1, ?_⟩
  obtain ⟨cells, at_, digits, count, fold⟩ := P
  dsimp only at *
  have g1 : upd H p (.dK (penKvs l ⟨cells, at_, digits, count + 1, fold⟩)) p = some (.dK (penKvs l ⟨cells, at_, digits, count + 1, fold⟩)) := upd_same
  have g2 : upd H p (.dK (penKvs l ⟨cells, at_, digits, count + 1, fold⟩)) l = some (.lst (cells.map V.int)) := by rw [upd_ne nlp]; exact h2
  have s1 : SameB p H (upd H p (.dK (penKvs l ⟨cells, at_, digits, count + 1, fold⟩))) := sameB_upd
  generalize upd H p (.dK (penKvs l ⟨cells, at_, digits, count + 1, fold⟩)) = H1 at g1 g2 s1 ⊢
  refine cut (fun σ' H' => (∃ v, σ' = [some (.ref p), some (.int m), v, none, none]) ∧ PenMid p l (c + 1) H H') ?_ ?_
  · -- if pen['digits'] == 0 and pen['at'] < len(pen['cells'])
    refine ⟨_, rfl, p, _, rfl, pgt pv_digits g1, rfl, _, rfl, ?_⟩
    refine ite2 (fun cd => ?_) (fun _ => ?_)
    · refine ⟨_, rfl, p, _, rfl, pgt pv_at g1, _, rfl, p, _, rfl, pgt pv_cells g1, _, cells.length, rfl, .inl ⟨_, .inl (.inl g2), by rw [List.length_map]⟩, _, _, rfl, rfl, _, rfl, ?_⟩
      refine ite2 (fun ca => ?_) (fun _ => ?_)
      · -- cell = pen['cells'][pen['at']]
        have ha : at_ < (cells.length : Int) := of_decide_eq_true ca
        have hi : at_.toNat < cells.length := by omega
        refine ⟨_, rfl, p, _, rfl, pgt pv_cells g1, _, rfl, p, _, rfl, pgt pv_at g1, l, _, at_, _, rfl, rfl, .inl (.inl g2), at_of (j := at_.toNat) (by omega) (by rw [List.getElem?_map, List.getElem?_eq_getElem hi] <;> rfl), ?_⟩
        -- pen['at'] = pen['at'] + 1
        refine ⟨_, rfl, p, _, rfl, pgt pv_at g1, _, _, rfl, rfl, _, rfl, p, _, rfl, pst pu_at g1, ?_⟩
        dsimp only
        have f1 : upd H1 p (.dK (penKvs l ⟨cells, at_ + 1, digits, count + 1, fold⟩)) p = some (.dK (penKvs l ⟨cells, at_ + 1, digits, count + 1, fold⟩)) := upd_same
        have f2 : upd H1 p (.dK (penKvs l ⟨cells, at_ + 1, digits, count + 1, fold⟩)) l = some (.lst (cells.map V.int)) := by rw [upd_ne nlp]; exact g2
        have s2 : SameB p H (upd H1 p (.dK (penKvs l ⟨cells, at_ + 1, digits, count + 1, fold⟩))) := s1.trans sameB_upd
        generalize upd H1 p (.dK (penKvs l ⟨cells, at_ + 1, digits, count + 1, fold⟩)) = H2 at f1 f2 s2 ⊢
        refine ⟨_, rfl, 10, 18, rfl, rfl, ⟨by decide, by decide, by decide⟩, _, _, rfl, rfl, _, rfl, ?_⟩
        refine ite2 (fun cb => ?_) (fun _ => ?_)
        · have hb := of_decide_eq_true cb
          refine ⟨_, rfl, 10, 18, rfl, rfl, ⟨by decide, by decide, by decide⟩, _, _, rfl, rfl, _, rfl, p, _, rfl, pst pu_digits f1, ?_⟩
          refine ⟨⟨_, rfl⟩, _, upd_same, by rw [upd_ne nlp]; exact f2, by show 0 ≤ at_ + 1; omega, by show 0 ≤ cells[at_.toNat] - (10 : Int) ^ (18 : Int).toNat; omega, by show 0 ≤ count + 1; omega, by show count + 1 ≤ c + 1; omega, hf0, hf1, hlen, s2.trans sameB_upd⟩
        · refine ⟨_, rfl, p, _, rfl, pgt pv_fold f1, fold, 71473, rfl, rfl, .inl ⟨by omega, by omega⟩, _, rfl, _, _, rfl, rfl, .inl ⟨_, rfl, _, 2147483587, rfl, rfl, (show (0 : Int) < 2147483587 by decide), _, rfl, p, _, rfl, pst pu_fold f1, ?_⟩⟩
          refine ⟨⟨_, rfl⟩, _, upd_same, by rw [upd_ne nlp]; exact f2, by show 0 ≤ at_ + 1; omega, hdg, by show 0 ≤ count + 1; omega, by show count + 1 ≤ c + 1; omega, ?_, ?_, hlen, s2.trans sameB_upd⟩
          · exact Int.emod_nonneg _ (by decide)
          · exact Int.emod_lt_of_pos _ (by decide)
      · exact ⟨⟨_, rfl⟩, _, g1, g2, hat, hdg, by show 0 ≤ count + 1; omega, by show count + 1 ≤ c + 1; omega, hf0, hf1, hlen, s1⟩
    · exact ⟨⟨_, rfl⟩, _, g1, g2, hat, hdg, by show 0 ≤ count + 1; omega, by show count + 1 ≤ c + 1; omega, hf0, hf1, hlen, s1⟩
  · rintro σ' H' ⟨⟨v, rfl⟩, P, f1, f2, q1, q2, q3, q4, q5, q6, q7, s2⟩
    obtain ⟨cells, at_, digits, count, fold⟩ := P
    dsimp only at *
    refine ⟨_, rfl, p, _, rfl, pgt pv_digits f1, _, _, rfl, rfl, _, rfl, ?_⟩
    refine ite2 (fun cd => ?_) (fun _ => ?_)
    · -- digit = int(pen['digits']) % many
      refine ⟨_, rfl, p, _, rfl, pgt pv_digits f1, .inl ⟨_, rfl, _, rfl, _, _, rfl, rfl, m0, ?_⟩⟩
      refine ⟨_, rfl, p, _, rfl, pgt pv_digits f1, _, rfl, _, _, rfl, rfl, wide_div (b := 64) m0 (by omega) (by decide) (by decide), _, rfl, p, _, rfl, pst pu_digits f1, _, rfl, ?_⟩
      refine k _ _ (Int.emod_nonneg _ (by omega)) (Int.emod_lt_of_pos _ m0) ⟨l, _, upd_same, by rw [upd_ne nlp]; exact f2, q1, Int.ediv_nonneg q2 (by omega), q3, q4, q5, q6, q7⟩ (s2.trans sameB_upd)
    · -- blend = pen['fold'] + pen['count'] * 7907 + 67
      refine ⟨_, rfl, p, _, rfl, pgt pv_fold f1, _, rfl, p, _, rfl, pgt pv_count f1, count, 7907, rfl, rfl, .inl ⟨by omega, by omega⟩, _, _, rfl, rfl, _, _, rfl, rfl, ?_⟩
      refine ⟨_, rfl, _, 17, rfl, rfl, ⟨by decide, by decide, by show (fold + count * 7907 + 67).natAbs < 2 ^ 64; omega⟩, _, 2305843009213693951, rfl, rfl, (show (0 : Int) < 2305843009213693951 by decide), .inl ⟨_, rfl, _, 128, rfl, rfl, wide_div (b := 64) (by decide) (by decide) (by decide) (by decide), _, rfl, _, _, rfl, rfl, m0, ?_⟩⟩
      exact k _ _ (Int.emod_nonneg _ (by omega)) (Int.emod_lt_of_pos _ m0) ⟨l, _, f1, f2, q1, q2, q3, q4, q5, q6, q7⟩ s2
end
end VB

set_option Elab.async false
set_option linter.all false
set_option maxRecDepth 100000
set_option maxHeartbeats 4000000
namespace VB
open PySem PySem.Spec PyProof.Rows L2
/-! ### what the written part says of an exception class over ValueError -/
def exClsB (K : PySem.W.Frag) (C : Addr) : Bool := match K.lookup C with
  | some ⟨.type "type", _, .cls cd, sl⟩ => (match cd.mro, sl.toList with
    | .ref C' :: bm, [_, _, _, _, some (.builtin n), _] => C' == C && n == "ValueError.__new__" && !cd.hasDel && cd.hasDict && PySem.HandSPX.refsVE bm
    | _, _ => false)
  | _ => false
theorem exCls_ok {K : PySem.W.Frag} {C : Addr} (q : exClsB K C = true) : ∃ nm q N bs bm sn sub ab col dd k0 k1 k2 k3 k5, K.lookup C = some (excClassObj nm q C N bs bm true sn sub ab col dd k0 k1 k2 k3 k5 "ValueError.__new__") ∧ PySem.HandSPX.refsVE bm = true := by
  unfold exClsB at q
  split at q
  · rename_i dd cd sl ho
    split at q
    · rename_i C' bm k0 k1 k2 k3 n k5 hm hs
      simp only [Bool.and_eq_true, beq_iff_eq, Bool.not_eq_true'] at q
      obtain ⟨⟨⟨⟨rfl, rfl⟩, hdel⟩, hdic⟩, ht⟩ := q
      obtain ⟨nm, bs, mro, ns, qn, hd, sn, sub, ab, col, del⟩ := cd
      dsimp only at hm hdel hdic
      subst hm hdel hdic
      have hsl : sl = #[k0, k1, k2, k3, some (.builtin "ValueError.__new__"), k5] := by
        obtain ⟨l⟩ := sl
        simp only at hs
        rw [hs]
      subst hsl
      exact ⟨nm, qn, ns, bs, bm, sn, sub, ab, col, dd, k0, k1, k2, k3, k5, ho, ht⟩
    · cases q
  · cases q
def exkB (K : PySem.W.Frag) (C : Addr) : Bool := exClsB K C && decide (PySem.W.findIn K (.ref C) "__setattr__" = some (some (.builtin "object.__setattr__"))) && decide (PySem.W.subIn K (.ref C) (.type "BaseException") = some true) && decide (PySem.W.typeIn K (.ref C) = some (.type "type")) && PySem.W.keepIn K (.ref C) &&
  decide (PySem.W.findIn K (.ref C) "__getattribute__" = some (some (.builtin "BaseException.__getattribute__"))) && decide (PySem.W.findIn K (.ref C) "__getattr__" = some none) && PySem.W.hasDictIn K C && decide (PySem.W.findIn K (.ref C) "__class__" = some (some (.builtin "object.__class__"))) &&
  decide (PySem.W.specialIn K (.builtin "object.__class__") "__get__" = some (some (.builtin "getset_descriptor.__get__"))) && decide (PySem.W.takesIn K (.builtin "object.__class__") = some true) && decide (PySem.W.mroIn K C (.type "object") = some true) && (PySem.W.clsIn K C).isSome
structure ExK (K : PySem.W.Frag) (C : Addr) : Prop where
  oex : OexC K C
  xf : XfC K C
  ha : PySem.W.findIn K (.ref C) "__class__" = some (some (.builtin "object.__class__"))
  hn : PySem.W.specialIn K (.builtin "object.__class__") "__get__" = some (some (.builtin "getset_descriptor.__get__"))
  ht : PySem.W.takesIn K (.builtin "object.__class__") = some true
  hm : PySem.W.mroIn K C (.type "object") = some true
  hc : (PySem.W.clsIn K C).isSome = true
theorem exk_ok {K : PySem.W.Frag} {C : Addr} (h : exkB K C = true) : ExK K C := by
  unfold exkB at h
  simp only [Bool.and_eq_true, decide_eq_true_eq] at h
  obtain ⟨⟨⟨⟨⟨⟨⟨⟨⟨⟨⟨⟨h1, h2⟩, h3⟩, h4⟩, h5⟩, h6⟩, h7⟩, h8⟩, h9⟩, h10⟩, h11⟩, h12⟩, h13⟩ := h
  exact ⟨⟨exCls_ok h1, h2, h3, h4, h5⟩, ⟨h6, h7, h3, h8⟩, h9, h10, h11, h12, h13⟩
/-! ### C(e, ..) as a value: a new exception with its dict -/
def tMkE (C : Addr) (sp : Sp) (ta : TA) : TE := fun σ H Q => ta σ H fun vs H1 => vs.length ≤ 1000 ∧ ∀ a, H1 a = none → sp (.ref a :: vs) (upd H1 a (exo a C none)) (fun v H2 => v = .non ∧ Q (.ref a) H2) (fun _ _ _ => False)
section
variable {X : Cx} {e o : Expr} {es : List Expr} {ta : TA} {te : TE} {pos : Pos}
theorem pe_mkE {CX : CXT} {x : Str} {p : Pos} {C fI : Addr} {k : Nat} {fd : FuncData} {ps : List Str} {sp : Sp} (T : OexC X.K C) (iC : PySem.W.findIn X.K (.ref C) "__init__" = some (some (.ref fI))) (tI : PySem.W.typeIn X.K (.ref fI) = some (.type "function"))
    (F1 : FnOk X.prog X.w X.K X.mg X.base CX k fI fd ps sp) (hr : Room (k + 1) X.A) (hb : Binds X.K fd ps []) (hx : Passes CX X (fun _ _ _ => False)) (hg : Gl X x) (hm : X.mg x = some (.ref C)) (ha : PA X (e :: es) ta)
    (hdb : (x == ("__debug__" : Str)) = false := by decide) (he : starEach (e :: es) X.env = (false, eval e X.env) :: starEach es X.env := by rfl) (hpl : (backTo pos (starEach es X.env)).any (·.1) = false := by rfl) :
    PE X (.Call (.Name x p) (e :: es) [] pos) (tMkE C sp ta) := by
  refine ⟨fun pins s σ H Q I h => ?_⟩
  obtain ⟨nm, q, N, bs, bm, sn, sub, ab, col, dd, k0, k1, k2, k3, k5, hC, hbm⟩ := T.cls
  refine wpAny_Call_Name_kw (ld_glob I hg hm ?_ hdb)
  refine PySem.W.callWith_K (h₀ := X.base) I.ok.mod.kin T.kC (thn (ha.run pos pins s σ H _ I h) fun us s1 ⟨vs, H1, I1, r1, hz, q1⟩ => ⟨I1.kIn, ?_⟩) he hpl
  show wpAny _ _ (call (.ref C) us) _ _ _
  obtain ⟨hp, g, dr, tk, os⟩ := s1
  have hsz : hp.objs.size ≤ hp.objs.size + 1 := Nat.le_succ _
  have hn : H1 (hp.objs.size + 1) = none := I1.hok.fresh hsz
  have hq := q1 (hp.objs.size + 1) hn
  have kk : ∀ b o, hp.get? b = some o → ((hp.push (PySem.W.kdv_tup us)).push (PySem.HandSPX.excO C hp.objs.size)).get? b = some o := fun b o e => Heap.get?_push_of_some _ (Heap.get?_push_of_some _ e)
  have hget : ((hp.push (PySem.W.kdv_tup us)).push (PySem.HandSPX.excO C hp.objs.size)).get? (hp.objs.size + 1) = some (PySem.HandSPX.excO C hp.objs.size) := by heap_get
  have I2 : Inv X pins σ (upd H1 (hp.objs.size + 1) (exo (hp.objs.size + 1) C none)) ⟨(hp.push (PySem.W.kdv_tup us)).push (PySem.HandSPX.excO C hp.objs.size), g, dr, tk, os⟩ :=
    I1.laid (t' := tk) (a := hp.objs.size + 1) (o := exo (hp.objs.size + 1) C none) (h' := (hp.push (PySem.W.kdv_tup us)).push (PySem.HandSPX.excO C hp.objs.size)) kk hsz (exo_ok hget)
  have r2 : Vals (V.ref (hp.objs.size + 1) :: vs) (Value.ref (hp.objs.size + 1) :: us) := .cons rfl r1
  have hl : (Value.ref (hp.objs.size + 1) :: us).length = ps.length := by
    have e := r2.length
    rw [F1.len _ _ _ _ hq] at e
    exact e.symm
  have hus : us.length ≤ sizeLine := by
    rw [← Paired.length r1, sizeLine_eq]
    omega
  have hbb := hb _ (Value.ref (hp.objs.size + 1) :: us) I2.kIn (by rw [List.append_nil]; exact hl)
  rw [List.append_nil] at hbb
  refine wpAny_call (PySem.HandSPX.call_own F.excBase_ValueError (fun Y => PySem.HandSPX.refsVE_contains Y bm hbm) (I1.kIn _ _ hC) (PySem.W.looks_findIn I1.kIn iC) (fun self => PySem.W.bind_fn I1.kIn self tI) hus
    (codeAny_mono (F1.run _ X.stack _ _ ⟨Value.ref (hp.objs.size + 1) :: us, []⟩ (Value.ref (hp.objs.size + 1) :: us) _ _ (fun _ _ _ => False) (hr.make C us []) (I2.env0.make C us []) hbb r2 hq) fun r s' hq' => ?_))
  cases r with
  | error er => exact hx pins σ _ _ er s' I2 hq'
  | ok fl =>
    cases fl with
    | ret u =>
      obtain ⟨v, H2, os2, bare2, un2, hok2, rv, ev, q2⟩ := hq'
      subst ev
      exact ⟨rv, .ref (hp.objs.size + 1), H2, I2.call' (ch := []) os2 un2 hok2 bare2 (fun b z => absurd z (by simp)), rfl, q2⟩
    | next => exact False.elim hq'
    | brk => exact False.elim hq'
    | cont => exact False.elim hq'
/-- C(), a class without own __init__, as a value; raised -/
theorem pe_mkE0 {x : Str} {p : Pos} {C : Addr} (q : PySem.W.excIn X.K C He.veBase "ValueError.__new__" = true) (gC : X.mg x = some (.ref C)) (kC : PySem.W.keepIn X.K (.ref C) = true) (hg : Gl X x) (hdb : (x == ("__debug__" : Str)) = false := by decide) :
    PE X (.Call (.Name x p) [] [] pos) (fun _ H Q => ∀ a, H a = none → Q (.ref a) (upd H a (ExO (.ref C) a))) := by
  refine ⟨fun pins s σ H Q I h => ?_⟩
  refine wpAny_Call_Name_kw (ld_glob I hg gC ?_ hdb)
  refine PySem.W.callWith_K0 I.kIn kC ?_
  show wpAny _ _ (call (.ref C) []) _ _ _
  obtain ⟨bm, N, nm, qn, bs, hdct, sn, sub, ab, col, dd, k0, k1, k2, k3, k5, mN, hC, hN, hni, T⟩ := exc_obj I.kIn q
  refine wpAny_call_exc_subT F.excBase_ValueError T hC hN hni (fun h' a hm => ?_) (Nat.zero_le _)
  have hn : H a = none := I.hok.gone hm.new
  obtain ⟨t, ht, _, _⟩ := hm.there
  exact ⟨.ref a, upd H a (ExO (.ref C) a), I.laidN hm.keeps hm.new hn (exO_ok ht ⟨rfl, rfl⟩ rfl rfl rfl (show 4 < 6 by decide)), rfl, h a hn⟩
theorem pmk_mkE0 {x : Str} {p : Pos} {C : Addr} (q : PySem.W.excIn X.K C He.veBase "ValueError.__new__" = true) (gC : X.mg x = some (.ref C)) (kC : PySem.W.keepIn X.K (.ref C) = true) (r : Raises X (.ref C)) (hg : Gl X x) (hdb : (x == ("__debug__" : Str)) = false := by decide) :
    PMk X (.Call (.Name x p) [] [] pos) (fun _ H Q => Q (.ref C) none H) := by
  intro pins s σ H Q I h
  refine wpAny_Call_Name_kw (ld_glob I hg gC ?_ hdb)
  refine PySem.W.callWith_K0 I.kIn kC ?_
  show wpAny _ _ (call (.ref C) []) _ _ _
  obtain ⟨bm, N, nm, qn, bs, hdct, sn, sub, ab, col, dd, k0, k1, k2, k3, k5, mN, hC, hN, hni, T⟩ := exc_obj I.kIn q
  refine wpAny_call_exc_subT F.excBase_ValueError T hC hN hni (fun h' e hm => ?_) (Nat.zero_le _)
  exact mk_of I hm r h (I.hok.gone hm.new)
/-! ### err.f of an exception that is held as a value -/
def tXfV (K : PySem.W.Frag) (n : Str) (te : TE) : TE := fun σ H Q => te σ H fun x H1 => ∃ (a C d : Addr) (fs : List (Str × V)) (v : V), x = .ref a ∧ XfC K C ∧ PySem.W.findIn K (.ref C) n = some none ∧ H1 a = some (exo a C (some d)) ∧ H1 d = some (exd d fs) ∧ fs.lookup n = some v ∧ Q v H1
theorem pe_xfv {n : Str} (he : PE X e te) (hb : attributeBase e n X.env (eval e X.env) = eval e X.env := by rfl) : PE X (.Attribute e n pos) (tXfV X.K n te) := by
  refine ⟨fun pins s σ H Q I h => ?_⟩
  refine attr_of hb (thn (he.run pins s σ H _ I h) fun u s1 hh => ?_)
  obtain ⟨x, H1, I1, rx, a, C, d, fs, v, ex, T, hno, ea, ed, l, q⟩ := hh
  subst ex
  obtain rfl : u = Value.ref a := rx
  obtain ⟨t1, ho⟩ := exo_at I1.hok ea
  obtain ⟨mA, hns, hr⟩ := exd_at I1.hok ed
  obtain ⟨od, hod, hl⟩ := lookIn_ns hns
  obtain ⟨u, hu, ru⟩ := RelO.some_of (v := v) (o := mA n) (by rw [← l]; exact hr n)
  have J : PySem.W.InstAt s1.heap a { cls := .ref C, dict := some d, data := .fields #[.ref t1, .none, .none, .none, .bool false, .none] } C (some od) := ⟨ho, rfl, rfl, hod⟩
  exact HandSPX.exc_get I1.kIn J T.ga T.gg T.exC (PySem.W.findObj_own T.hdC hno rfl (by rw [hl, hu])) (handed_of ru) ⟨v, H1, I1.tok _, ru, q⟩
/-! ### isinstance -/
/-- at a: an exception of the class at C -/
def ExAt (H : Hp) (a C : Addr) : Prop := (∃ d fs, H a = some (exo a C (some d)) ∧ H d = some (exd d fs)) ∨ H a = some (ExO (.ref C) a)
def rIsX (K : PySem.W.Frag) : List V → Hp → VK → Prop := fun xs H Q => ∃ (a C : Addr) (c : V) (u : Value) (b : Bool), xs = [.ref a, c] ∧ ClsV c u ∧ ExAt H a C ∧ ExK K C ∧ PySem.W.kitOne K (.ref C) u = some b ∧ Q (.bl b) H
theorem call_isX : CallR X (.builtin "isinstance") (rIsX X.K) := by
  intro pins s σ H xs us Q I r h
  obtain ⟨a, C, c, u, b, rfl, k, ex, T, e, q⟩ := h
  obtain ⟨u1, u2, rfl, r1, r2⟩ := vals2 r
  have e2 := k.eq r2
  subst e2
  obtain rfl : u1 = Value.ref a := r1
  have J : ∃ ox od, PySem.W.InstAt s.heap a ox C od := by
    rcases ex with ⟨d, fs, ea, ed⟩ | ea
    · obtain ⟨t1, ho⟩ := exo_at I.hok ea
      obtain ⟨mA, hns, hr⟩ := exd_at I.hok ed
      obtain ⟨od, hod, _⟩ := lookIn_ns hns
      exact ⟨_, some od, ho, rfl, rfl, hod⟩
    · obtain ⟨⟨oe, vs, ho, ⟨hz1, hz2⟩, hd, _⟩, _⟩ := I.hok a _ ea
      obtain ⟨oc, od, oda, osl⟩ := oe
      dsimp only at hz1 hz2 hd
      subst hz1 hz2 hd
      exact ⟨_, none, ho, rfl, rfl, trivial⟩
  obtain ⟨ox, od, J⟩ := J
  exact PySem.W.kia_one (PySem.W.kitx_exc T.hc T.xf.ga T.xf.gg T.xf.exC T.ha T.hn T.ht T.hm) I.kIn J e (fun z => nomatch z) fun tk => ⟨.bl b, H, I.tok tk, rfl, q⟩
/-- .. of the one that an except suite holds -/
def rIsEd (K : PySem.W.Frag) (a : Addr) (cls : Value) (d : Option Addr) : List V → Hp → VK → Prop := fun xs H Q => ∃ (C dd : Addr) (fs : List (Str × V)) (c : V) (u : Value) (b : Bool), xs = [.ref a, c] ∧ ClsV c u ∧ cls = .ref C ∧ d = some dd ∧ H dd = some (.xd fs) ∧ ExK K C ∧ PySem.W.kitOne K (.ref C) u = some b ∧ Q (.bl b) H
theorem call_isEd {a : Addr} {oe : Obj} {cls : Value} {d : Option Addr} {pn : List (Addr × Obj)} (hz : Zc cls d oe) (hf : ∃ vs, oe.data = .fields vs) : CallR (X.suite a ((a, oe) :: pn)) (.builtin "isinstance") (rIsEd X.K a cls d) := by
  intro pins s σ H xs us Q I r h
  obtain ⟨C, dd, fs, c, u, b, rfl, k, rfl, rfl, ed, T, e, q⟩ := h
  obtain ⟨u1, u2, rfl, r1, r2⟩ := vals2 r
  have e2 := k.eq r2
  subst e2
  obtain rfl : u1 = Value.ref a := r1
  obtain ⟨hget, _⟩ := I.pin (a, oe) (List.mem_append.mpr (.inl List.mem_cons_self))
  obtain ⟨vs, hv⟩ := hf
  obtain ⟨mA, hns, hr⟩ := (show ObjOk X.prog X.w H s.heap dd (.xd fs) from I.hok dd _ ed)
  obtain ⟨od, hod, _⟩ := lookIn_ns hns
  have J : PySem.W.InstAt s.heap a oe C (some od) := by
    obtain ⟨oc, odd, oda, osl⟩ := oe
    obtain ⟨h1, h2⟩ := hz
    dsimp only at h1 h2 hv
    subst h1 h2 hv
    exact ⟨hget, rfl, rfl, hod⟩
  exact PySem.W.kia_one (PySem.W.kitx_exc T.hc T.xf.ga T.xf.gg T.xf.exC T.ha T.hn T.ht T.hm) I.kIn J e (fun z => nomatch z) fun tk => ⟨.bl b, H, I.kept (t' := tk) fun _ _ z => z, rfl, q⟩
end
end VB

set_option Elab.async false
set_option linter.all false
set_option maxRecDepth 100000
set_option maxHeartbeats 4000000
namespace VB
open PySem PySem.Spec PyProof.Rows L2
theorem le_sz {n : Nat} (h : Nat.ble n 1000 = true) : n ≤ sizeLine := Nat.le_trans (Nat.le_of_ble_eq_true h) (by decide)
theorem up_same {H G : Hp} {p : Addr} {o : HO} (h : upd H p o = G) (n : H p = none) : Same H G := h ▸ same_new n
theorem up_at {H G : Hp} {p : Addr} {o : HO} (h : upd H p o = G) : G p = some o := h ▸ upd_same
/-! ### the readings, step by step: one lemma a word, by its head -/
section
variable {K : PySem.W.Frag} {σ : L2.St} {H : Hp} {Q : VK} {D : Ends} {t u : TS} {g : TG} {te ta tb : TE} {i : Nat} {v x y : V} {r : R2} {tr : TA} {QA : List V → Hp → Prop} {QB : Bool → Hp → Prop} {c c' : TT} {QS : L2.St → Hp → Prop}
theorem w_seq (h : t { D with nx := u D } σ H) : tSeq t u D σ H := h
theorem w_next (h : D.nx σ H) : tNext D σ H := h
theorem w_brk (h : D.bk σ H) : tBreak D σ H := h
theorem w_cont (h : D.ct σ H) : tCont D σ H := h
theorem w_asg (h : te σ H fun x H1 => g x σ H1 D.nx) : tAsg te g D σ H := h
theorem w_ret (h : te σ H D.rt) : tRet te D σ H := h
theorem w_drop (h : te σ H fun _ H1 => D.nx σ H1) : tDrop te D σ H := h
theorem w_ifs (h : c σ H fun b H1 => if b = true then t D σ H1 else u D σ H1) : tIfS c t u D σ H := h
theorem w_gname (h : QS (σ.set i (some v)) H) : gName i v σ H QS := h
theorem w_gtup {n : Nat} {gs : TGs} {a : Addr} {xs : List V} (h : SqT K H a xs) (l : xs.length = n) (q : gs xs σ H QS) : gTup K n gs (.ref a) σ H QS := ⟨a, xs, rfl, h, l, q⟩
theorem w_gcons {gs : TGs} {xs : List V} (q : g x σ H fun σ' H' => gs xs σ' H' QS) : gCons g gs (x :: xs) σ H QS := ⟨x, xs, rfl, q⟩
theorem w_gnil (q : QS σ H) : gNil [] σ H QS := ⟨rfl, q⟩
theorem w_par {i j : Nat} (h : tr σ H fun vs H1 => ∃ v w, vs = [v, w] ∧ D.nx ((σ.set i (some v)).set j (some w)) H1) : tPar i j tr D σ H := h
theorem w_par2 {v w : V} {P : V → V → Prop} (h : P v w) : ∃ v' w', [v, w] = [v', w'] ∧ P v' w' := ⟨v, w, rfl, h⟩
theorem w_var (h : σ[i]? = some (some v)) (q : Q v H) : tVar i σ H Q := ⟨v, h, q⟩
theorem w_c (q : Q v H) : tC v σ H Q := q
theorem w_op (h : ta σ H fun x H1 => tb σ H1 fun y H2 => r x y H2 Q) : tOp r ta tb σ H Q := h
theorem w_un {f : V → Hp → VK → Prop} (h : ta σ H fun x H1 => f x H1 Q) : tUn f ta σ H Q := h
theorem w_rU {g : Int → V} {i : Int} (q : Q (g i) H) : rU g (.int i) H Q := ⟨i, rfl, q⟩
theorem w_I0 {g : Int → Int → V} {i j : Int} (q : Q (g i j) H) : rI0 g (.int i) (.int j) H Q := ⟨i, j, rfl, rfl, q⟩
theorem w_I {C : Int → Int → Prop} {g : Int → Int → V} {i j : Int} (hc : C i j) (q : Q (g i j) H) : rI C g (.int i) (.int j) H Q := ⟨i, j, rfl, rfl, hc, q⟩
theorem w_eq (h : scal x y = true) (q : Q (.bl (decide (x = y))) H) : rEq x y H Q := ⟨h, q⟩
theorem w_ne (h : scal x y = true) (q : Q (.bl (!decide (x = y))) H) : rNe x y H Q := ⟨h, q⟩
theorem w_test (h : te σ H fun x H1 => ∃ k, x = .bl k ∧ QB k H1) : tTest te σ H QB := h
theorem w_tB (h : te σ H fun x H1 => ∃ k, x = .bl k ∧ QB k H1) : tB te σ H QB := h
theorem w_bl {b : Bool} {P : Bool → Prop} (q : P b) : ∃ k, V.bl b = .bl k ∧ P k := ⟨b, rfl, q⟩
theorem w_tru {k : Bool} {P : Bool → Prop} (h : TruV K x H k) (q : P k) : ∃ k, TruV K x H k ∧ P k := ⟨k, h, q⟩
theorem w_tTru (h : te σ H fun x H1 => ∃ k, TruV K x H1 k ∧ QB k H1) : tTru K te σ H QB := h
theorem w_and (h : c σ H fun b H1 => if b = true then c' σ H1 QB else QB false H1) : tAnd c c' σ H QB := h
theorem w_or (h : c σ H fun b H1 => if b = true then QB true H1 else c' σ H1 QB) : tOr c c' σ H QB := h
theorem w_not (h : c σ H fun b H1 => QB (!b) H1) : tNot c σ H QB := h
theorem w_if (h : c σ H fun b H1 => if b = true then ta σ H1 Q else tb σ H1 Q) : tIf c ta tb σ H Q := h
theorem w_cons (h : te σ H fun x H1 => tr σ H1 fun xs H2 => QA (x :: xs) H2) : tCons te tr σ H QA := h
theorem w_nil (q : QA [] H) : tNil σ H QA := q
theorem w_lst (h : tr σ H fun xs H1 => xs.length ≤ sizeLine ∧ ∀ p, H1 p = none → Q (.ref p) (upd H1 p (.lst xs))) : tLst tr σ H Q := h
theorem w_tup (h : tr σ H fun xs H1 => xs.length ≤ sizeLine ∧ ∀ p, H1 p = none → Q (.ref p) (upd H1 p (.tup xs))) : tTup tr σ H Q := h
theorem w_cb {f : List V → Hp → VK → Prop} (h : tr σ H fun vs H1 => f vs H1 Q) : tCB f tr σ H Q := h
theorem w_call {sp : Sp} {dvs : List V} {E : XK} (h : tr σ H fun vs H1 => sp (vs ++ dvs) H1 Q E) : tCall sp dvs E tr σ H Q := h
theorem w_int {i : Int} (q : Q (.int i) H) : rIntU [.int i] H Q := .inl ⟨i, rfl, q⟩
theorem w_dget {td ty : TE} (h : td σ H fun x H1 => ty σ H1 fun y H2 => ∃ a v, x = .ref a ∧ DGet H2 a y (some v) ∧ Q v H2) : tDGet td ty σ H Q := h
theorem w_dput {td ty tv : TE} (h : tv σ H fun v H1 => td σ H1 fun x H2 => ty σ H2 fun y H3 => ∃ a H4, x = .ref a ∧ DPut H3 a y v H4 ∧ D.nx σ H4) : sDPut td ty tv D σ H := h
theorem w_fld {f : Str} (h : ta σ H fun x H1 => ∃ a C dx fs v, x = .ref a ∧ H1 a = some (.ins C dx fs) ∧ Cls K C ∧ NoAttr K C f ∧ fs.lookup f = some v ∧ Q v H1) : tFld K ta f σ H Q := h
theorem w_bm {T : String} {f : V → List V → Hp → VK → Prop} (h : ta σ H fun x H1 => tyV K T x H1 ∧ tr σ H1 fun xs H2 => f x xs H2 Q) : tBM K T f ta tr σ H Q := h
theorem w_bm0 {T : String} {f : V → List V → Hp → VK → Prop} (h : ta σ H fun x H1 => tyV K T x H1 ∧ f x [] H1 Q) : tBM0 K T f ta σ H Q := h
theorem w_sl {f : V → Option Int → Option Int → Hp → VK → Prop} {tl th : TO} (h : te σ H fun x H1 => tl σ H1 fun l H2 => th σ H2 fun u H3 => f x l u H3 Q) : tSl f te tl th σ H Q := h
theorem w_nopart {QO : Option Int → Hp → Prop} (q : QO none H) : tNoPart σ H QO := q
theorem w_part {QO : Option Int → Hp → Prop} (h : te σ H fun x H1 => ∃ i, x = .int i ∧ QO (some i) H1) : tPart te σ H QO := h
theorem w_ix {i : Int} {P : Int → Prop} (q : P i) : ∃ j, V.int i = .int j ∧ P j := ⟨i, rfl, q⟩
theorem w_ixL {a : Addr} {xs : List V} {i : Int} (h : SqL K H a xs) (e : atI xs i = some v) (q : Q v H) : rIxL K (.ref a) (.int i) H Q := ⟨a, xs, i, v, rfl, rfl, h, e, q⟩
theorem w_ixT {a : Addr} {xs : List V} {i : Int} (h : SqT K H a xs) (e : atI xs i = some v) (q : Q v H) : rIxT K (.ref a) (.int i) H Q := ⟨a, xs, i, v, rfl, rfl, h, e, q⟩
theorem w_yes (q : QB true H) : tYes σ H QB := q
theorem w_app {a : Addr} {xs : List V} (h : H a = some (.lst xs)) (l : xs.length < sizeLine) (q : Q .non (upd H a (.lst (xs ++ [v])))) : rAppend (.ref a) [v] H Q := ⟨a, xs, v, rfl, rfl, h, l, q⟩
/-- a simple expression: its value, the heap as it was -/
def ValE (te : TE) (σ : L2.St) (x : V) : Prop := ∀ H (Q : VK), Q x H → te σ H Q
theorem valE_var (h : σ[i]? = some (some v)) : ValE (tVar i) σ v := fun _ _ q => ⟨v, h, q⟩
theorem valE_c : ValE (tC v) σ v := fun _ _ q => q
end
end VB

set_option Elab.async false
set_option linter.all false
set_option maxRecDepth 100000
set_option maxHeartbeats 4000000
namespace VB
open PySem PySem.Spec PyProof.Rows L2
/-! ### the pick -/
def sp__law_pen (K : PySem.W.Frag) : Sp := sp_pen K
def sp__law_draw (K : PySem.W.Frag) : Sp := sp_draw K
/-- one of some -/
def sp__law_pick (K : PySem.W.Frag) : Sp := fun vs H Q _ => ∃ (p a : Addr) (c : Int) (xs : List V), vs = [.ref p, .ref a] ∧ (SqL K H a xs ∨ SqT K H a xs) ∧ 0 < xs.length ∧ xs.length ≤ 100000 ∧ PenAt c p H ∧ c ≤ 1000000000000 ∧
  ∀ v H', v ∈ xs → PenAt (c + 1) p H' → SameB p H H' → Q v H'
def t__law_pick (K : PySem.W.Frag) : TS := (tRet (tOp (rIx K) (tVar 1) (tCall (sp__law_draw K) [] E0 (tCons (tVar 0) (tCons (tCB (rLenU K) (tCons (tVar 1) tNil)) tNil)))))
section
variable {K : PySem.W.Frag}
theorem rd_pick (vs : List V) (H : Hp) (Q : VK) (E : XK) (h : sp__law_pick K vs H Q E) : t__law_pick K { nx := fun _ H' => Q .non H', rt := Q } (start ["pen", "some"] vs) H := by
  obtain ⟨p, a, c, xs, rfl, hS, h0, hl, hP, hc, k⟩ := h
  refine ⟨_, rfl, _, rfl, _, rfl, _, xs.length, rfl, ?_, p, xs.length, c, rfl, by omega, by omega, hP, hc, fun d H' d0 d1 P' s' => ?_⟩
  · rcases hS with h | h
    · exact .inl ⟨xs, h, rfl⟩
    · exact .inr ⟨xs, h, rfl⟩
  · obtain ⟨kvs, hk⟩ := hP.dk
    have hj : d.toNat < xs.length := by omega
    have ha : atI xs d = some xs[d.toNat] := at_of (j := d.toNat) (by omega) (List.getElem?_eq_getElem hj)
    have q := k xs[d.toNat] H' (List.getElem_mem hj) P' s'
    rcases hS with h | h
    · exact .inl ⟨a, xs, d, _, rfl, rfl, sqL_b hk s' h, ha, q⟩
    · exact .inr (.inl ⟨a, xs, d, _, rfl, rfl, sqT_b hk s' h, ha, q⟩)
end
/-! ### exceptions as values -/
/-- at a: an exception of the class at C with these fields -/
def ExV (H : Hp) (a C : Addr) (fs : List (Str × V)) : Prop := ∃ d, H a = some (exo a C (some d)) ∧ H d = some (exd d fs)
theorem ExV.same {H H' : Hp} {a C : Addr} {fs : List (Str × V)} (h : ExV H a C fs) (e : Same H H') : ExV H' a C fs := by
  obtain ⟨d, h1, h2⟩ := h
  exact ⟨d, e _ _ h1, e _ _ h2⟩
theorem ExV.ex {H : Hp} {a C : Addr} {fs : List (Str × V)} (h : ExV H a C fs) : ExAt H a C := by
  obtain ⟨d, h1, h2⟩ := h
  exact .inl ⟨d, fs, h1, h2⟩
theorem ExAt.same {H H' : Hp} {a C : Addr} (h : ExAt H a C) (e : Same H H') : ExAt H' a C := by
  rcases h with ⟨d, fs, h1, h2⟩ | h
  · exact .inl ⟨d, fs, e _ _ h1, e _ _ h2⟩
  · exact .inr (e _ _ h)
theorem exo_ne_dk {a C : Addr} {d : Option Addr} {kvs : List (Key × V)} : exo a C d ≠ .dK kvs := fun z => by
  have z' : HO.ext _ = HO.dK kvs := z
  cases z'
theorem exd_ne_dk {d : Addr} {fs : List (Str × V)} {kvs : List (Key × V)} : exd d fs ≠ .dK kvs := fun z => by
  have z' : HO.ext _ = HO.dK kvs := z
  cases z'
theorem exo_ne_lst {a C : Addr} {d : Option Addr} {xs : List V} : exo a C d ≠ .lst xs := fun z => by
  have z' : HO.ext _ = HO.lst xs := z
  cases z'
theorem exd_ne_lst {d : Addr} {fs : List (Str × V)} {xs : List V} : exd d fs ≠ .lst xs := fun z => by
  have z' : HO.ext _ = HO.lst xs := z
  cases z'
theorem ExV.b {H H' : Hp} {p a C : Addr} {fs : List (Str × V)} {kvs : List (Key × V)} (h : ExV H a C fs) (hp : H p = some (.dK kvs)) (e : SameB p H H') : ExV H' a C fs := by
  obtain ⟨d, h1, h2⟩ := h
  exact ⟨d, e _ _ (ne_of h1 hp exo_ne_dk) h1, e _ _ (ne_of h2 hp exd_ne_dk) h2⟩
theorem ExV.bl {H H' : Hp} {p a C : Addr} {fs : List (Str × V)} {xs : List V} (h : ExV H a C fs) (hp : H p = some (.lst xs)) (e : SameB p H H') : ExV H' a C fs := by
  obtain ⟨d, h1, h2⟩ := h
  exact ⟨d, e _ _ (ne_of h1 hp exo_ne_lst) h1, e _ _ (ne_of h2 hp exd_ne_lst) h2⟩
/-- .. and its dict was not there in H0 -/
def ExN (H0 H : Hp) (a C : Addr) (fs : List (Str × V)) : Prop := ∃ d, H0 d = none ∧ H a = some (exo a C (some d)) ∧ H d = some (exd d fs)
theorem ExN.v {H0 H : Hp} {a C : Addr} {fs : List (Str × V)} (h : ExN H0 H a C fs) : ExV H a C fs := by
  obtain ⟨d, _, h1, h2⟩ := h
  exact ⟨d, h1, h2⟩
abbrev NoF (K : PySem.W.Frag) (C : Addr) (f : Str) : Prop := PySem.W.findIn K (.ref C) f = some none
theorem le_k {n : Nat} (h : Nat.ble n 1000 = true) : n ≤ 1000 := Nat.le_of_ble_eq_true h
def sp_ini1 (K : PySem.W.Frag) (f : Str) : Sp := fun vs H Q _ => ∃ (a C : Addr) (x : V), vs = [.ref a, x] ∧ OexC K C ∧ NoF K C f ∧ H a = some (exo a C none) ∧ ∀ H', SameB a H H' → ExN H H' a C [(f, x)] → Q .non H'
def sp_ini2 (K : PySem.W.Frag) (f g : Str) : Sp := fun vs H Q _ => ∃ (a C : Addr) (x y : V), vs = [.ref a, x, y] ∧ OexC K C ∧ NoF K C f ∧ NoF K C g ∧ H a = some (exo a C none) ∧ ∀ H', SameB a H H' → ExN H H' a C [(g, y), (f, x)] → Q .non H'
def sp_ini3 (K : PySem.W.Frag) (f g h : Str) : Sp := fun vs H Q _ => ∃ (a C : Addr) (x y z : V), vs = [.ref a, x, y, z] ∧ OexC K C ∧ NoF K C f ∧ NoF K C g ∧ NoF K C h ∧ H a = some (exo a C none) ∧ ∀ H', SameB a H H' → ExN H H' a C [(h, z), (g, y), (f, x)] → Q .non H'
def t_ini1 (K : PySem.W.Frag) (f : Str) : TS := tOst K f (tVar 0) (tVar 1)
def t_ini2 (K : PySem.W.Frag) (f g : Str) : TS := tSeq (tOst K f (tVar 0) (tVar 1)) (tOst K g (tVar 0) (tVar 2))
def t_ini3 (K : PySem.W.Frag) (f g h : Str) : TS := tSeq (tOst K f (tVar 0) (tVar 1)) (tSeq (tOst K g (tVar 0) (tVar 2)) (tOst K h (tVar 0) (tVar 3)))
section
variable {K : PySem.W.Frag} {H H1 : Hp} {Q : VK} {E : XK} {a C : Addr} {f g h : Str} {x y z : V}
theorem same_ini {dx : Addr} (hd : H dx = none) (ne : dx ≠ a) (o o' : HO) : SameB a H (upd (upd H dx o) a o') := fun b u n e => by
  rw [upd_ne n, upd_ne (ne_of_none e hd)]
  exact e
theorem rd_ini1 {a' x' : Str} (vs : List V) (h : sp_ini1 K f vs H Q E) : t_ini1 K f { nx := fun _ H' => Q .non H', rt := Q } (start [a', x'] vs) H := by
  obtain ⟨a, C, x, rfl, T, n1, ea, k⟩ := h
  refine ⟨_, rfl, _, rfl, a, C, rfl, T, n1, .inl ⟨ea, fun dx hd ne => ?_⟩⟩
  exact k _ (same_ini hd ne _ _) ⟨dx, hd, upd_same, by rw [upd_ne ne]; exact upd_same⟩
theorem rd_ini2 {a' x' y' : Str} (vs : List V) (h : sp_ini2 K f g vs H Q E) : t_ini2 K f g { nx := fun _ H' => Q .non H', rt := Q } (start [a', x', y'] vs) H := by
  obtain ⟨a, C, x, y, rfl, T, n1, n2, ea, k⟩ := h
  refine ⟨_, rfl, _, rfl, a, C, rfl, T, n1, .inl ⟨ea, fun dx hd ne => ?_⟩⟩
  refine ⟨_, rfl, _, rfl, a, C, rfl, T, n2, .inr ⟨dx, _, upd_same, by rw [upd_ne ne]; exact upd_same, by show 1 ≤ 900; decide, ?_⟩⟩
  refine k _ (fun b u n e => ?_) ⟨dx, hd, by rw [upd_ne (Ne.symm ne)]; exact upd_same, upd_same⟩
  rw [upd_ne (ne_of_none e hd)]
  exact same_ini hd ne _ _ b u n e
theorem rd_ini3 {a' x' y' z' : Str} (vs : List V) (h' : sp_ini3 K f g h vs H Q E) : t_ini3 K f g h { nx := fun _ H' => Q .non H', rt := Q } (start [a', x', y', z'] vs) H := by
  obtain ⟨a, C, x, y, z, rfl, T, n1, n2, n3, ea, k⟩ := h'
  refine ⟨_, rfl, _, rfl, a, C, rfl, T, n1, .inl ⟨ea, fun dx hd ne => ?_⟩⟩
  refine ⟨_, rfl, _, rfl, a, C, rfl, T, n2, .inr ⟨dx, _, upd_same, by rw [upd_ne ne]; exact upd_same, by show 1 ≤ 900; decide, ?_⟩⟩
  refine ⟨_, rfl, _, rfl, a, C, rfl, T, n3, .inr ⟨dx, _, by rw [upd_ne (Ne.symm ne)]; exact upd_same, upd_same, by show 2 ≤ 900; decide, ?_⟩⟩
  refine k _ (fun b u n e => ?_) ⟨dx, hd, by rw [upd_ne (Ne.symm ne), upd_ne (Ne.symm ne)]; exact upd_same, upd_same⟩
  rw [upd_ne (ne_of_none e hd), upd_ne (ne_of_none e hd)]
  exact same_ini hd ne _ _ b u n e
/-- what stands behind the making: a new exception -/
theorem same_mk {o : HO} {H' : Hp} (ha : H a = none) (s : SameB a (upd H a o) H') : Same H H' := fun b u e => s b u (ne_of_none e ha) (by rw [upd_ne (ne_of_none e ha)]; exact e)
theorem mk1 (T : OexC K C) (n1 : NoF K C f) (k : ∀ a H', Same H H' → ExV H' a C [(f, x)] → Q (.ref a) H') : ∀ a, H a = none → sp_ini1 K f [.ref a, x] (upd H a (exo a C none)) (fun v H2 => v = .non ∧ Q (.ref a) H2) E :=
  fun a ha => ⟨a, C, x, rfl, T, n1, upd_same, fun H' s e => ⟨rfl, k a H' (same_mk ha s) e.v⟩⟩
theorem mk2 (T : OexC K C) (n1 : NoF K C f) (n2 : NoF K C g) (k : ∀ a H', Same H H' → ExV H' a C [(g, y), (f, x)] → Q (.ref a) H') : ∀ a, H a = none → sp_ini2 K f g [.ref a, x, y] (upd H a (exo a C none)) (fun v H2 => v = .non ∧ Q (.ref a) H2) E :=
  fun a ha => ⟨a, C, x, y, rfl, T, n1, n2, upd_same, fun H' s e => ⟨rfl, k a H' (same_mk ha s) e.v⟩⟩
theorem mk3 (T : OexC K C) (n1 : NoF K C f) (n2 : NoF K C g) (n3 : NoF K C h) (k : ∀ a H', Same H H' → ExV H' a C [(h, z), (g, y), (f, x)] → Q (.ref a) H') : ∀ a, H a = none → sp_ini3 K f g h [.ref a, x, y, z] (upd H a (exo a C none)) (fun v H2 => v = .non ∧ Q (.ref a) H2) E :=
  fun a ha => ⟨a, C, x, y, z, rfl, T, n1, n2, n3, upd_same, fun H' s e => ⟨rfl, k a H' (same_mk ha s) e.v⟩⟩
/-- err.f -/
theorem xfv {n : Str} {fs : List (Str × V)} {v : V} (e : ExV H a C fs) (T : XfC K C) (no : NoF K C n) (l : fs.lookup n = some v) (q : Q v H) :
    ∃ (a' C d : Addr) (fs : List (Str × V)) (v : V), V.ref a = .ref a' ∧ XfC K C ∧ PySem.W.findIn K (.ref C) n = some none ∧ H a' = some (exo a' C (some d)) ∧ H d = some (exd d fs) ∧ fs.lookup n = some v ∧ Q v H := by
  obtain ⟨d, h1, h2⟩ := e
  exact ⟨a, C, d, fs, v, rfl, T, no, h1, h2, l, q⟩
end
section
variable {K : PySem.W.Frag} {H : Hp} {Q : VK} {σ : L2.St} {C : Addr} {f g h n : Str} {x y z v : V} {ta tb tc : TE}
theorem w_mk1 (T : OexC K C) (n1 : NoF K C f) (hx : ValE ta σ x) (k : ∀ a H', Same H H' → ExV H' a C [(f, x)] → Q (.ref a) H') : tMkE C (sp_ini1 K f) (tCons ta tNil) σ H Q := hx _ _ ⟨le_k rfl, mk1 T n1 k⟩
theorem w_mk2 (T : OexC K C) (n1 : NoF K C f) (n2 : NoF K C g) (hx : ValE ta σ x) (hy : ValE tb σ y) (k : ∀ a H', Same H H' → ExV H' a C [(g, y), (f, x)] → Q (.ref a) H') : tMkE C (sp_ini2 K f g) (tCons ta (tCons tb tNil)) σ H Q := hx _ _ (hy _ _ ⟨le_k rfl, mk2 T n1 n2 k⟩)
theorem w_mk3 (T : OexC K C) (n1 : NoF K C f) (n2 : NoF K C g) (n3 : NoF K C h) (hx : ValE ta σ x) (hy : ValE tb σ y) (hz : ValE tc σ z) (k : ∀ a H', Same H H' → ExV H' a C [(h, z), (g, y), (f, x)] → Q (.ref a) H') : tMkE C (sp_ini3 K f g h) (tCons ta (tCons tb (tCons tc tNil))) σ H Q := hx _ _ (hy _ _ (hz _ _ ⟨le_k rfl, mk3 T n1 n2 n3 k⟩))
theorem w_xfv {a : Addr} {fs : List (Str × V)} (hx : ∀ Q : VK, Q (.ref a) H → ta σ H Q) (e : ExV H a C fs) (T : XfC K C) (no : NoF K C n) (l : fs.lookup n = some v) (q : Q v H) : tXfV K n ta σ H Q := hx _ (xfv e T no l q)
theorem w_xfm (T : OexC K C) (T2 : XfC K C) (no : NoF K C n) (hx : ValE ta σ x) (l : [(n, x)].lookup n = some x) (k : ∀ H', Same H H' → Q x H') : tXfV K n (tMkE C (sp_ini1 K n) (tCons ta tNil)) σ H Q := w_mk1 T no hx fun a H' s e => xfv e T2 no l (k H' s)
end
def tMkE0 (C : Addr) : TE := fun _ H Q => ∀ a, H a = none → Q (.ref a) (upd H a (ExO (.ref C) a))
end VB

set_option Elab.async false
set_option linter.all false
set_option maxRecDepth 100000
set_option maxHeartbeats 8000000
namespace VB
open PySem PySem.Spec PyProof.Rows L2
local macro_rules | `(tactic| walk_at "ve") => `(tactic| first | exact valE_var rfl | exact valE_c)
local macro_rules | `(tactic| walk_at "rd1") => `(tactic| first
  | with_reducible refine w_seq ?_ | with_reducible refine w_asg ?_ | with_reducible refine w_ret ?_ | with_reducible refine w_drop ?_ | with_reducible refine w_ifs ?_ | with_reducible refine w_gname ?_ | with_reducible refine w_next ?_
  | ((with_reducible refine w_var (v := ?v) ?h ?_); (case h => exact rfl)) | with_reducible refine w_c ?_ | with_reducible refine w_op ?_ | with_reducible refine w_cons ?_ | with_reducible refine w_nil ?_ | with_reducible refine w_lst ?_ | with_reducible refine w_tup ?_
  | with_reducible refine w_test ?_ | with_reducible refine w_tB ?_ | with_reducible refine w_bl ?_ | with_reducible refine w_cb ?_ | with_reducible refine w_call ?_ | with_reducible refine w_I0 ?_ | with_reducible refine w_un ?_ | with_reducible refine w_rU ?_
  | ((with_reducible refine w_eq ?h ?_); (case h => rfl)) | ((with_reducible refine w_ne ?h ?_); (case h => rfl)) | with_reducible refine w_and ?_ | with_reducible refine w_or ?_ | with_reducible refine w_not ?_ | with_reducible refine w_if ?_ | with_reducible refine w_int ?_
  | with_reducible refine w_tTru ?_ | with_reducible refine w_dget ?_ | with_reducible refine w_dput ?_ | with_reducible refine w_fld ?_ | with_reducible refine w_bm ?_ | with_reducible refine w_bm0 ?_ | with_reducible refine w_sl ?_ | with_reducible refine w_nopart ?_ | with_reducible refine w_part ?_ | with_reducible refine w_ix ?_
  | with_reducible refine w_par ?_ | with_reducible refine w_par2 ?_ | with_reducible refine w_gcons ?_ | with_reducible refine w_gnil ?_ | with_reducible refine w_yes ?_ | with_reducible refine w_brk ?_ | with_reducible refine w_cont ?_
  | ((with_reducible refine w_I ?h ?_); (case h => walk_at "rdc")))
local macro_rules | `(tactic| walk_at "rdc") => `(tactic| first
  | (show (0 : Int) < _; first | decide | omega) | (show (0 : Int) ≤ _; first | decide | omega) | exact ⟨by decide, by decide, by decide⟩ | exact .inl ⟨by omega, by omega⟩ | exact .inr ⟨by omega, by omega⟩)
local macro_rules | `(tactic| walk_at "rd") => `(tactic| repeat walk_at "rd1")
local macro_rules | `(tactic| walk_at "nw0") => `(tactic| (intro p np; generalize hG : upd _ p _ = G; (have s := up_same hG np); (have e := up_at hG); clear hG np))
local macro_rules | `(tactic| walk_at "nw") => `(tactic| (refine ⟨le_sz rfl, ?_⟩; walk_at "nw0"))
/-! ### the classes of errors, in the law's order -/
def clsN : List Str := ["BadText", "BadName", "BadNumber", "BadSaying", "BadLetter", "BadBody", "BadAim", "BadRow", "NoName", "TakenName", "Unlike", "NotThere", "TooMany", "NotKept", "NothingToUndo", "NothingToRedo"]
def cn (k : Nat) : Str := clsN.getD k ""
def fldN : List (Str × Str) := [("BadText", "line"), ("BadText", "word"), ("BadName", "name"), ("BadNumber", "what"), ("BadNumber", "number"), ("BadSaying", "saying"), ("BadLetter", "index"), ("BadBody", "body"), ("BadAim", "index"), ("BadRow", "what"), ("BadRow", "row"), ("NoName", "name"), ("TakenName", "name"), ("Unlike", "what"), ("NotThere", "what"), ("TooMany", "what"), ("TooMany", "many"), ("TooMany", "limit"), ("NotKept", "promise"), ("NotKept", "witness")]
structure Kx (K : PySem.W.Frag) : Prop where
  ex : ∀ k, k < 16 → ExK K (He.ga K (cn k))
  no : ∀ p ∈ fldN, NoF K (He.ga K p.1) p.2
  kit : ∀ k j, k < 16 → j < 16 → PySem.W.kitOne K (.ref (He.ga K (cn k))) (.ref (He.ga K (cn j))) = some (decide (k = j))
  kF : ∀ k, k < 16 → PySem.W.kitOne K (.ref (He.ga K (cn k))) (.ref (He.ga K "ForumError")) = some true
  kV : ∀ k, k < 16 → PySem.W.kitOne K (.ref (He.ga K (cn k))) (.type "ValueError") = some true
  e1 : PySem.W.exmOne K (.ref (He.ga K "TooMany")) (.ref (He.ga K "ForumError")) = some true
  e2 : PySem.W.exmOne K (.ref (He.ga K "NothingToRedo")) (.ref (He.ga K "NothingToUndo")) = some false
  e3 : PySem.W.exmOne K (.ref (He.ga K "NothingToRedo")) (.ref (He.ga K "ForumError")) = some true
  e4 : PySem.W.exmOne K (.ref (He.ga K "NoName")) (.ref (He.ga K "ForumError")) = some true
def kxB (K : PySem.W.Frag) : Bool := (List.range 16).all (fun k => exkB K (He.ga K (cn k))) && fldN.all (fun p => decide (PySem.W.findIn K (.ref (He.ga K p.1)) p.2 = some none)) &&
  (List.range 16).all (fun k => (List.range 16).all fun j => decide (PySem.W.kitOne K (.ref (He.ga K (cn k))) (.ref (He.ga K (cn j))) = some (decide (k = j)))) &&
  (List.range 16).all (fun k => decide (PySem.W.kitOne K (.ref (He.ga K (cn k))) (.ref (He.ga K "ForumError")) = some true)) && (List.range 16).all (fun k => decide (PySem.W.kitOne K (.ref (He.ga K (cn k))) (.type "ValueError") = some true)) &&
  decide (PySem.W.exmOne K (.ref (He.ga K "TooMany")) (.ref (He.ga K "ForumError")) = some true) && decide (PySem.W.exmOne K (.ref (He.ga K "NothingToRedo")) (.ref (He.ga K "NothingToUndo")) = some false) &&
  decide (PySem.W.exmOne K (.ref (He.ga K "NothingToRedo")) (.ref (He.ga K "ForumError")) = some true) && decide (PySem.W.exmOne K (.ref (He.ga K "NoName")) (.ref (He.ga K "ForumError")) = some true)
theorem kx_ok {K : PySem.W.Frag} (h : kxB K = true) : Kx K := by
  unfold kxB at h
  simp only [Bool.and_eq_true, List.all_eq_true, List.mem_range, decide_eq_true_eq] at h
  obtain ⟨⟨⟨⟨⟨⟨⟨⟨h1, h2⟩, h3⟩, h4⟩, h5⟩, h6⟩, h7⟩, h8⟩, h9⟩ := h
  exact ⟨fun k hk => exk_ok (h1 k hk), h2, fun k j hk hj => h3 k hk j hj, h4, h5, h6, h7, h8, h9⟩
/-! ### things -/
def okD (d : PyData) : Prop := d.canLay0 = true ∧ d.depth ≤ 10
theorem okD_list {ds : List PyData} (h : ∀ d ∈ ds, okD d) : SeqAt.shaped (.list ds) = true := by
  have a : ∀ ds : List PyData, (∀ d ∈ ds, okD d) → PyData.canLayAll0 ds = true ∧ PyData.depthAll ds ≤ 10 := by
    intro ds
    induction ds with
    | nil => intro _; exact ⟨rfl, Nat.zero_le _⟩
    | cons d r ih =>
      intro h
      have h1 := h d List.mem_cons_self
      have h2 := ih fun e he => h e (List.mem_cons_of_mem _ he)
      refine ⟨?_, ?_⟩
      · show (PyData.canLay0 d && PyData.canLayAll0 r) = true
        rw [h1.1, h2.1] <;> rfl
      · show max (PyData.depth d) (PyData.depthAll r) ≤ 10
        have := h1.2
        have := h2.2
        omega
  have q := a ds h
  show (PyData.canLayAll0 ds && decide (PyData.depthAll ds + 1 ≤ 64)) = true
  rw [q.1, Bool.true_and]
  exact decide_eq_true (by have := q.2; omega)
def sp__law_thing (K : PySem.W.Frag) : Sp := fun vs H Q _ => ∃ (p : Addr) (c : Int), vs = [.ref p] ∧ PenAt c p H ∧ c ≤ 1000000000000 ∧ ∀ v d H', Dp K H' v d → okD d → PenAt (c + 1) p H' → SameB p H H' → Q v H'
def sp__law_fields_right (K : PySem.W.Frag) : Sp := fun vs H Q _ => ∃ (v w : V) (d e : PyData), vs = [v, w] ∧ Dp K H v d ∧ Dp K H w e ∧ okD d ∧ okD e ∧ ∀ H', Same H H' → Q (.bl true) H'
def bools16 (k : Nat) : List V := (List.range 16).map fun j => V.bl (decide (k = j))
def sp__law_classes (K : PySem.W.Frag) : Sp := fun vs H Q _ => ∃ (a : Addr) (k : Nat), vs = [.ref a] ∧ k < 16 ∧ ExAt H a (He.ga K (cn k)) ∧ ∀ p H', Same H H' → H' p = some (.lst (bools16 k)) → Q (.ref p) H'
def sp__law_raised_right (K : PySem.W.Frag) : Sp := fun vs H Q _ => ∃ (v : V) (d : PyData), vs = [v] ∧ Dp K H v d ∧ okD d ∧ ∀ H', Q (.bl true) H'
def sp_law (K : PySem.W.Frag) : Sp := fun vs H Q _ => ∃ (a : Addr) (ns : List Int), vs = [.ref a] ∧ SqL K H a (ns.map V.int) ∧ ns.length ≤ 63 ∧ ∀ H', Q (.bl true) H'
theorem kx_BadText {K : PySem.W.Frag} (T : Kx K) : ExK K (He.ga K "BadText") := T.ex 0 (by decide)
theorem kx_BadName {K : PySem.W.Frag} (T : Kx K) : ExK K (He.ga K "BadName") := T.ex 1 (by decide)
theorem kx_BadNumber {K : PySem.W.Frag} (T : Kx K) : ExK K (He.ga K "BadNumber") := T.ex 2 (by decide)
theorem kx_BadSaying {K : PySem.W.Frag} (T : Kx K) : ExK K (He.ga K "BadSaying") := T.ex 3 (by decide)
theorem kx_BadLetter {K : PySem.W.Frag} (T : Kx K) : ExK K (He.ga K "BadLetter") := T.ex 4 (by decide)
theorem kx_BadBody {K : PySem.W.Frag} (T : Kx K) : ExK K (He.ga K "BadBody") := T.ex 5 (by decide)
theorem kx_BadAim {K : PySem.W.Frag} (T : Kx K) : ExK K (He.ga K "BadAim") := T.ex 6 (by decide)
theorem kx_BadRow {K : PySem.W.Frag} (T : Kx K) : ExK K (He.ga K "BadRow") := T.ex 7 (by decide)
theorem kx_NoName {K : PySem.W.Frag} (T : Kx K) : ExK K (He.ga K "NoName") := T.ex 8 (by decide)
theorem kx_TakenName {K : PySem.W.Frag} (T : Kx K) : ExK K (He.ga K "TakenName") := T.ex 9 (by decide)
theorem kx_Unlike {K : PySem.W.Frag} (T : Kx K) : ExK K (He.ga K "Unlike") := T.ex 10 (by decide)
theorem kx_NotThere {K : PySem.W.Frag} (T : Kx K) : ExK K (He.ga K "NotThere") := T.ex 11 (by decide)
theorem kx_TooMany {K : PySem.W.Frag} (T : Kx K) : ExK K (He.ga K "TooMany") := T.ex 12 (by decide)
theorem kx_NotKept {K : PySem.W.Frag} (T : Kx K) : ExK K (He.ga K "NotKept") := T.ex 13 (by decide)
theorem kx_NothingToUndo {K : PySem.W.Frag} (T : Kx K) : ExK K (He.ga K "NothingToUndo") := T.ex 14 (by decide)
theorem kx_NothingToRedo {K : PySem.W.Frag} (T : Kx K) : ExK K (He.ga K "NothingToRedo") := T.ex 15 (by decide)
theorem kn_BadText_line {K : PySem.W.Frag} (T : Kx K) : NoF K (He.ga K "BadText") "line" := T.no ("BadText", "line") (by decide +kernel)
theorem kn_BadText_word {K : PySem.W.Frag} (T : Kx K) : NoF K (He.ga K "BadText") "word" := T.no ("BadText", "word") (by decide +kernel)
theorem kn_BadName_name {K : PySem.W.Frag} (T : Kx K) : NoF K (He.ga K "BadName") "name" := T.no ("BadName", "name") (by decide +kernel)
theorem kn_BadNumber_what {K : PySem.W.Frag} (T : Kx K) : NoF K (He.ga K "BadNumber") "what" := T.no ("BadNumber", "what") (by decide +kernel)
theorem kn_BadNumber_number {K : PySem.W.Frag} (T : Kx K) : NoF K (He.ga K "BadNumber") "number" := T.no ("BadNumber", "number") (by decide +kernel)
theorem kn_BadSaying_saying {K : PySem.W.Frag} (T : Kx K) : NoF K (He.ga K "BadSaying") "saying" := T.no ("BadSaying", "saying") (by decide +kernel)
theorem kn_BadLetter_index {K : PySem.W.Frag} (T : Kx K) : NoF K (He.ga K "BadLetter") "index" := T.no ("BadLetter", "index") (by decide +kernel)
theorem kn_BadBody_body {K : PySem.W.Frag} (T : Kx K) : NoF K (He.ga K "BadBody") "body" := T.no ("BadBody", "body") (by decide +kernel)
theorem kn_BadAim_index {K : PySem.W.Frag} (T : Kx K) : NoF K (He.ga K "BadAim") "index" := T.no ("BadAim", "index") (by decide +kernel)
theorem kn_BadRow_what {K : PySem.W.Frag} (T : Kx K) : NoF K (He.ga K "BadRow") "what" := T.no ("BadRow", "what") (by decide +kernel)
theorem kn_BadRow_row {K : PySem.W.Frag} (T : Kx K) : NoF K (He.ga K "BadRow") "row" := T.no ("BadRow", "row") (by decide +kernel)
theorem kn_NoName_name {K : PySem.W.Frag} (T : Kx K) : NoF K (He.ga K "NoName") "name" := T.no ("NoName", "name") (by decide +kernel)
theorem kn_TakenName_name {K : PySem.W.Frag} (T : Kx K) : NoF K (He.ga K "TakenName") "name" := T.no ("TakenName", "name") (by decide +kernel)
theorem kn_Unlike_what {K : PySem.W.Frag} (T : Kx K) : NoF K (He.ga K "Unlike") "what" := T.no ("Unlike", "what") (by decide +kernel)
theorem kn_NotThere_what {K : PySem.W.Frag} (T : Kx K) : NoF K (He.ga K "NotThere") "what" := T.no ("NotThere", "what") (by decide +kernel)
theorem kn_TooMany_what {K : PySem.W.Frag} (T : Kx K) : NoF K (He.ga K "TooMany") "what" := T.no ("TooMany", "what") (by decide +kernel)
theorem kn_TooMany_many {K : PySem.W.Frag} (T : Kx K) : NoF K (He.ga K "TooMany") "many" := T.no ("TooMany", "many") (by decide +kernel)
theorem kn_TooMany_limit {K : PySem.W.Frag} (T : Kx K) : NoF K (He.ga K "TooMany") "limit" := T.no ("TooMany", "limit") (by decide +kernel)
theorem kn_NotKept_promise {K : PySem.W.Frag} (T : Kx K) : NoF K (He.ga K "NotKept") "promise" := T.no ("NotKept", "promise") (by decide +kernel)
theorem kn_NotKept_witness {K : PySem.W.Frag} (T : Kx K) : NoF K (He.ga K "NotKept") "witness" := T.no ("NotKept", "witness") (by decide +kernel)
def t__law_thing (K : PySem.W.Frag) : TS := (tRet (tCall (sp__law_pick K) [] E0 (tCons (tVar 0) (tCons (tLst (tCons (tC .non) (tCons (tC (.int 0)) (tCons (tUn (rU fun i => .int (-i)) (tC (.int 1))) (tCons (tC (.bl true)) (tCons (tC (.str "")) (tCons (tC (.str "a b")) (tCons (tTup (tCons (tC (.int 1)) (tCons (tC (.str "x")) tNil))) (tCons (tLst (tCons (tC (.int 1)) (tCons (tLst (tCons (tC (.int 2)) tNil)) tNil))) (tCons (tLst tNil) (tCons (tOp rPow (tC (.int 10)) (tC (.int 40))) (tCons (tTup (tCons (tC (.str "k")) (tCons (tC .non) tNil))) (tCons (tC (.int 7)) tNil))))))))))))) tNil))))
def t__law_fields_right (K : PySem.W.Frag) : TS := (tSeq (tAsg (tTup (tCons (tMkE (He.ga K "BadText") (sp_ini2 K "line" "word") (tCons (tVar 0) (tCons (tVar 1) tNil))) (tCons (tMkE (He.ga K "BadNumber") (sp_ini2 K "what" "number") (tCons (tVar 0) (tCons (tVar 1) tNil))) (tCons (tMkE (He.ga K "BadRow") (sp_ini2 K "what" "row") (tCons (tVar 0) (tCons (tVar 1) tNil))) (tCons (tMkE (He.ga K "NotKept") (sp_ini2 K "promise" "witness") (tCons (tVar 0) (tCons (tVar 1) tNil))) tNil))))) (gTup K 4 (gCons (gName 2) (gCons (gName 3) (gCons (gName 4) (gCons (gName 5) gNil))))))
  (tSeq (tIfS (tTest (tOp (rNeD K) (tLst (tCons (tXfV K "line" (tVar 2)) (tCons (tXfV K "word" (tVar 2)) (tCons (tXfV K "what" (tVar 3)) (tCons (tXfV K "number" (tVar 3)) tNil))))) (tLst (tCons (tVar 0) (tCons (tVar 1) (tCons (tVar 0) (tCons (tVar 1) tNil))))))) (tRet (tC (.bl false))) tNext)
  (tSeq (tIfS (tTest (tOp (rNeD K) (tLst (tCons (tXfV K "what" (tVar 4)) (tCons (tXfV K "row" (tVar 4)) (tCons (tXfV K "promise" (tVar 5)) (tCons (tXfV K "witness" (tVar 5)) tNil))))) (tLst (tCons (tVar 0) (tCons (tVar 1) (tCons (tVar 0) (tCons (tVar 1) tNil))))))) (tRet (tC (.bl false))) tNext)
  (tSeq (tAsg (tMkE (He.ga K "TooMany") (sp_ini3 K "what" "many" "limit") (tCons (tVar 0) (tCons (tVar 1) (tCons (tC (.int 5)) tNil)))) (gName 6))
  (tSeq (tIfS (tTest (tOp (rNeD K) (tLst (tCons (tXfV K "what" (tVar 6)) (tCons (tXfV K "many" (tVar 6)) (tCons (tXfV K "limit" (tVar 6)) tNil)))) (tLst (tCons (tVar 0) (tCons (tVar 1) (tCons (tC (.int 5)) tNil)))))) (tRet (tC (.bl false))) tNext)
  (tSeq (tIfS (tTest (tOp (rNeD K) (tLst (tCons (tXfV K "name" (tMkE (He.ga K "BadName") (sp_ini1 K "name") (tCons (tVar 0) tNil))) (tCons (tXfV K "saying" (tMkE (He.ga K "BadSaying") (sp_ini1 K "saying") (tCons (tVar 0) tNil))) (tCons (tXfV K "index" (tMkE (He.ga K "BadLetter") (sp_ini1 K "index") (tCons (tVar 0) tNil))) (tCons (tXfV K "body" (tMkE (He.ga K "BadBody") (sp_ini1 K "body") (tCons (tVar 0) tNil))) (tCons (tXfV K "index" (tMkE (He.ga K "BadAim") (sp_ini1 K "index") (tCons (tVar 0) tNil))) tNil)))))) (tOp rRep (tLst (tCons (tVar 0) tNil)) (tC (.int 5))))) (tRet (tC (.bl false))) tNext)
  (tRet (tOp (rEqD K) (tLst (tCons (tXfV K "name" (tMkE (He.ga K "NoName") (sp_ini1 K "name") (tCons (tVar 0) tNil))) (tCons (tXfV K "name" (tMkE (He.ga K "TakenName") (sp_ini1 K "name") (tCons (tVar 0) tNil))) (tCons (tXfV K "what" (tMkE (He.ga K "Unlike") (sp_ini1 K "what") (tCons (tVar 0) tNil))) (tCons (tXfV K "what" (tMkE (He.ga K "NotThere") (sp_ini1 K "what") (tCons (tVar 0) tNil))) tNil))))) (tOp rRep (tLst (tCons (tVar 0) tNil)) (tC (.int 4)))))))))))
def t__law_classes (K : PySem.W.Frag) : TS := (tSeq (tAsg (tLst (tCons (tCB (rIsX K) (tCons (tVar 0) (tCons (tC (.ref (He.ga K "BadText"))) tNil))) (tCons (tCB (rIsX K) (tCons (tVar 0) (tCons (tC (.ref (He.ga K "BadName"))) tNil))) (tCons (tCB (rIsX K) (tCons (tVar 0) (tCons (tC (.ref (He.ga K "BadNumber"))) tNil))) tNil)))) (gName 1))
  (tSeq (tAsg (tOp rCat (tVar 1) (tLst (tCons (tCB (rIsX K) (tCons (tVar 0) (tCons (tC (.ref (He.ga K "BadSaying"))) tNil))) (tCons (tCB (rIsX K) (tCons (tVar 0) (tCons (tC (.ref (He.ga K "BadLetter"))) tNil))) (tCons (tCB (rIsX K) (tCons (tVar 0) (tCons (tC (.ref (He.ga K "BadBody"))) tNil))) tNil))))) (gName 1))
  (tSeq (tAsg (tOp rCat (tVar 1) (tLst (tCons (tCB (rIsX K) (tCons (tVar 0) (tCons (tC (.ref (He.ga K "BadAim"))) tNil))) (tCons (tCB (rIsX K) (tCons (tVar 0) (tCons (tC (.ref (He.ga K "BadRow"))) tNil))) (tCons (tCB (rIsX K) (tCons (tVar 0) (tCons (tC (.ref (He.ga K "NoName"))) tNil))) tNil))))) (gName 1))
  (tSeq (tAsg (tOp rCat (tVar 1) (tLst (tCons (tCB (rIsX K) (tCons (tVar 0) (tCons (tC (.ref (He.ga K "TakenName"))) tNil))) (tCons (tCB (rIsX K) (tCons (tVar 0) (tCons (tC (.ref (He.ga K "Unlike"))) tNil))) (tCons (tCB (rIsX K) (tCons (tVar 0) (tCons (tC (.ref (He.ga K "NotThere"))) tNil))) tNil))))) (gName 1))
  (tSeq (tAsg (tOp rCat (tVar 1) (tLst (tCons (tCB (rIsX K) (tCons (tVar 0) (tCons (tC (.ref (He.ga K "TooMany"))) tNil))) (tCons (tCB (rIsX K) (tCons (tVar 0) (tCons (tC (.ref (He.ga K "NotKept"))) tNil))) (tCons (tCB (rIsX K) (tCons (tVar 0) (tCons (tC (.ref (He.ga K "NothingToUndo"))) tNil))) tNil))))) (gName 1))
  (tRet (tOp rCat (tVar 1) (tLst (tCons (tCB (rIsX K) (tCons (tVar 0) (tCons (tC (.ref (He.ga K "NothingToRedo"))) tNil))) tNil)))))))))
def t_law (K : PySem.W.Frag) : TS := (tSeq (tAsg (tCall (sp__law_pen K) [] E0 (tCons (tVar 0) tNil)) (gName 1))
  (tSeq (tFor (iRng1 (tCons (tC (.int 4)) tNil)) (gName 2) (tIfS (tNot (tB (tCall (sp__law_fields_right K) [] E0 (tCons (tCall (sp__law_thing K) [] E0 (tCons (tVar 1) tNil)) (tCons (tCall (sp__law_thing K) [] E0 (tCons (tVar 1) tNil)) tNil))))) (tRet (tC (.bl false))) tNext))
  (tSeq (tAsg (tCall (sp__law_draw K) [] E0 (tCons (tVar 1) (tCons (tC (.int 99)) tNil))) (gName 3))
  (tSeq (tPar 4 5 (tCons (tLst (tCons (tLst (tCons (tC (.int 1)) (tCons (tC (.int 2)) tNil))) (tCons (tLst (tCons (tVar 3) tNil)) tNil))) (tCons (tLst (tCons (tLst (tCons (tC (.int 1)) (tCons (tC (.int 2)) tNil))) (tCons (tLst (tCons (tVar 3) tNil)) (tCons (tC (.int 5)) tNil)))) tNil)))
  (tSeq (tAsg (tLst (tCons (tMkE (He.ga K "BadRow") (sp_ini2 K "what" "row") (tCons (tC (.str "rows")) (tCons (tVar 4) tNil))) (tCons (tMkE (He.ga K "BadText") (sp_ini2 K "line" "word") (tCons (tC (.int 0)) (tCons (tVar 4) tNil))) (tCons (tMkE (He.ga K "NotKept") (sp_ini2 K "promise" "witness") (tCons (tC (.str "a")) (tCons (tVar 4) tNil))) (tCons (tMkE (He.ga K "BadSaying") (sp_ini1 K "saying") (tCons (tVar 4) tNil)) (tCons (tMkE (He.ga K "TooMany") (sp_ini3 K "what" "many" "limit") (tCons (tC (.str "a")) (tCons (tVar 4) (tCons (tC (.int 1)) tNil)))) tNil)))))) (gName 6))
  (tSeq (tDrop (tBM K "list" rAppend (tVar 4) (tCons (tC (.int 5)) tNil)))
  (tSeq (tIfS (tTest (tOp (rNeD K) (tLst (tCons (tXfV K "row" (tOp (rIxL K) (tVar 6) (tC (.int 0)))) (tCons (tXfV K "word" (tOp (rIxL K) (tVar 6) (tC (.int 1)))) (tCons (tXfV K "witness" (tOp (rIxL K) (tVar 6) (tC (.int 2)))) (tCons (tXfV K "saying" (tOp (rIxL K) (tVar 6) (tC (.int 3)))) (tCons (tXfV K "many" (tOp (rIxL K) (tVar 6) (tC (.int 4)))) tNil)))))) (tOp rRep (tLst (tCons (tVar 5) tNil)) (tC (.int 5))))) (tRet (tC (.bl false))) tNext)
  (tSeq (tPar 7 8 (tCons (tCall (sp__law_thing K) [] E0 (tCons (tVar 1) tNil)) (tCons (tCall (sp__law_thing K) [] E0 (tCons (tVar 1) tNil)) tNil)))
  (tSeq (tAsg (tLst (tCons (tMkE (He.ga K "BadText") (sp_ini2 K "line" "word") (tCons (tVar 7) (tCons (tVar 8) tNil))) (tCons (tMkE (He.ga K "BadName") (sp_ini1 K "name") (tCons (tVar 7) tNil)) (tCons (tMkE (He.ga K "BadNumber") (sp_ini2 K "what" "number") (tCons (tVar 7) (tCons (tVar 8) tNil))) (tCons (tMkE (He.ga K "BadSaying") (sp_ini1 K "saying") (tCons (tVar 7) tNil)) (tCons (tMkE (He.ga K "BadLetter") (sp_ini1 K "index") (tCons (tVar 7) tNil)) (tCons (tMkE (He.ga K "BadBody") (sp_ini1 K "body") (tCons (tVar 7) tNil)) tNil))))))) (gName 9))
  (tSeq (tAsg (tOp rCat (tVar 9) (tLst (tCons (tMkE (He.ga K "BadAim") (sp_ini1 K "index") (tCons (tVar 7) tNil)) (tCons (tMkE (He.ga K "BadRow") (sp_ini2 K "what" "row") (tCons (tVar 7) (tCons (tVar 8) tNil))) (tCons (tMkE (He.ga K "NoName") (sp_ini1 K "name") (tCons (tVar 7) tNil)) (tCons (tMkE (He.ga K "TakenName") (sp_ini1 K "name") (tCons (tVar 7) tNil)) (tCons (tMkE (He.ga K "Unlike") (sp_ini1 K "what") (tCons (tVar 7) tNil)) (tCons (tMkE (He.ga K "NotThere") (sp_ini1 K "what") (tCons (tVar 7) tNil)) tNil)))))))) (gName 9))
  (tSeq (tAsg (tOp rCat (tVar 9) (tLst (tCons (tMkE (He.ga K "TooMany") (sp_ini3 K "what" "many" "limit") (tCons (tVar 7) (tCons (tVar 8) (tCons (tVar 7) tNil)))) (tCons (tMkE (He.ga K "NotKept") (sp_ini2 K "promise" "witness") (tCons (tVar 7) (tCons (tVar 8) tNil))) (tCons (tMkE0 (He.ga K "NothingToUndo")) (tCons (tMkE0 (He.ga K "NothingToRedo")) tNil)))))) (gName 9))
  (tSeq (tFor (iEnum K (tCons (tVar 9) tNil)) (gTup K 2 (gCons (gName 10) (gCons (gName 11) gNil))) (tSeq (tIfS (tTest (tOp (rNeD K) (tCall (sp__law_classes K) [] E0 (tCons (tVar 11) tNil)) (tLc (iRng1 (tCons (tC (.int 16)) tNil)) (gName 12) tYes (tOp rEq (tVar 10) (tVar 12)) [12]))) (tRet (tC (.bl false))) tNext)
  (tIfS (tOr (tNot (tB (tCB (rIsX K) (tCons (tVar 11) (tCons (tC (.ref (He.ga K "ForumError"))) tNil))))) (tNot (tB (tCB (rIsX K) (tCons (tVar 11) (tCons (tC (.ty "ValueError")) tNil)))))) (tRet (tC (.bl false))) tNext)))
  (tRet (tCall (sp__law_raised_right K) [] E0 (tCons (tCall (sp__law_thing K) [] E0 (tCons (tVar 1) tNil)) tNil)))))))))))))))section
variable {K : PySem.W.Frag}
theorem rd_thing (vs : List V) (H : Hp) (Q : VK) (E : XK) (h : sp__law_thing K vs H Q E) : t__law_thing K { nx := fun _ H' => Q .non H', rt := Q } (start ["pen"] vs) H := by
  obtain ⟨p, c, rfl, hP, hc, k⟩ := h
  refine ⟨_, rfl, _, rfl, le_sz rfl, fun t1 n1 => ⟨le_sz rfl, fun l1 n2 => ⟨le_sz rfl, fun l2 n3 => ⟨le_sz rfl, fun l3 n4 => ⟨10, 40, rfl, rfl, ⟨by decide, by decide, by decide⟩, le_sz rfl, fun t2 n5 => ⟨le_sz rfl, fun l4 n6 => ?_⟩⟩⟩⟩⟩⟩
  have s1 := same_new (o := .tup [.int 1, .str "x"]) n1
  have s2 := same_new (o := .lst [.int 2]) n2
  have s3 := same_new (o := .lst [.int 1, .ref l1]) n3
  have s4 := same_new (o := .lst []) n4
  have s5 := same_new (o := .tup [.str "k", .non]) n5
  have s6 := same_new (o := .lst [.non, .int 0, .int (-1), .bl true, .str "", .str "a b", .ref t1, .ref l2, .ref l3, .int (10 ^ 40), .ref t2, .int 7]) n6
  have f1 := s6 _ _ (s5 _ _ (s4 _ _ (s3 _ _ (s2 _ _ (upd_same (H := H) (a := t1) (o := .tup [.int 1, .str "x"]))))))
  have f2 := s6 _ _ (s5 _ _ (s4 _ _ (s3 _ _ (upd_same (a := l1) (o := .lst [.int 2])))))
  have f3 := s6 _ _ (s5 _ _ (s4 _ _ (upd_same (a := l2) (o := .lst [.int 1, .ref l1]))))
  have f4 := s6 _ _ (s5 _ _ (upd_same (a := l3) (o := .lst [])))
  have f5 := s6 _ _ (upd_same (a := t2) (o := .tup [.str "k", .non]))
  have sa := (((((s1.trans s2).trans s3).trans s4).trans s5).trans s6)
  refine ⟨p, l4, c, _, rfl, .inl (.inl (.inl upd_same)), Nat.lt_of_lt_of_le (by decide) (Nat.le_of_ble_eq_true (show Nat.ble 12 12 = true from rfl)), Nat.le_of_ble_eq_true rfl, hP.same sa, hc, fun v H' hv P' s' => ?_⟩
  obtain ⟨kvs, hk⟩ := (hP.same sa).dk
  have b := same_b (p := p) sa
  have fin : ∀ d, Dp K _ v d → okD d → Q v H' := fun d hd ho => k v d H' (dp_b hk s' hd) ho P' (b.trans s')
  simp only [List.mem_cons, List.not_mem_nil, or_false] at hv
  rcases hv with rfl | rfl | rfl | rfl | rfl | rfl | rfl | rfl | rfl | rfl | rfl | rfl
  · exact fin _ .non ⟨by decide +kernel, by decide +kernel⟩
  · exact fin _ (.int _) ⟨by decide +kernel, by decide +kernel⟩
  · exact fin _ (.int _) ⟨by decide +kernel, by decide +kernel⟩
  · exact fin _ (.bl _) ⟨by decide +kernel, by decide +kernel⟩
  · exact fin _ (.str _) ⟨by decide +kernel, by decide +kernel⟩
  · exact fin _ (.str _) ⟨by decide +kernel, by decide +kernel⟩
  · exact fin _ (.tup (.inl (.inl f1)) (.cons (.int _) (.cons (.str _) .nil))) ⟨by decide +kernel, by decide +kernel⟩
  · exact fin _ (.lst (.inl (.inl f3)) (.cons (.int _) (.cons (.lst (.inl (.inl f2)) (.cons (.int _) .nil)) .nil))) ⟨by decide +kernel, by decide +kernel⟩
  · exact fin _ (.lst (.inl (.inl f4)) .nil) ⟨by decide +kernel, by decide +kernel⟩
  · exact fin _ (.int _) ⟨by decide +kernel, by decide +kernel⟩
  · exact fin _ (.tup (.inl (.inl f5)) (.cons (.str _) (.cons .non .nil))) ⟨by decide +kernel, by decide +kernel⟩
  · exact fin _ (.int _) ⟨by decide +kernel, by decide +kernel⟩

theorem newL {H : Hp} {p : Addr} {xs : List V} {ds : List PyData} (np : H p = none) (h : DpAll K H xs ds) : Dp K (upd H p (.lst xs)) (.ref p) (.list ds) := .lst (.inl (.inl upd_same)) (dpAll_mono (same_new np) h)
theorem neD_same {H : Hp} {x y : V} {ds : List PyData} {Q : Bool → Hp → Prop} (h1 : Dp K H x (.list ds)) (h2 : Dp K H y (.list ds)) (ok : ∀ d ∈ ds, okD d) (q : Q false H) : rNeD K x y H (fun x H' => ∃ k, x = .bl k ∧ Q k H') :=
  ⟨_, _, h1, h2, okD_list ok, okD_list ok, false, by rw [SeqAt.eqv_refl _ (SeqAt.canLay_of_shaped (okD_list ok))] <;> rfl, q⟩
theorem eqD_same {H : Hp} {x y : V} {ds : List PyData} {Q : VK} (h1 : Dp K H x (.list ds)) (h2 : Dp K H y (.list ds)) (ok : ∀ d ∈ ds, okD d) (q : Q (.bl true) H) : rEqD K x y H Q :=
  ⟨_, _, h1, h2, okD_list ok, okD_list ok, by rw [SeqAt.eqv_refl _ (SeqAt.canLay_of_shaped (okD_list ok))]; exact q⟩
theorem okD_int (i : Int) : okD (.int i) := ⟨rfl, Nat.zero_le _⟩
theorem dp2 {H H' : Hp} {v : V} {d : PyData} (h : Dp K H v d) (s : Same H H') : Dp K H' v d := dp_mono s h
theorem okD_of {d e : PyData} (od : okD d) (oe : okD e) : ∀ {ds : List PyData}, (∀ x ∈ ds, x = d ∨ x = e ∨ ∃ i, x = .int i) → ∀ x ∈ ds, okD x := fun h x hx => by
  rcases h x hx with rfl | rfl | ⟨i, rfl⟩
  · exact od
  · exact oe
  · exact okD_int i
theorem atL {H : Hp} {p : Addr} {xs : List V} {ds : List PyData} (e : H p = some (.lst xs)) (h : DpAll K H xs ds) : Dp K H (.ref p) (.list ds) := .lst (.inl (.inl e)) h
/-- [..] != [..] of two new lists with the same items -/
theorem cmp2 {H G G' : Hp} {p q : Addr} {xs : List V} {ds : List PyData} {QB : Bool → Hp → Prop} (sp : Same H G) (ep : G p = some (.lst xs)) (sq : Same G G') (eq : G' q = some (.lst xs)) (all : DpAll K H xs ds) (ok : ∀ x ∈ ds, okD x) (k : ∀ H', Same H H' → QB false H') :
    rNeD K (.ref p) (.ref q) G' (fun x H' => ∃ k, x = .bl k ∧ QB k H') :=
  have a := dpAll_mono (sp.trans sq) all
  neD_same (ds := ds) (atL (sq _ _ ep) a) (atL eq a) ok (k _ (sp.trans sq))
/-- [..] != [x] * n -/
theorem cmp3 {H G G1 G' : Hp} {p r : Addr} {xs : List V} {ds : List PyData} {QB : Bool → Hp → Prop} (sp : Same H G) (ep : G p = some (.lst xs)) (sq : Same G G1) (sr : Same G1 G') (er : G' r = some (.lst xs)) (all : DpAll K H xs ds) (ok : ∀ x ∈ ds, okD x) (k : ∀ H', Same H H' → QB false H') :
    rNeD K (.ref p) (.ref r) G' (fun x H' => ∃ k, x = .bl k ∧ QB k H') := cmp2 sp ep (sq.trans sr) er all ok k
theorem rd_fields (T : Kx K) (vs : List V) (H : Hp) (Q : VK) (E : XK) (h : sp__law_fields_right K vs H Q E) : t__law_fields_right K { nx := fun _ H' => Q .non H', rt := Q } (start ["one", "other", "text", "number", "row", "kept", "many"] vs) H := by
  obtain ⟨v, w, d, e, rfl, hd, he, od, oe, k⟩ := h
  unfold t__law_fields_right
  walk_at "rd"
  refine w_mk2 (kx_BadText T).oex (kn_BadText_line T) (kn_BadText_word T) (by walk_at "ve") (by walk_at "ve") fun a1 H1 s1 e1 => ?_
  walk_at "rd"
  refine w_mk2 (kx_BadNumber T).oex (kn_BadNumber_what T) (kn_BadNumber_number T) (by walk_at "ve") (by walk_at "ve") fun a2 H2 s2 e2 => ?_
  walk_at "rd"
  refine w_mk2 (kx_BadRow T).oex (kn_BadRow_what T) (kn_BadRow_row T) (by walk_at "ve") (by walk_at "ve") fun a3 H3 s3 e3 => ?_
  walk_at "rd"
  refine w_mk2 (kx_NotKept T).oex (kn_NotKept_promise T) (kn_NotKept_witness T) (by walk_at "ve") (by walk_at "ve") fun a4 H4 s4 e4 => ?_
  walk_at "rd1"
  walk_at "nw"
  rename_i p H5 s5 e5
  refine w_gtup (.inl (.inl e5)) rfl ?_
  have g1 := (((e1.same s2).same s3).same s4).same s5
  have g2 := ((e2.same s3).same s4).same s5
  have g3 := (e3.same s4).same s5
  have g4 := e4.same s5
  have s := (((s1.trans s2).trans s3).trans s4).trans s5
  clear s1 s2 s3 s4 s5 e1 e2 e3 e4
  have all := dpAll_mono s (.cons hd (.cons he (.cons hd (.cons he .nil))))
  have ok4 : ∀ x ∈ [d, e, d, e], okD x := okD_of od oe (by simp)
  walk_at "rd"
  refine w_xfv (v := v) (fun _ q => ⟨_, rfl, q⟩) g1 (kx_BadText T).xf (kn_BadText_line T) (by kernel_rfl) ?_
  walk_at "rd"
  refine w_xfv (v := w) (fun _ q => ⟨_, rfl, q⟩) g1 (kx_BadText T).xf (kn_BadText_word T) (by kernel_rfl) ?_
  walk_at "rd"
  refine w_xfv (v := v) (fun _ q => ⟨_, rfl, q⟩) g2 (kx_BadNumber T).xf (kn_BadNumber_what T) (by kernel_rfl) ?_
  walk_at "rd"
  refine w_xfv (v := w) (fun _ q => ⟨_, rfl, q⟩) g2 (kx_BadNumber T).xf (kn_BadNumber_number T) (by kernel_rfl) ?_
  walk_at "rd"
  walk_at "nw"
  rename_i p G1_ sp ep
  walk_at "rd"
  walk_at "nw"
  rename_i q G2_ sq eq
  refine cmp2 sp ep sq eq all ok4 fun H6 s6 => iteF ?_
  have g3 := g3.same s6
  have g4 := g4.same s6
  have s := s.trans s6
  clear g1 g2 s6
  have all := dpAll_mono s (.cons hd (.cons he (.cons hd (.cons he .nil))))
  walk_at "rd"
  refine w_xfv (v := v) (fun _ q => ⟨_, rfl, q⟩) g3 (kx_BadRow T).xf (kn_BadRow_what T) (by kernel_rfl) ?_
  walk_at "rd"
  refine w_xfv (v := w) (fun _ q => ⟨_, rfl, q⟩) g3 (kx_BadRow T).xf (kn_BadRow_row T) (by kernel_rfl) ?_
  walk_at "rd"
  refine w_xfv (v := v) (fun _ q => ⟨_, rfl, q⟩) g4 (kx_NotKept T).xf (kn_NotKept_promise T) (by kernel_rfl) ?_
  walk_at "rd"
  refine w_xfv (v := w) (fun _ q => ⟨_, rfl, q⟩) g4 (kx_NotKept T).xf (kn_NotKept_witness T) (by kernel_rfl) ?_
  walk_at "rd"
  walk_at "nw"
  rename_i p G1_ sp ep
  walk_at "rd"
  walk_at "nw"
  rename_i q G2_ sq eq
  refine cmp2 sp ep sq eq all ok4 fun H7 s7 => iteF ?_
  have s := s.trans s7
  clear g3 g4 s7
  walk_at "rd"
  refine w_mk3 (kx_TooMany T).oex (kn_TooMany_what T) (kn_TooMany_many T) (kn_TooMany_limit T) (by walk_at "ve") (by walk_at "ve") (by walk_at "ve") fun a H8 s8 g => ?_
  have s := s.trans s8
  have all := dpAll_mono s (.cons hd (.cons he (.cons (.int 5) .nil)))
  walk_at "rd"
  refine w_xfv (v := v) (fun _ q => ⟨_, rfl, q⟩) g (kx_TooMany T).xf (kn_TooMany_what T) (by kernel_rfl) ?_
  walk_at "rd"
  refine w_xfv (v := w) (fun _ q => ⟨_, rfl, q⟩) g (kx_TooMany T).xf (kn_TooMany_many T) (by kernel_rfl) ?_
  walk_at "rd"
  refine w_xfv (v := .int 5) (fun _ q => ⟨_, rfl, q⟩) g (kx_TooMany T).xf (kn_TooMany_limit T) (by kernel_rfl) ?_
  walk_at "rd"
  walk_at "nw"
  rename_i p G1_ sp ep
  walk_at "rd"
  walk_at "nw"
  rename_i q G2_ sq eq
  refine cmp2 sp ep sq eq all (okD_of od oe (by simp)) fun H9 s9 => iteF ?_
  have s := s.trans s9
  clear g s9
  walk_at "rd"
  refine w_xfm (kx_BadName T).oex (kx_BadName T).xf (kn_BadName_name T) (by walk_at "ve") (by kernel_rfl) fun G1 s1 => ?_
  have s := s.trans s1
  clear s1
  walk_at "rd"
  refine w_xfm (kx_BadSaying T).oex (kx_BadSaying T).xf (kn_BadSaying_saying T) (by walk_at "ve") (by kernel_rfl) fun G2 s1 => ?_
  have s := s.trans s1
  clear s1
  walk_at "rd"
  refine w_xfm (kx_BadLetter T).oex (kx_BadLetter T).xf (kn_BadLetter_index T) (by walk_at "ve") (by kernel_rfl) fun G3 s1 => ?_
  have s := s.trans s1
  clear s1
  walk_at "rd"
  refine w_xfm (kx_BadBody T).oex (kx_BadBody T).xf (kn_BadBody_body T) (by walk_at "ve") (by kernel_rfl) fun G4 s1 => ?_
  have s := s.trans s1
  clear s1
  walk_at "rd"
  refine w_xfm (kx_BadAim T).oex (kx_BadAim T).xf (kn_BadAim_index T) (by walk_at "ve") (by kernel_rfl) fun G5 s1 => ?_
  have s := s.trans s1
  clear s1
  have all := dpAll_mono s (.cons hd (.cons hd (.cons hd (.cons hd (.cons hd .nil)))))
  walk_at "rd"
  walk_at "nw"
  rename_i p G1_ sp ep
  walk_at "rd"
  walk_at "nw"
  rename_i q G2_ sq eq
  refine ⟨q, 5, [v], rfl, rfl, eq, by decide, by decide, le_sz rfl, ?_⟩
  walk_at "nw0"
  rename_i r G3_ sr er
  refine cmp3 sp ep sq sr er all (okD_of od oe (by simp)) fun F0 s9 => iteF ?_
  have s := s.trans s9
  clear s9
  walk_at "rd"
  refine w_xfm (kx_NoName T).oex (kx_NoName T).xf (kn_NoName_name T) (by walk_at "ve") (by kernel_rfl) fun F1 s1 => ?_
  have s := s.trans s1
  clear s1
  walk_at "rd"
  refine w_xfm (kx_TakenName T).oex (kx_TakenName T).xf (kn_TakenName_name T) (by walk_at "ve") (by kernel_rfl) fun F2 s1 => ?_
  have s := s.trans s1
  clear s1
  walk_at "rd"
  refine w_xfm (kx_Unlike T).oex (kx_Unlike T).xf (kn_Unlike_what T) (by walk_at "ve") (by kernel_rfl) fun F3 s1 => ?_
  have s := s.trans s1
  clear s1
  walk_at "rd"
  refine w_xfm (kx_NotThere T).oex (kx_NotThere T).xf (kn_NotThere_what T) (by walk_at "ve") (by kernel_rfl) fun F4 s1 => ?_
  have s := s.trans s1
  clear s1
  have all := dpAll_mono s (.cons hd (.cons hd (.cons hd (.cons hd .nil))))
  walk_at "rd"
  walk_at "nw"
  rename_i p G1_ sp ep
  walk_at "rd"
  walk_at "nw"
  rename_i q G2_ sq eq
  refine ⟨q, 4, [v], rfl, rfl, eq, by decide, by decide, le_sz rfl, ?_⟩
  walk_at "nw0"
  rename_i r G3_ sr er
  have st := sp.trans (sq.trans sr)
  have a := dpAll_mono st all
  exact eqD_same (ds := [d, d, d, d]) (atL (sr _ _ (sq _ _ ep)) a) (atL er a) (okD_of od oe (by simp)) (k _ (s.trans st))
end
end VB

set_option Elab.async false
set_option linter.all false
set_option maxRecDepth 100000
set_option maxHeartbeats 8000000
namespace VB
open PySem PySem.Spec PyProof.Rows L2
local macro_rules | `(tactic| walk_at "ve") => `(tactic| first | exact valE_var rfl | exact valE_c)
local macro_rules | `(tactic| walk_at "rd1") => `(tactic| first
  | with_reducible refine w_seq ?_ | with_reducible refine w_asg ?_ | with_reducible refine w_ret ?_ | with_reducible refine w_drop ?_ | with_reducible refine w_ifs ?_ | with_reducible refine w_gname ?_ | with_reducible refine w_next ?_
  | ((with_reducible refine w_var (v := ?v) ?h ?_); (case h => exact rfl)) | with_reducible refine w_c ?_ | with_reducible refine w_op ?_ | with_reducible refine w_cons ?_ | with_reducible refine w_nil ?_ | with_reducible refine w_lst ?_ | with_reducible refine w_tup ?_
  | with_reducible refine w_test ?_ | with_reducible refine w_tB ?_ | with_reducible refine w_bl ?_ | with_reducible refine w_cb ?_ | with_reducible refine w_call ?_ | with_reducible refine w_I0 ?_ | with_reducible refine w_un ?_ | with_reducible refine w_rU ?_
  | ((with_reducible refine w_eq ?h ?_); (case h => rfl)) | ((with_reducible refine w_ne ?h ?_); (case h => rfl)) | with_reducible refine w_and ?_ | with_reducible refine w_or ?_ | with_reducible refine w_not ?_ | with_reducible refine w_if ?_ | with_reducible refine w_int ?_
  | with_reducible refine w_tTru ?_ | with_reducible refine w_dget ?_ | with_reducible refine w_dput ?_ | with_reducible refine w_fld ?_ | with_reducible refine w_bm ?_ | with_reducible refine w_bm0 ?_ | with_reducible refine w_sl ?_ | with_reducible refine w_nopart ?_ | with_reducible refine w_part ?_ | with_reducible refine w_ix ?_
  | with_reducible refine w_par ?_ | with_reducible refine w_par2 ?_ | with_reducible refine w_gcons ?_ | with_reducible refine w_gnil ?_ | with_reducible refine w_yes ?_ | with_reducible refine w_brk ?_ | with_reducible refine w_cont ?_
  | ((with_reducible refine w_I ?h ?_); (case h => walk_at "rdc")))
local macro_rules | `(tactic| walk_at "rdc") => `(tactic| first
  | (show (0 : Int) < _; first | decide | omega) | (show (0 : Int) ≤ _; first | decide | omega) | exact ⟨by decide, by decide, by decide⟩ | exact .inl ⟨by omega, by omega⟩ | exact .inr ⟨by omega, by omega⟩)
local macro_rules | `(tactic| walk_at "rd") => `(tactic| repeat walk_at "rd1")
local macro_rules | `(tactic| walk_at "nw0") => `(tactic| (intro p np; generalize hG : upd _ p _ = G; (have s := up_same hG np); (have e := up_at hG); clear hG np))
local macro_rules | `(tactic| walk_at "nw") => `(tactic| (refine ⟨le_sz rfl, ?_⟩; walk_at "nw0"))
section
variable {K : PySem.W.Frag}
theorem w_isC {H : Hp} {Q : VK} {a : Addr} {k : Nat} (j : Nat) (x : Str) (T : Kx K) (ex : ExAt H a (He.ga K (cn k))) (hk : k < 16) (hj : j < 16) (e : cn j = x) (q : Q (.bl (decide (k = j))) H) : rIsX K [.ref a, .ref (He.ga K x)] H Q := by
  subst e
  exact ⟨a, _, _, _, _, rfl, .own _, ex, T.ex k hk, T.kit k j hk hj, q⟩
theorem w_isF {H : Hp} {Q : VK} {a : Addr} {k : Nat} (T : Kx K) (ex : ExAt H a (He.ga K (cn k))) (hk : k < 16) (q : Q (.bl true) H) : rIsX K [.ref a, .ref (He.ga K "ForumError")] H Q :=
  ⟨a, _, _, _, _, rfl, .own _, ex, T.ex k hk, T.kF k hk, q⟩
theorem w_isV {H : Hp} {Q : VK} {a : Addr} {k : Nat} (T : Kx K) (ex : ExAt H a (He.ga K (cn k))) (hk : k < 16) (q : Q (.bl true) H) : rIsX K [.ref a, .ty "ValueError"] H Q :=
  ⟨a, _, _, _, _, rfl, .ty _, ex, T.ex k hk, T.kV k hk, q⟩
theorem w_cat {H : Hp} {Q : VK} {l b : Addr} {xs ys : List V} (h1 : H l = some (.lst xs)) (h2 : H b = some (.lst ys)) (l3 : Nat.ble (xs.length + ys.length) 1000 = true) (q : ∀ p, H p = none → Q (.ref p) (upd H p (.lst (xs ++ ys)))) : rCat (.ref l) (.ref b) H Q := ⟨l, b, xs, ys, rfl, rfl, h1, h2, le_sz l3, q⟩
theorem rd_classes (T : Kx K) (vs : List V) (H : Hp) (Q : VK) (E : XK) (h : sp__law_classes K vs H Q E) : t__law_classes K { nx := fun _ H' => Q .non H', rt := Q } (start ["error", "found"] vs) H := by
  obtain ⟨a, k, rfl, hk, ex, q⟩ := h
  unfold t__law_classes
  walk_at "rd"
  refine w_isC 0 _ T ex hk (by decide) rfl ?_
  walk_at "rd"
  refine w_isC 1 _ T ex hk (by decide) rfl ?_
  walk_at "rd"
  refine w_isC 2 _ T ex hk (by decide) rfl ?_
  walk_at "rd"
  walk_at "nw"
  rename_i p H1 s f
  have ex := ex.same s
  walk_at "rd"
  refine w_isC 3 _ T ex hk (by decide) rfl ?_
  walk_at "rd"
  refine w_isC 4 _ T ex hk (by decide) rfl ?_
  walk_at "rd"
  refine w_isC 5 _ T ex hk (by decide) rfl ?_
  walk_at "rd"
  walk_at "nw"
  rename_i p H1 s1 f1
  refine w_cat (s1 _ _ f) f1 rfl ?_
  walk_at "nw0"
  rename_i p2 H2 s2 f2
  have ex := (ex.same s1).same s2
  have s := (s.trans s1).trans s2
  have f := f2
  clear s1 s2 f1 f2
  walk_at "rd"
  refine w_isC 6 _ T ex hk (by decide) rfl ?_
  walk_at "rd"
  refine w_isC 7 _ T ex hk (by decide) rfl ?_
  walk_at "rd"
  refine w_isC 8 _ T ex hk (by decide) rfl ?_
  walk_at "rd"
  walk_at "nw"
  rename_i p H1 s1 f1
  refine w_cat (s1 _ _ f) f1 rfl ?_
  walk_at "nw0"
  rename_i p2 H2 s2 f2
  have ex := (ex.same s1).same s2
  have s := (s.trans s1).trans s2
  have f := f2
  clear s1 s2 f1 f2
  walk_at "rd"
  refine w_isC 9 _ T ex hk (by decide) rfl ?_
  walk_at "rd"
  refine w_isC 10 _ T ex hk (by decide) rfl ?_
  walk_at "rd"
  refine w_isC 11 _ T ex hk (by decide) rfl ?_
  walk_at "rd"
  walk_at "nw"
  rename_i p H1 s1 f1
  refine w_cat (s1 _ _ f) f1 rfl ?_
  walk_at "nw0"
  rename_i p2 H2 s2 f2
  have ex := (ex.same s1).same s2
  have s := (s.trans s1).trans s2
  have f := f2
  clear s1 s2 f1 f2
  walk_at "rd"
  refine w_isC 12 _ T ex hk (by decide) rfl ?_
  walk_at "rd"
  refine w_isC 13 _ T ex hk (by decide) rfl ?_
  walk_at "rd"
  refine w_isC 14 _ T ex hk (by decide) rfl ?_
  walk_at "rd"
  walk_at "nw"
  rename_i p H1 s1 f1
  refine w_cat (s1 _ _ f) f1 rfl ?_
  walk_at "nw0"
  rename_i p2 H2 s2 f2
  have ex := (ex.same s1).same s2
  have s := (s.trans s1).trans s2
  have f := f2
  clear s1 s2 f1 f2
  walk_at "rd"
  refine w_isC 15 _ T ex hk (by decide) rfl ?_
  walk_at "rd"
  walk_at "nw"
  rename_i p H1 s1 f1
  refine w_cat (s1 _ _ f) f1 rfl ?_
  walk_at "nw0"
  rename_i p2 H2 s2 f2
  have ex := (ex.same s1).same s2
  have s := (s.trans s1).trans s2
  have f := f2
  clear s1 s2 f1 f2
  exact q _ _ s f
/-! ### raised and caught -/
def t__law_raised_right (K : PySem.W.Frag) : TS :=
  tSeq (tAsg (tLst tNil) (gName 1))
  (tSeq (fun D σ H => (fun (W : WX) => (fun _ σ H => tMkO (He.ga K "TooMany") (sp_ini3 K "what" "many" "limit") [] (tCons (tC (.str "a")) (tCons (tVar 0) (tCons (tC (.int 3)) tNil))) σ H fun cls d H' => W cls d σ H' : TS))
      (wAs K (.ref (He.ga K "ForumError")) 2 (fun a cls d => tDrop (tBM K "list" rAppend (tVar 1) (tCons (tXf a cls d (He.ga K "TooMany") "many" (tVar 2)) tNil))) (fun _ _ _ _ => False) D) D σ H)
  (tSeq (fun D σ H => (fun (W : WX) => (fun _ σ H => W (.ref (He.ga K "NothingToRedo")) none σ H : TS))
      (wMany K (fun _ _ _ _ => False) D [(.ref (He.ga K "NothingToUndo"), fun a cls d => tDrop (tBM K "list" rAppend (tVar 1) (tCons (tC (.int 5)) tNil))), (.ref (He.ga K "ForumError"), fun a cls d => tDrop (tBM K "list" rAppend (tVar 1) (tCons (tC .non) tNil)))]) D σ H)
  (tSeq (fun D σ H => (fun (W : WX) => (fun _ σ H => tMkO (He.ga K "NoName") (sp_ini1 K "name") [] (tCons (tVar 0) tNil) σ H fun cls d H' => W cls d σ H' : TS))
      (wAs K (.ref (He.ga K "ForumError")) 2 (fun a cls d => tDrop (tBM K "list" rAppend (tVar 1) (tCons (tIf (tB (tCB (rIsEd K a cls d) (tCons (tVar 2) (tCons (tC (.ty "ValueError")) tNil)))) (tC (.int 8)) (tC (.int 0))) tNil))) (fun _ _ _ _ => False) D) D σ H)
  (tRet (tOp (rEqD K) (tVar 1) (tLst (tCons (tVar 0) (tCons (tC .non) (tCons (tC (.int 8)) tNil)))))))))
theorem up_b {H G : Hp} {p : Addr} {o : HO} (h : upd H p o = G) : SameB p H G := h ▸ sameB_upd
theorem lt_sz {n : Nat} (h : Nat.ble n 1000 = true) : n < sizeLine := Nat.lt_of_le_of_lt (Nat.le_of_ble_eq_true h) (by decide)
theorem del_new {H H2 : Hp} {a d : Addr} {o : HO} (ha : H a = none) (hd : upd H a o d = none) (s : SameB a (upd H a o) H2) (fs : List (Str × V)) : Same H (upd (del H2 a) d (.xd fs)) ∧ d ≠ a ∧ H d = none := by
  have nda : d ≠ a := fun z => by rw [z, upd_same] at hd; cases hd
  have hd0 : H d = none := by rw [upd_ne nda] at hd; exact hd
  refine ⟨fun b u e => ?_, nda, hd0⟩
  have nba := ne_of_none e ha
  rw [upd_ne (ne_of_none e hd0), del_ne nba]
  exact s b u nba (by rw [upd_ne nba]; exact e)
theorem tyL {H : Hp} {l : Addr} {xs : List V} (h : H l = some (.lst xs)) : tyV K "list" (.ref l) H := .inl ⟨rfl, xs, .inl (.inl h)⟩
theorem rd_raised (T : Kx K) (vs : List V) (H : Hp) (Q : VK) (E : XK) (h : sp__law_raised_right K vs H Q E) : t__law_raised_right K { nx := fun _ H' => Q .non H', rt := Q } (start ["one", "found", "error"] vs) H := by
  obtain ⟨v, d, rfl, hd, od, q⟩ := h
  unfold t__law_raised_right
  walk_at "rd"
  refine ⟨le_sz rfl, fun l nl0 => ?_⟩
  generalize hG : upd _ l _ = H1
  have s1 := up_same hG nl0
  have f1 := up_at hG
  clear hG
  walk_at "rd"
  refine ⟨_, rfl, le_k rfl, fun a na => ?_⟩
  refine ⟨a, _, _, _, _, rfl, (kx_TooMany T).oex, kn_TooMany_what T, kn_TooMany_many T, kn_TooMany_limit T, upd_same, fun H2 s2 e2 => ⟨rfl, ?_⟩⟩
  obtain ⟨dd, nd, g1, g2⟩ := e2
  obtain ⟨s3, _, nd1⟩ := del_new na nd s2 [("limit", .int 3), ("many", v), ("what", .str "a")]
  refine ⟨dd, _, g1, g2, nd1, true, T.e1, fun _ a2 na2 => ?_, fun z => by cases z⟩
  have f3 := s3 _ _ f1
  refine ⟨_, rfl, tyL f3, _, rfl, rfl, rfl, dd, _, v, rfl, upd_same, by kernel_rfl, l, _, _, rfl, rfl, f3, lt_sz rfl, ?_⟩
  generalize hG : upd _ l _ = G1
  have f4 : G1 l = some (.lst [v]) := up_at hG
  have s4 : SameB l H1 G1 := (same_b s3).trans (up_b hG)
  clear hG g1 g2 s2 s3 nd nd1 na2 f3
  -- NothingToRedo
  refine ⟨false, T.e2, (fun z => by cases z), fun _ => ⟨true, T.e3, fun _ a3 na3 => ?_, fun z => by cases z⟩⟩
  refine ⟨_, rfl, tyL f4, l, _, _, rfl, rfl, f4, lt_sz rfl, ?_⟩
  generalize hG : upd _ l _ = G2
  have f5 : G2 l = some (.lst [v, .non]) := up_at hG
  have s5 : SameB l H1 G2 := s4.trans (up_b hG)
  clear hG
  -- NoName
  refine ⟨_, rfl, le_k rfl, fun b nb => ?_⟩
  refine ⟨b, _, _, rfl, (kx_NoName T).oex, kn_NoName_name T, upd_same, fun H5 s6 e5 => ⟨rfl, ?_⟩⟩
  obtain ⟨d5, nd5, g5, g6⟩ := e5
  obtain ⟨s7, _, nd6⟩ := del_new nb nd5 s6 [("name", v)]
  refine ⟨d5, _, g5, g6, nd6, true, T.e4, fun _ a4 na4 => ?_, fun z => by cases z⟩
  have f7 := s7 _ _ f5
  refine ⟨_, rfl, tyL f7, _, rfl, _, d5, _, _, _, true, rfl, .ty _, rfl, rfl, upd_same, kx_NoName T, T.kV 8 (by decide), true, rfl, iteT ⟨l, _, _, rfl, rfl, f7, lt_sz rfl, ?_⟩⟩
  generalize hG : upd _ l _ = G3
  have f8 : G3 l = some (.lst [v, .non, .int 8]) := up_at hG
  have s8 : SameB l H1 G3 := (s5.trans (same_b s7)).trans (up_b hG)
  clear hG
  walk_at "rd"
  walk_at "nw"
  rename_i p G4 s9 e9
  have nl : H l = none := nl0
  have hd4 : Dp K G4 v d := dp_mono (fun b u e => s9 _ _ (s8 b u (ne_of_none e nl) (s1 _ _ e))) hd
  have a : DpAll K G4 [v, .non, .int 8] [d, .none, .int 8] := .cons hd4 (.cons .non (.cons (.int _) .nil))
  refine eqD_same (ds := [d, .none, .int 8]) (atL (s9 _ _ f8) a) (atL e9 a) ?_ (q _)
  intro x hx
  simp only [List.mem_cons, List.not_mem_nil, or_false] at hx
  rcases hx with rfl | rfl | rfl
  · exact od
  · exact ⟨rfl, Nat.zero_le _⟩
  · exact okD_int _
end
end VB

set_option Elab.async false
set_option linter.all false
set_option maxRecDepth 100000
set_option maxHeartbeats 8000000
namespace VB
open PySem PySem.Spec PyProof.Rows L2
local macro_rules | `(tactic| walk_at "ve") => `(tactic| first | exact valE_var rfl | exact valE_c)
local macro_rules | `(tactic| walk_at "rd1") => `(tactic| first
  | with_reducible refine w_seq ?_ | with_reducible refine w_asg ?_ | with_reducible refine w_ret ?_ | with_reducible refine w_drop ?_ | with_reducible refine w_ifs ?_ | with_reducible refine w_gname ?_ | with_reducible refine w_next ?_
  | ((with_reducible refine w_var (v := ?v) ?h ?_); (case h => exact rfl)) | with_reducible refine w_c ?_ | with_reducible refine w_op ?_ | with_reducible refine w_cons ?_ | with_reducible refine w_nil ?_ | with_reducible refine w_lst ?_ | with_reducible refine w_tup ?_
  | with_reducible refine w_test ?_ | with_reducible refine w_tB ?_ | with_reducible refine w_bl ?_ | with_reducible refine w_cb ?_ | with_reducible refine w_call ?_ | with_reducible refine w_I0 ?_ | with_reducible refine w_un ?_ | with_reducible refine w_rU ?_
  | ((with_reducible refine w_eq ?h ?_); (case h => rfl)) | ((with_reducible refine w_ne ?h ?_); (case h => rfl)) | with_reducible refine w_and ?_ | with_reducible refine w_or ?_ | with_reducible refine w_not ?_ | with_reducible refine w_if ?_ | with_reducible refine w_int ?_
  | with_reducible refine w_tTru ?_ | with_reducible refine w_dget ?_ | with_reducible refine w_dput ?_ | with_reducible refine w_fld ?_ | with_reducible refine w_bm ?_ | with_reducible refine w_bm0 ?_ | with_reducible refine w_sl ?_ | with_reducible refine w_nopart ?_ | with_reducible refine w_part ?_ | with_reducible refine w_ix ?_
  | with_reducible refine w_par ?_ | with_reducible refine w_par2 ?_ | with_reducible refine w_gcons ?_ | with_reducible refine w_gnil ?_ | with_reducible refine w_yes ?_ | with_reducible refine w_brk ?_ | with_reducible refine w_cont ?_
  | ((with_reducible refine w_I ?h ?_); (case h => walk_at "rdc")))
local macro_rules | `(tactic| walk_at "rdc") => `(tactic| first
  | (show (0 : Int) < _; first | decide | omega) | (show (0 : Int) ≤ _; first | decide | omega) | exact ⟨by decide, by decide, by decide⟩ | exact .inl ⟨by omega, by omega⟩ | exact .inr ⟨by omega, by omega⟩)
local macro_rules | `(tactic| walk_at "rd") => `(tactic| repeat walk_at "rd1")
local macro_rules | `(tactic| walk_at "nw0") => `(tactic| (intro p np; generalize hG : upd _ p _ = G; (have s := up_same hG np); (have e := up_at hG); clear hG np))
local macro_rules | `(tactic| walk_at "nw") => `(tactic| (refine ⟨le_sz rfl, ?_⟩; walk_at "nw0"))
section
variable {K : PySem.W.Frag}
theorem vx {σ : L2.St} {H : Hp} {i : Nat} {l : Addr} {xs : List V} {v : V} (hs : σ[i]? = some (some (.ref l))) (h : H l = some (.lst xs)) (j : Nat) (hj : xs[j]? = some v) : ∀ Q : VK, Q v H → tOp (rIxL K) (tVar i) (tC (.int (j : Int))) σ H Q :=
  fun Q q => ⟨_, hs, l, xs, (j : Int), v, rfl, rfl, .inl (.inl h), at_of (j := j) rfl hj, q⟩
/-- for each k, error in found: the classes, and that it is an error of this package -/
def FoundAt (H : Hp) (l : Addr) (xs : List V) : Prop := H l = some (.lst xs) ∧ xs.length = 16 ∧ ∀ k, k < 16 → ∃ a, xs[k]? = some (.ref a)
theorem bools_dp {H : Hp} {p : Addr} {k : Nat} (h : H p = some (.lst (bools16 k))) : Dp K H (.ref p) (.list ((List.range 16).map fun j => PyData.bool (decide (k = j)))) := by
  refine .lst (.inl (.inl h)) ?_
  unfold bools16
  generalize List.range 16 = l
  induction l with
  | nil => exact .nil
  | cons j r ih => exact .cons (.bl _) ih
theorem range_succ_map {β : Type} (f : Nat → β) (n : Nat) : (List.range (n + 1)).map f = (List.range n).map f ++ [f n] := by rw [List.range_succ, List.map_append] <;> rfl
theorem dec_ij (i j : Nat) : decide (V.int (i : Nat) = V.int (0 + (j : Nat))) = decide (i = j) := by
  have e0 : (0 : Int) + (j : Nat) = (j : Nat) := Int.zero_add _
  rw [e0]
  by_cases h : i = j
  · rw [decide_eq_true h, h]; exact decide_eq_true rfl
  · rw [decide_eq_false h]; exact decide_eq_false (fun z => h (Int.ofNat.inj (V.int.inj z)))
theorem rd_law (T : Kx K) (vs : List V) (H : Hp) (Q : VK) (E : XK) (h : sp_law K vs H Q E) : t_law K { nx := fun _ H' => Q .non H', rt := Q } (start ["script", "pen", "lap", "number", "rows", "due", "kept", "one", "other", "found", "k", "error", "j"] vs) H := by
  obtain ⟨a, ns, rfl, hS, hlen, q⟩ := h
  unfold t_law
  walk_at "rd"
  refine ⟨a, ns, rfl, hS, hlen, fun p H1 np P1 s1 => ?_⟩
  walk_at "rd"
  refine ⟨4, rfl, by decide, by decide, for_range (lo := 0) (n := 4) (fun i σ' H' => (∃ v, σ' = [some (.ref a), some (.ref p), v, none, none, none, none, none, none, none, none, none, none]) ∧ PenAt (2 * i) p H') ⟨⟨_, rfl⟩, P1.mono (by decide)⟩ ?_ ?_⟩
  · rintro i σ' H' hi ⟨⟨v, rfl⟩, P⟩
    walk_at "rd"
    refine ⟨p, 2 * i, rfl, P, by omega, fun v d H2 hd od P2 sb => ?_⟩
    walk_at "rd"
    refine ⟨p, 2 * i + 1, rfl, P2, by omega, fun w e H3 he oe P3 sb3 => ?_⟩
    walk_at "rd"
    obtain ⟨kvs, hk⟩ := P2.dk
    refine ⟨v, w, d, e, rfl, dp_b hk sb3 hd, he, od, oe, fun H4 s4 => ?_⟩
    walk_at "rd"
    refine iteF ?_
    walk_at "rd"
    refine ⟨⟨_, rfl⟩, (P3.same s4).mono (by omega)⟩
  rintro σ' H2 ⟨⟨v0, rfl⟩, P2⟩
  walk_at "rd"
  refine ⟨p, 99, 8, rfl, by decide, by decide, P2.mono (by decide), by decide, fun n H3 n0 n1 P3 sb3 => ?_⟩
  clear hS s1 sb3 P2 P1 np
  walk_at "rd"
  walk_at "nw"
  rename_i L1 G1 s1 f1
  walk_at "rd"
  walk_at "nw"
  rename_i L2 G2 s2 f2
  walk_at "rd"
  walk_at "nw"
  rename_i R G3 s3 f3
  walk_at "rd"
  walk_at "nw"
  rename_i L4 G4 s4 f4
  walk_at "rd"
  walk_at "nw"
  rename_i L5 G5 s5 f5
  walk_at "rd"
  walk_at "nw"
  rename_i D G6 s6 f6
  have P := (((((P3.same s1).same s2).same s3).same s4).same s5).same s6
  have f1 := s6 _ _ (s5 _ _ (s4 _ _ (s3 _ _ (s2 _ _ f1))))
  have f2 := s6 _ _ (s5 _ _ (s4 _ _ (s3 _ _ f2)))
  have f3 := s6 _ _ (s5 _ _ (s4 _ _ f3))
  have f4 := s6 _ _ (s5 _ _ f4)
  have f5 := s6 _ _ f5
  clear s1 s2 s3 s4 s5 s6 P3
  walk_at "rd"
  refine w_mk2 (kx_BadRow T).oex (kn_BadRow_what T) (kn_BadRow_row T) (by walk_at "ve") (by walk_at "ve") fun a0 J0 s0 e0 => ?_
  walk_at "rd"
  refine w_mk2 (kx_BadText T).oex (kn_BadText_line T) (kn_BadText_word T) (by walk_at "ve") (by walk_at "ve") fun a1 J1 s1 e1 => ?_
  walk_at "rd"
  refine w_mk2 (kx_NotKept T).oex (kn_NotKept_promise T) (kn_NotKept_witness T) (by walk_at "ve") (by walk_at "ve") fun a2 J2 s2 e2 => ?_
  walk_at "rd"
  refine w_mk1 (kx_BadSaying T).oex (kn_BadSaying_saying T) (by walk_at "ve") fun a3 J3 s3 e3 => ?_
  walk_at "rd"
  refine w_mk3 (kx_TooMany T).oex (kn_TooMany_what T) (kn_TooMany_many T) (kn_TooMany_limit T) (by walk_at "ve") (by walk_at "ve") (by walk_at "ve") fun a4 J4 s4 e4 => ?_
  walk_at "rd"
  walk_at "nw"
  rename_i KL J5 s5 f7
  have e0 := (((((e0.same s1).same s2).same s3).same s4).same s5)
  have e1 := ((((e1.same s2).same s3).same s4).same s5)
  have e2 := (((e2.same s3).same s4).same s5)
  have e3 := ((e3.same s4).same s5)
  have e4 := (e4.same s5)
  have f1 := (s5 _ _ (s4 _ _ (s3 _ _ (s2 _ _ (s1 _ _ (s0 _ _ f1))))))
  have f2 := (s5 _ _ (s4 _ _ (s3 _ _ (s2 _ _ (s1 _ _ (s0 _ _ f2))))))
  have f3 := (s5 _ _ (s4 _ _ (s3 _ _ (s2 _ _ (s1 _ _ (s0 _ _ f3))))))
  have f4 := (s5 _ _ (s4 _ _ (s3 _ _ (s2 _ _ (s1 _ _ (s0 _ _ f4))))))
  have f5 := (s5 _ _ (s4 _ _ (s3 _ _ (s2 _ _ (s1 _ _ (s0 _ _ f5))))))
  have f6 := (s5 _ _ (s4 _ _ (s3 _ _ (s2 _ _ (s1 _ _ (s0 _ _ f6))))))
  have P := (((((P.same s0).same s1).same s2).same s3).same s4).same s5
  clear s0 s1 s2 s3 s4 s5
  walk_at "rd"
  refine ⟨tyL f3, ?_⟩
  walk_at "rd"
  refine w_app f3 (lt_sz rfl) ?_
  generalize hG : upd _ R _ = F
  have g3 : F R = some (.lst [.ref L1, .ref L2, .int 5]) := up_at hG
  have sb : SameB R J5 F := up_b hG
  have nl : ∀ {x : Addr} {xs : List V}, J5 x = some (.lst xs) → xs ≠ [.ref L1, .ref L2] → F x = some (.lst xs) := fun {x xs} h n => sb _ _ (ne_of h f3 (fun z => n (HO.lst.inj z))) h
  have f1 := nl f1 (by intro z; cases z)
  have f2 := nl f2 (by intro z; cases z)
  have f4 := nl f4 (by intro z; cases z)
  have f5 := nl f5 (by intro z; cases z)
  have f6 := nl f6 (by intro z; cases z)
  have f7 := nl f7 (by intro z; cases z)
  have e0 := e0.bl f3 sb
  have e1 := e1.bl f3 sb
  have e2 := e2.bl f3 sb
  have e3 := e3.bl f3 sb
  have e4 := e4.bl f3 sb
  have P : PenAt 9 p F := by
    rw [← hG]
    obtain ⟨kvs, hk⟩ := P.dk
    refine P.upd (ne_of f3 hk (fun z => by cases z)) fun l Pd hl z => ?_
    obtain ⟨l', P', h1, h2, _⟩ := P.ex
    have e1 := h1.symm.trans hl
    have e2 : l' = l := by
      have z := HO.dK.inj (Option.some.inj e1)
      have z2 := (List.cons.inj z).1
      have z3 := (Prod.mk.inj z2).2
      exact V.ref.inj z3
    rw [← z] at e2
    rw [e2, f3] at h2
    have z4 := HO.lst.inj (Option.some.inj h2)
    cases hc : P'.cells with
    | nil => rw [hc] at z4; cases z4
    | cons x r => rw [hc] at z4; cases z4
  clear sb hG nl f3
  have DR : Dp K F (.ref R) (.list [.list [.int 1, .int 2], .list [.int n], .int 5]) := .lst (.inl (.inl g3)) (.cons (.lst (.inl (.inl f1)) (.cons (.int _) (.cons (.int _) .nil))) (.cons (.lst (.inl (.inl f2)) (.cons (.int _) .nil)) (.cons (.int _) .nil)))
  have DD : Dp K F (.ref D) (.list [.list [.int 1, .int 2], .list [.int n], .int 5]) := .lst (.inl (.inl f6)) (.cons (.lst (.inl (.inl f4)) (.cons (.int _) (.cons (.int _) .nil))) (.cons (.lst (.inl (.inl f5)) (.cons (.int _) .nil)) (.cons (.int _) .nil)))
  have oD : okD (.list [.list [.int 1, .int 2], .list [.int n], .int 5]) := ⟨rfl, by show 2 ≤ 10; decide⟩
  walk_at "rd"
  refine w_xfv (v := .ref R) (vx rfl f7 0 rfl) e0 (kx_BadRow T).xf (kn_BadRow_row T) (by kernel_rfl) ?_
  walk_at "rd"
  refine w_xfv (v := .ref R) (vx rfl f7 1 rfl) e1 (kx_BadText T).xf (kn_BadText_word T) (by kernel_rfl) ?_
  walk_at "rd"
  refine w_xfv (v := .ref R) (vx rfl f7 2 rfl) e2 (kx_NotKept T).xf (kn_NotKept_witness T) (by kernel_rfl) ?_
  walk_at "rd"
  refine w_xfv (v := .ref R) (vx rfl f7 3 rfl) e3 (kx_BadSaying T).xf (kn_BadSaying_saying T) (by kernel_rfl) ?_
  walk_at "rd"
  refine w_xfv (v := .ref R) (vx rfl f7 4 rfl) e4 (kx_TooMany T).xf (kn_TooMany_many T) (by kernel_rfl) ?_
  walk_at "rd"
  walk_at "nw"
  rename_i q1 F1 s1 h1
  walk_at "rd"
  walk_at "nw"
  rename_i q2 F2 s2 h2
  walk_at "rd"
  refine ⟨q2, 5, [.ref D], rfl, rfl, h2, by decide, by decide, le_sz rfl, ?_⟩
  walk_at "nw0"
  rename_i q3 F3 s3 h3
  have st := s1.trans (s2.trans s3)
  have DR := dp_mono st DR
  have DD := dp_mono st DD
  refine neD_same (ds := [.list [.list [.int 1, .int 2], .list [.int n], .int 5], .list [.list [.int 1, .int 2], .list [.int n], .int 5], .list [.list [.int 1, .int 2], .list [.int n], .int 5], .list [.list [.int 1, .int 2], .list [.int n], .int 5], .list [.list [.int 1, .int 2], .list [.int n], .int 5]])
    (atL (s3 _ _ (s2 _ _ h1)) (.cons DR (.cons DR (.cons DR (.cons DR (.cons DR .nil)))))) (atL h3 (.cons DD (.cons DD (.cons DD (.cons DD (.cons DD .nil)))))) (by intro x hx; simp only [List.mem_cons, List.not_mem_nil, or_false, or_self] at hx; rw [hx]; exact oD) (iteF ?_)
  have P := P.same st
  clear DR DD oD st s1 s2 s3 h1 h2 h3 e0 e1 e2 e3 e4 f1 f2 f4 f5 f6 f7 g3
  walk_at "rd"
  refine ⟨p, 9, rfl, P, by decide, fun v d H4 hd od P4 sb4 => ?_⟩
  walk_at "rd"
  refine ⟨p, 10, rfl, P4, by decide, fun w e H5 he oe P5 sb5 => ?_⟩
  clear P P4 sb4 sb5 hd he od oe
  walk_at "rd"
  refine w_mk2 (kx_BadText T).oex (kn_BadText_line T) (kn_BadText_word T) (by walk_at "ve") (by walk_at "ve") fun b0 M0 s0 x0 => ?_
  have x0 := x0.ex
  have P := P5.same s0
  clear s0
  walk_at "rd"
  refine w_mk1 (kx_BadName T).oex (kn_BadName_name T) (by walk_at "ve") fun b1 M1 s1 x1 => ?_
  have x1 := x1.ex
  have x0 := x0.same s1
  have P := P.same s1
  clear s1
  walk_at "rd"
  refine w_mk2 (kx_BadNumber T).oex (kn_BadNumber_what T) (kn_BadNumber_number T) (by walk_at "ve") (by walk_at "ve") fun b2 M2 s2 x2 => ?_
  have x2 := x2.ex
  have x0 := x0.same s2
  have x1 := x1.same s2
  have P := P.same s2
  clear s2
  walk_at "rd"
  refine w_mk1 (kx_BadSaying T).oex (kn_BadSaying_saying T) (by walk_at "ve") fun b3 M3 s3 x3 => ?_
  have x3 := x3.ex
  have x0 := x0.same s3
  have x1 := x1.same s3
  have x2 := x2.same s3
  have P := P.same s3
  clear s3
  walk_at "rd"
  refine w_mk1 (kx_BadLetter T).oex (kn_BadLetter_index T) (by walk_at "ve") fun b4 M4 s4 x4 => ?_
  have x4 := x4.ex
  have x0 := x0.same s4
  have x1 := x1.same s4
  have x2 := x2.same s4
  have x3 := x3.same s4
  have P := P.same s4
  clear s4
  walk_at "rd"
  refine w_mk1 (kx_BadBody T).oex (kn_BadBody_body T) (by walk_at "ve") fun b5 M5 s5 x5 => ?_
  have x5 := x5.ex
  have x0 := x0.same s5
  have x1 := x1.same s5
  have x2 := x2.same s5
  have x3 := x3.same s5
  have x4 := x4.same s5
  have P := P.same s5
  clear s5
  walk_at "rd"
  walk_at "nw"
  rename_i l N s fn
  have x0 := x0.same s
  have x1 := x1.same s
  have x2 := x2.same s
  have x3 := x3.same s
  have x4 := x4.same s
  have x5 := x5.same s
  have P := P.same s
  have fl := fn
  clear s fn
  walk_at "rd"
  refine w_mk1 (kx_BadAim T).oex (kn_BadAim_index T) (by walk_at "ve") fun b6 M6 s6 x6 => ?_
  have x6 := x6.ex
  have x0 := x0.same s6
  have x1 := x1.same s6
  have x2 := x2.same s6
  have x3 := x3.same s6
  have x4 := x4.same s6
  have x5 := x5.same s6
  have fl := s6 _ _ fl
  have P := P.same s6
  clear s6
  walk_at "rd"
  refine w_mk2 (kx_BadRow T).oex (kn_BadRow_what T) (kn_BadRow_row T) (by walk_at "ve") (by walk_at "ve") fun b7 M7 s7 x7 => ?_
  have x7 := x7.ex
  have x0 := x0.same s7
  have x1 := x1.same s7
  have x2 := x2.same s7
  have x3 := x3.same s7
  have x4 := x4.same s7
  have x5 := x5.same s7
  have x6 := x6.same s7
  have fl := s7 _ _ fl
  have P := P.same s7
  clear s7
  walk_at "rd"
  refine w_mk1 (kx_NoName T).oex (kn_NoName_name T) (by walk_at "ve") fun b8 M8 s8 x8 => ?_
  have x8 := x8.ex
  have x0 := x0.same s8
  have x1 := x1.same s8
  have x2 := x2.same s8
  have x3 := x3.same s8
  have x4 := x4.same s8
  have x5 := x5.same s8
  have x6 := x6.same s8
  have x7 := x7.same s8
  have fl := s8 _ _ fl
  have P := P.same s8
  clear s8
  walk_at "rd"
  refine w_mk1 (kx_TakenName T).oex (kn_TakenName_name T) (by walk_at "ve") fun b9 M9 s9 x9 => ?_
  have x9 := x9.ex
  have x0 := x0.same s9
  have x1 := x1.same s9
  have x2 := x2.same s9
  have x3 := x3.same s9
  have x4 := x4.same s9
  have x5 := x5.same s9
  have x6 := x6.same s9
  have x7 := x7.same s9
  have x8 := x8.same s9
  have fl := s9 _ _ fl
  have P := P.same s9
  clear s9
  walk_at "rd"
  refine w_mk1 (kx_Unlike T).oex (kn_Unlike_what T) (by walk_at "ve") fun b10 M10 s10 x10 => ?_
  have x10 := x10.ex
  have x0 := x0.same s10
  have x1 := x1.same s10
  have x2 := x2.same s10
  have x3 := x3.same s10
  have x4 := x4.same s10
  have x5 := x5.same s10
  have x6 := x6.same s10
  have x7 := x7.same s10
  have x8 := x8.same s10
  have x9 := x9.same s10
  have fl := s10 _ _ fl
  have P := P.same s10
  clear s10
  walk_at "rd"
  refine w_mk1 (kx_NotThere T).oex (kn_NotThere_what T) (by walk_at "ve") fun b11 M11 s11 x11 => ?_
  have x11 := x11.ex
  have x0 := x0.same s11
  have x1 := x1.same s11
  have x2 := x2.same s11
  have x3 := x3.same s11
  have x4 := x4.same s11
  have x5 := x5.same s11
  have x6 := x6.same s11
  have x7 := x7.same s11
  have x8 := x8.same s11
  have x9 := x9.same s11
  have x10 := x10.same s11
  have fl := s11 _ _ fl
  have P := P.same s11
  clear s11
  walk_at "rd"
  walk_at "nw"
  rename_i l N s fn
  have x0 := x0.same s
  have x1 := x1.same s
  have x2 := x2.same s
  have x3 := x3.same s
  have x4 := x4.same s
  have x5 := x5.same s
  have x6 := x6.same s
  have x7 := x7.same s
  have x8 := x8.same s
  have x9 := x9.same s
  have x10 := x10.same s
  have x11 := x11.same s
  have P := P.same s
  have fl := s _ _ fl
  clear s
  refine w_cat fl fn rfl ?_
  walk_at "nw0"
  rename_i l2 N2 s fl2
  have x0 := x0.same s
  have x1 := x1.same s
  have x2 := x2.same s
  have x3 := x3.same s
  have x4 := x4.same s
  have x5 := x5.same s
  have x6 := x6.same s
  have x7 := x7.same s
  have x8 := x8.same s
  have x9 := x9.same s
  have x10 := x10.same s
  have x11 := x11.same s
  have P := P.same s
  have fl := fl2
  clear s fl2 fn
  walk_at "rd"
  refine w_mk3 (kx_TooMany T).oex (kn_TooMany_what T) (kn_TooMany_many T) (kn_TooMany_limit T) (by walk_at "ve") (by walk_at "ve") (by walk_at "ve") fun b12 M12 s12 x12 => ?_
  have x12 := x12.ex
  have x0 := x0.same s12
  have x1 := x1.same s12
  have x2 := x2.same s12
  have x3 := x3.same s12
  have x4 := x4.same s12
  have x5 := x5.same s12
  have x6 := x6.same s12
  have x7 := x7.same s12
  have x8 := x8.same s12
  have x9 := x9.same s12
  have x10 := x10.same s12
  have x11 := x11.same s12
  have fl := s12 _ _ fl
  have P := P.same s12
  clear s12
  walk_at "rd"
  refine w_mk2 (kx_NotKept T).oex (kn_NotKept_promise T) (kn_NotKept_witness T) (by walk_at "ve") (by walk_at "ve") fun b13 M13 s13 x13 => ?_
  have x13 := x13.ex
  have x0 := x0.same s13
  have x1 := x1.same s13
  have x2 := x2.same s13
  have x3 := x3.same s13
  have x4 := x4.same s13
  have x5 := x5.same s13
  have x6 := x6.same s13
  have x7 := x7.same s13
  have x8 := x8.same s13
  have x9 := x9.same s13
  have x10 := x10.same s13
  have x11 := x11.same s13
  have x12 := x12.same s13
  have fl := s13 _ _ fl
  have P := P.same s13
  clear s13
  walk_at "rd"
  intro b14 nb
  generalize hG : upd _ b14 _ = M14
  have s14 := up_same hG nb
  have x14 : ExAt M14 b14 (He.ga K "NothingToUndo") := .inr (up_at hG)
  clear hG nb
  have x0 := x0.same s14
  have x1 := x1.same s14
  have x2 := x2.same s14
  have x3 := x3.same s14
  have x4 := x4.same s14
  have x5 := x5.same s14
  have x6 := x6.same s14
  have x7 := x7.same s14
  have x8 := x8.same s14
  have x9 := x9.same s14
  have x10 := x10.same s14
  have x11 := x11.same s14
  have x12 := x12.same s14
  have x13 := x13.same s14
  have fl := s14 _ _ fl
  have P := P.same s14
  clear s14
  walk_at "rd"
  intro b15 nb
  generalize hG : upd _ b15 _ = M15
  have s15 := up_same hG nb
  have x15 : ExAt M15 b15 (He.ga K "NothingToRedo") := .inr (up_at hG)
  clear hG nb
  have x0 := x0.same s15
  have x1 := x1.same s15
  have x2 := x2.same s15
  have x3 := x3.same s15
  have x4 := x4.same s15
  have x5 := x5.same s15
  have x6 := x6.same s15
  have x7 := x7.same s15
  have x8 := x8.same s15
  have x9 := x9.same s15
  have x10 := x10.same s15
  have x11 := x11.same s15
  have x12 := x12.same s15
  have x13 := x13.same s15
  have x14 := x14.same s15
  have fl := s15 _ _ fl
  have P := P.same s15
  clear s15
  walk_at "rd"
  walk_at "nw"
  rename_i l N s fn
  have x0 := x0.same s
  have x1 := x1.same s
  have x2 := x2.same s
  have x3 := x3.same s
  have x4 := x4.same s
  have x5 := x5.same s
  have x6 := x6.same s
  have x7 := x7.same s
  have x8 := x8.same s
  have x9 := x9.same s
  have x10 := x10.same s
  have x11 := x11.same s
  have x12 := x12.same s
  have x13 := x13.same s
  have x14 := x14.same s
  have x15 := x15.same s
  have P := P.same s
  have fl := s _ _ fl
  clear s
  refine w_cat fl fn rfl ?_
  walk_at "nw0"
  rename_i l2 N2 s fl2
  have x0 := x0.same s
  have x1 := x1.same s
  have x2 := x2.same s
  have x3 := x3.same s
  have x4 := x4.same s
  have x5 := x5.same s
  have x6 := x6.same s
  have x7 := x7.same s
  have x8 := x8.same s
  have x9 := x9.same s
  have x10 := x10.same s
  have x11 := x11.same s
  have x12 := x12.same s
  have x13 := x13.same s
  have x14 := x14.same s
  have x15 := x15.same s
  have P := P.same s
  have fl := fl2
  clear s fl2 fn
  have all : ∀ k, k < 16 → ∃ a, ([.ref b0, .ref b1, .ref b2, .ref b3, .ref b4, .ref b5, .ref b6, .ref b7, .ref b8, .ref b9, .ref b10, .ref b11, .ref b12, .ref b13, .ref b14, .ref b15] : List V)[k]? = some (.ref a) ∧ ExAt N2 a (He.ga K (cn k)) := by
    intro k hk
    have h : k = 0 ∨ k = 1 ∨ k = 2 ∨ k = 3 ∨ k = 4 ∨ k = 5 ∨ k = 6 ∨ k = 7 ∨ k = 8 ∨ k = 9 ∨ k = 10 ∨ k = 11 ∨ k = 12 ∨ k = 13 ∨ k = 14 ∨ k = 15 := by omega
    rcases h with rfl | rfl | rfl | rfl | rfl | rfl | rfl | rfl | rfl | rfl | rfl | rfl | rfl | rfl | rfl | rfl
    · exact ⟨b0, rfl, x0⟩
    · exact ⟨b1, rfl, x1⟩
    · exact ⟨b2, rfl, x2⟩
    · exact ⟨b3, rfl, x3⟩
    · exact ⟨b4, rfl, x4⟩
    · exact ⟨b5, rfl, x5⟩
    · exact ⟨b6, rfl, x6⟩
    · exact ⟨b7, rfl, x7⟩
    · exact ⟨b8, rfl, x8⟩
    · exact ⟨b9, rfl, x9⟩
    · exact ⟨b10, rfl, x10⟩
    · exact ⟨b11, rfl, x11⟩
    · exact ⟨b12, rfl, x12⟩
    · exact ⟨b13, rfl, x13⟩
    · exact ⟨b14, rfl, x14⟩
    · exact ⟨b15, rfl, x15⟩
  have hl16 : ([.ref b0, .ref b1, .ref b2, .ref b3, .ref b4, .ref b5, .ref b6, .ref b7, .ref b8, .ref b9, .ref b10, .ref b11, .ref b12, .ref b13, .ref b14, .ref b15] : List V).length = 16 := rfl
  have fl : N2 l2 = some (.lst [.ref b0, .ref b1, .ref b2, .ref b3, .ref b4, .ref b5, .ref b6, .ref b7, .ref b8, .ref b9, .ref b10, .ref b11, .ref b12, .ref b13, .ref b14, .ref b15]) := fl
  generalize ([.ref b0, .ref b1, .ref b2, .ref b3, .ref b4, .ref b5, .ref b6, .ref b7, .ref b8, .ref b9, .ref b10, .ref b11, .ref b12, .ref b13, .ref b14, .ref b15] : List V) = xs at fl all hl16
  clear x0 x1 x2 x3 x4 x5 x6 x7 x8 x9 x10 x11 x12 x13 x14 x15
  walk_at "rd"
  refine ⟨_, rfl, l2, xs, rfl, .inl (.inl fl), for_it walk_enum (fun i σ' H' => (∃ (u0 u2 u3 u4 u5 u6 u7 u8 u10 u11 u12 : Option V), σ' = [u0, some (.ref p), u2, u3, u4, u5, u6, u7, u8, some (.ref l2), u10, u11, u12]) ∧ H' l2 = some (.lst xs) ∧ PenAt 11 p H' ∧ ∀ k, k < 16 → ∃ a, xs[k]? = some (.ref a) ∧ ExAt H' a (He.ga K (cn k)))
    ⟨⟨_, _, _, _, _, _, _, _, _, _, _, rfl⟩, fl, P, all⟩ (fun i σ' H' _ h => .inl (.inl h.2.1)) ?_ ?_⟩
  · rintro i x σ' H' H'' hi ⟨⟨u0, u2, u3, u4, u5, u6, u7, u8, u10, u11, u12, rfl⟩, hf, hP, hall⟩ ⟨t, y, z, rfl, nt, rfl, ey, ez⟩
    have hi16 : i < 16 := by rw [hl16] at hi; exact hi
    obtain ⟨e, he, hex⟩ := hall i hi16
    have ey' := Option.some.inj ey
    subst ey'
    have ez' : V.ref e = z := Option.some.inj (he.symm.trans ez)
    subst ez'
    generalize hG : upd H' t _ = G
    have s1 := up_same hG nt
    have ft := up_at hG
    clear hG nt
    refine w_gtup (.inl (.inl ft)) rfl ?_
    have hex := hex.same s1
    walk_at "rd"
    refine ⟨e, i, rfl, hi16, hex, fun pc H1 s2 fc => ?_⟩
    walk_at "rd"
    refine ⟨16, rfl, by decide, by decide, fun Dl nD => ?_⟩
    refine lc_range (lo := 0) (n := 16) (fun j H3 => Same H1 H3 ∧ H3 Dl = some (.lst ((List.range j).map fun m => V.bl (decide (i = m))))) ⟨same_new nD, upd_same⟩ ?_ ?_
    · rintro j H3 hj ⟨s3, f3⟩
      refine ⟨rfl, ?_⟩
      walk_at "rd"
      refine iteT ?_
      walk_at "rd"
      refine ⟨_, f3, by rw [List.length_map, List.length_range]; exact Nat.lt_of_lt_of_le hj (by decide), ?_⟩
      refine ⟨fun b u h => ?_, ?_⟩
      · rw [upd_ne (ne_of_none h nD)]
        exact s3 b u h
      · rw [upd_same, range_succ_map, ← dec_ij]
    · rintro H3 ⟨s3, f3⟩
      have fc := s3 _ _ fc
      refine neD_same (bools_dp fc) (bools_dp (k := i) f3) (by intro d hd; obtain ⟨m, _, rfl⟩ := List.mem_map.mp hd; exact ⟨rfl, Nat.zero_le _⟩) (iteF ?_)
      have st := (s1.trans s2).trans s3
      have hex := (hex.same s2).same s3
      walk_at "rd"
      refine w_isF T hex hi16 ?_
      walk_at "rd"
      refine iteF ?_
      walk_at "rd"
      refine w_isV T hex hi16 ?_
      walk_at "rd"
      refine iteF ?_
      walk_at "rd"
      refine ⟨⟨_, _, _, _, _, _, _, _, _, _, _, rfl⟩, st _ _ hf, hP.same st, fun k hk => ?_⟩
      obtain ⟨b, hb, hx⟩ := hall k hk
      exact ⟨b, hb, hx.same st⟩
  · rintro σ' H' ⟨⟨u0, u2, u3, u4, u5, u6, u7, u8, u10, u11, u12, rfl⟩, hf, hP, hall⟩
    walk_at "rd"
    refine ⟨p, 11, rfl, hP, by decide, fun v d H4 hd od P4 sb4 => ?_⟩
    walk_at "rd"
    exact ⟨v, d, rfl, hd, od, q⟩
end
end VB

set_option Elab.async false
set_option linter.all false
set_option maxRecDepth 100000
set_option maxHeartbeats 0
namespace VB
open PySem PySem.Spec PyProof.Rows L2
/-! ### the text by places -/
def top (i : Nat) : Stmt := PySem.Challenge.pw_voicesboth_k01_errors.main.body.getD i (.Pass ⟨0, 0, 0, 0⟩)
abbrev s__law_pen : Stmt := top 19
abbrev s__law_draw : Stmt := top 20
abbrev s__law_pick : Stmt := top 21
abbrev s__law_thing : Stmt := top 22
abbrev s__law_classes : Stmt := top 23
abbrev s__law_raised_right : Stmt := top 24
abbrev s__law_fields_right : Stmt := top 25
abbrev s_law : Stmt := top 26
abbrev s_ini_BadText : Stmt := inClass (top 2) 0
abbrev s_ini_BadName : Stmt := inClass (top 3) 0
abbrev s_ini_BadNumber : Stmt := inClass (top 4) 0
abbrev s_ini_BadSaying : Stmt := inClass (top 5) 0
abbrev s_ini_BadLetter : Stmt := inClass (top 6) 0
abbrev s_ini_BadBody : Stmt := inClass (top 7) 0
abbrev s_ini_BadAim : Stmt := inClass (top 8) 0
abbrev s_ini_BadRow : Stmt := inClass (top 9) 0
abbrev s_ini_NoName : Stmt := inClass (top 10) 0
abbrev s_ini_TakenName : Stmt := inClass (top 11) 0
abbrev s_ini_Unlike : Stmt := inClass (top 12) 0
abbrev s_ini_NotThere : Stmt := inClass (top 13) 0
abbrev s_ini_TooMany : Stmt := inClass (top 14) 0
abbrev s_ini_NotKept : Stmt := inClass (top 15) 0
def fa : List He.Fa := [.glo "_law_pen", .glo "_law_draw", .glo "_law_pick", .glo "_law_thing", .glo "_law_classes", .glo "_law_raised_right", .glo "_law_fields_right", .glo "law", .glo "BadText", .glo "BadName", .glo "BadNumber", .glo "BadSaying", .glo "BadLetter", .glo "BadBody", .glo "BadAim", .glo "BadRow", .glo "NoName", .glo "TakenName", .glo "Unlike", .glo "NotThere", .glo "TooMany", .glo "NotKept", .glo "NothingToUndo", .glo "NothingToRedo", .glo "ForumError", .free "len", .free "int", .free "list", .free "range", .free "isinstance", .free "enumerate", .free "ValueError"]
def fn : List He.DefD := [dfn "_law_pen" s__law_pen, dfn "_law_draw" s__law_draw, dfn "_law_pick" s__law_pick, dfn "_law_thing" s__law_thing, dfn "_law_classes" s__law_classes, dfn "_law_raised_right" s__law_raised_right, dfn "_law_fields_right" s__law_fields_right, dfn "law" s_law, mth "BadText" "__init__" "BadText.__init__" s_ini_BadText, mth "BadName" "__init__" "BadName.__init__" s_ini_BadName, mth "BadNumber" "__init__" "BadNumber.__init__" s_ini_BadNumber, mth "BadSaying" "__init__" "BadSaying.__init__" s_ini_BadSaying, mth "BadLetter" "__init__" "BadLetter.__init__" s_ini_BadLetter, mth "BadBody" "__init__" "BadBody.__init__" s_ini_BadBody, mth "BadAim" "__init__" "BadAim.__init__" s_ini_BadAim, mth "BadRow" "__init__" "BadRow.__init__" s_ini_BadRow, mth "NoName" "__init__" "NoName.__init__" s_ini_NoName, mth "TakenName" "__init__" "TakenName.__init__" s_ini_TakenName, mth "Unlike" "__init__" "Unlike.__init__" s_ini_Unlike, mth "NotThere" "__init__" "NotThere.__init__" s_ini_NotThere, mth "TooMany" "__init__" "TooMany.__init__" s_ini_TooMany, mth "NotKept" "__init__" "NotKept.__init__" s_ini_NotKept]
def iniN : List Str := ["BadText", "BadName", "BadNumber", "BadSaying", "BadLetter", "BadBody", "BadAim", "BadRow", "NoName", "TakenName", "Unlike", "NotThere", "TooMany", "NotKept"]
def exB (K : PySem.W.Frag) : Bool := kxB K && iniN.all (fun x => decide (PySem.W.findIn K (.ref (He.ga K x)) "__init__" = some (some (.ref (He.ma K (He.ga K x) "__init__")))) && decide (PySem.W.typeIn K (.ref (He.ma K (He.ga K x) "__init__")) = some (.type "function"))) &&
  (["NothingToUndo", "NothingToRedo"] : List Str).all (fun x => PySem.W.excIn K (He.ga K x) He.veBase "ValueError.__new__")
abbrev TX (K : PySem.W.Frag) (mg : Str → Option Value) : Prop := Tx fa fn exB K mg
section
variable {P : Program} {w : World} {K : PySem.W.Frag} {mg : Str → Option Value} {base : Heap}
theorem Tx.kx (T : TX K mg) : Kx K := by
  have h := T.x
  unfold exB at h
  simp only [Bool.and_eq_true] at h
  exact kx_ok h.1.1
theorem Tx.ini (T : TX K mg) {x : Str} (hx : x ∈ iniN) : PySem.W.findIn K (.ref (He.ga K x)) "__init__" = some (some (.ref (He.ma K (He.ga K x) "__init__"))) ∧ PySem.W.typeIn K (.ref (He.ma K (He.ga K x) "__init__")) = some (.type "function") := by
  have h := T.x
  unfold exB at h
  simp only [Bool.and_eq_true, List.all_eq_true, decide_eq_true_eq] at h
  exact h.1.2 x hx
theorem Tx.no (T : TX K mg) {x : Str} (hx : x ∈ (["NothingToUndo", "NothingToRedo"] : List Str)) : PySem.W.excIn K (He.ga K x) He.veBase "ValueError.__new__" = true := by
  have h := T.x
  unfold exB at h
  simp only [Bool.and_eq_true, List.all_eq_true] at h
  exact h.2 x hx
theorem Tx.g__law_pen (T : TX K mg) : mg "_law_pen" = some (.ref (He.ga K "_law_pen")) := T.glo 0
theorem Tx.g__law_draw (T : TX K mg) : mg "_law_draw" = some (.ref (He.ga K "_law_draw")) := T.glo 1
theorem Tx.g__law_pick (T : TX K mg) : mg "_law_pick" = some (.ref (He.ga K "_law_pick")) := T.glo 2
theorem Tx.g__law_thing (T : TX K mg) : mg "_law_thing" = some (.ref (He.ga K "_law_thing")) := T.glo 3
theorem Tx.g__law_classes (T : TX K mg) : mg "_law_classes" = some (.ref (He.ga K "_law_classes")) := T.glo 4
theorem Tx.g__law_raised_right (T : TX K mg) : mg "_law_raised_right" = some (.ref (He.ga K "_law_raised_right")) := T.glo 5
theorem Tx.g__law_fields_right (T : TX K mg) : mg "_law_fields_right" = some (.ref (He.ga K "_law_fields_right")) := T.glo 6
theorem Tx.g_law (T : TX K mg) : mg "law" = some (.ref (He.ga K "law")) := T.glo 7
theorem Tx.g_BadText (T : TX K mg) : mg "BadText" = some (.ref (He.ga K "BadText")) := T.glo 8
theorem Tx.g_BadName (T : TX K mg) : mg "BadName" = some (.ref (He.ga K "BadName")) := T.glo 9
theorem Tx.g_BadNumber (T : TX K mg) : mg "BadNumber" = some (.ref (He.ga K "BadNumber")) := T.glo 10
theorem Tx.g_BadSaying (T : TX K mg) : mg "BadSaying" = some (.ref (He.ga K "BadSaying")) := T.glo 11
theorem Tx.g_BadLetter (T : TX K mg) : mg "BadLetter" = some (.ref (He.ga K "BadLetter")) := T.glo 12
theorem Tx.g_BadBody (T : TX K mg) : mg "BadBody" = some (.ref (He.ga K "BadBody")) := T.glo 13
theorem Tx.g_BadAim (T : TX K mg) : mg "BadAim" = some (.ref (He.ga K "BadAim")) := T.glo 14
theorem Tx.g_BadRow (T : TX K mg) : mg "BadRow" = some (.ref (He.ga K "BadRow")) := T.glo 15
theorem Tx.g_NoName (T : TX K mg) : mg "NoName" = some (.ref (He.ga K "NoName")) := T.glo 16
theorem Tx.g_TakenName (T : TX K mg) : mg "TakenName" = some (.ref (He.ga K "TakenName")) := T.glo 17
theorem Tx.g_Unlike (T : TX K mg) : mg "Unlike" = some (.ref (He.ga K "Unlike")) := T.glo 18
theorem Tx.g_NotThere (T : TX K mg) : mg "NotThere" = some (.ref (He.ga K "NotThere")) := T.glo 19
theorem Tx.g_TooMany (T : TX K mg) : mg "TooMany" = some (.ref (He.ga K "TooMany")) := T.glo 20
theorem Tx.g_NotKept (T : TX K mg) : mg "NotKept" = some (.ref (He.ga K "NotKept")) := T.glo 21
theorem Tx.g_NothingToUndo (T : TX K mg) : mg "NothingToUndo" = some (.ref (He.ga K "NothingToUndo")) := T.glo 22
theorem Tx.g_NothingToRedo (T : TX K mg) : mg "NothingToRedo" = some (.ref (He.ga K "NothingToRedo")) := T.glo 23
theorem Tx.g_ForumError (T : TX K mg) : mg "ForumError" = some (.ref (He.ga K "ForumError")) := T.glo 24
theorem Tx.n_len (T : TX K mg) : mg "len" = none := T.free 25
theorem Tx.n_int (T : TX K mg) : mg "int" = none := T.free 26
theorem Tx.n_list (T : TX K mg) : mg "list" = none := T.free 27
theorem Tx.n_range (T : TX K mg) : mg "range" = none := T.free 28
theorem Tx.n_isinstance (T : TX K mg) : mg "isinstance" = none := T.free 29
theorem Tx.n_enumerate (T : TX K mg) : mg "enumerate" = none := T.free 30
theorem Tx.n_ValueError (T : TX K mg) : mg "ValueError" = none := T.free 31
theorem Tx.f__law_pen (T : TX K mg) : FunD K "_law_pen" "_law_pen" (defArgs s__law_pen) (defBody s__law_pen) (defScope s__law_pen) [] [] (He.ga K "_law_pen") (fdOf K ("_law_pen", none)) := T.def_ 0
theorem Tx.k__law_pen (T : TX K mg) : PySem.W.keepIn K (.ref (He.ga K "_law_pen")) = true := T.f__law_pen.kp
theorem Tx.b__law_pen (T : TX K mg) : Binds K (fdOf K ("_law_pen", none)) ["script"] [] := T.f__law_pen.bindsN fun _ _ _ _ _ _ us hl => match us, hl with | [_], _ => rfl
theorem Tx.f__law_draw (T : TX K mg) : FunD K "_law_draw" "_law_draw" (defArgs s__law_draw) (defBody s__law_draw) (defScope s__law_draw) [] [] (He.ga K "_law_draw") (fdOf K ("_law_draw", none)) := T.def_ 1
theorem Tx.k__law_draw (T : TX K mg) : PySem.W.keepIn K (.ref (He.ga K "_law_draw")) = true := T.f__law_draw.kp
theorem Tx.b__law_draw (T : TX K mg) : Binds K (fdOf K ("_law_draw", none)) ["pen", "many"] [] := T.f__law_draw.bindsN fun _ _ _ _ _ _ us hl => match us, hl with | [_, _], _ => rfl
theorem Tx.f__law_pick (T : TX K mg) : FunD K "_law_pick" "_law_pick" (defArgs s__law_pick) (defBody s__law_pick) (defScope s__law_pick) [] [] (He.ga K "_law_pick") (fdOf K ("_law_pick", none)) := T.def_ 2
theorem Tx.k__law_pick (T : TX K mg) : PySem.W.keepIn K (.ref (He.ga K "_law_pick")) = true := T.f__law_pick.kp
theorem Tx.b__law_pick (T : TX K mg) : Binds K (fdOf K ("_law_pick", none)) ["pen", "some"] [] := T.f__law_pick.bindsN fun _ _ _ _ _ _ us hl => match us, hl with | [_, _], _ => rfl
theorem Tx.f__law_thing (T : TX K mg) : FunD K "_law_thing" "_law_thing" (defArgs s__law_thing) (defBody s__law_thing) (defScope s__law_thing) [] [] (He.ga K "_law_thing") (fdOf K ("_law_thing", none)) := T.def_ 3
theorem Tx.k__law_thing (T : TX K mg) : PySem.W.keepIn K (.ref (He.ga K "_law_thing")) = true := T.f__law_thing.kp
theorem Tx.b__law_thing (T : TX K mg) : Binds K (fdOf K ("_law_thing", none)) ["pen"] [] := T.f__law_thing.bindsN fun _ _ _ _ _ _ us hl => match us, hl with | [_], _ => rfl
theorem Tx.f__law_classes (T : TX K mg) : FunD K "_law_classes" "_law_classes" (defArgs s__law_classes) (defBody s__law_classes) (defScope s__law_classes) [] [] (He.ga K "_law_classes") (fdOf K ("_law_classes", none)) := T.def_ 4
theorem Tx.k__law_classes (T : TX K mg) : PySem.W.keepIn K (.ref (He.ga K "_law_classes")) = true := T.f__law_classes.kp
theorem Tx.b__law_classes (T : TX K mg) : Binds K (fdOf K ("_law_classes", none)) ["error"] [] := T.f__law_classes.bindsN fun _ _ _ _ _ _ us hl => match us, hl with | [_], _ => rfl
theorem Tx.f__law_raised_right (T : TX K mg) : FunD K "_law_raised_right" "_law_raised_right" (defArgs s__law_raised_right) (defBody s__law_raised_right) (defScope s__law_raised_right) [] [] (He.ga K "_law_raised_right") (fdOf K ("_law_raised_right", none)) := T.def_ 5
theorem Tx.k__law_raised_right (T : TX K mg) : PySem.W.keepIn K (.ref (He.ga K "_law_raised_right")) = true := T.f__law_raised_right.kp
theorem Tx.b__law_raised_right (T : TX K mg) : Binds K (fdOf K ("_law_raised_right", none)) ["one"] [] := T.f__law_raised_right.bindsN fun _ _ _ _ _ _ us hl => match us, hl with | [_], _ => rfl
theorem Tx.f__law_fields_right (T : TX K mg) : FunD K "_law_fields_right" "_law_fields_right" (defArgs s__law_fields_right) (defBody s__law_fields_right) (defScope s__law_fields_right) [] [] (He.ga K "_law_fields_right") (fdOf K ("_law_fields_right", none)) := T.def_ 6
theorem Tx.k__law_fields_right (T : TX K mg) : PySem.W.keepIn K (.ref (He.ga K "_law_fields_right")) = true := T.f__law_fields_right.kp
theorem Tx.b__law_fields_right (T : TX K mg) : Binds K (fdOf K ("_law_fields_right", none)) ["one", "other"] [] := T.f__law_fields_right.bindsN fun _ _ _ _ _ _ us hl => match us, hl with | [_, _], _ => rfl
theorem Tx.f_law (T : TX K mg) : FunD K "law" "law" (defArgs s_law) (defBody s_law) (defScope s_law) [] [] (He.ga K "law") (fdOf K ("law", none)) := T.def_ 7
theorem Tx.k_law (T : TX K mg) : PySem.W.keepIn K (.ref (He.ga K "law")) = true := T.f_law.kp
theorem Tx.b_law (T : TX K mg) : Binds K (fdOf K ("law", none)) ["script"] [] := T.f_law.bindsN fun _ _ _ _ _ _ us hl => match us, hl with | [_], _ => rfl
theorem Tx.f_ini_BadText (T : TX K mg) : FunD K "__init__" "BadText.__init__" (defArgs s_ini_BadText) (defBody s_ini_BadText) (defScope s_ini_BadText) [] [] (He.ma K (He.ga K "BadText") "__init__") (fdOf K ("BadText", some "__init__")) := T.def_ 8
theorem Tx.b_BadText (T : TX K mg) : Binds K (fdOf K ("BadText", some "__init__")) ["self", "line", "word"] [] := T.f_ini_BadText.bindsN fun _ _ _ _ _ _ us hl => match us, hl with | [_, _, _], _ => rfl
theorem Tx.x_BadText (T : TX K mg) : ExK K (He.ga K "BadText") := kx_BadText T.kx
theorem Tx.i_BadText (T : TX K mg) : PySem.W.findIn K (.ref (He.ga K "BadText")) "__init__" = some (some (.ref (He.ma K (He.ga K "BadText") "__init__"))) := (T.ini (x := "BadText") (by decide +kernel)).1
theorem Tx.t_BadText (T : TX K mg) : PySem.W.typeIn K (.ref (He.ma K (He.ga K "BadText") "__init__")) = some (.type "function") := (T.ini (x := "BadText") (by decide +kernel)).2
theorem Tx.f_ini_BadName (T : TX K mg) : FunD K "__init__" "BadName.__init__" (defArgs s_ini_BadName) (defBody s_ini_BadName) (defScope s_ini_BadName) [] [] (He.ma K (He.ga K "BadName") "__init__") (fdOf K ("BadName", some "__init__")) := T.def_ 9
theorem Tx.b_BadName (T : TX K mg) : Binds K (fdOf K ("BadName", some "__init__")) ["self", "name"] [] := T.f_ini_BadName.bindsN fun _ _ _ _ _ _ us hl => match us, hl with | [_, _], _ => rfl
theorem Tx.x_BadName (T : TX K mg) : ExK K (He.ga K "BadName") := kx_BadName T.kx
theorem Tx.i_BadName (T : TX K mg) : PySem.W.findIn K (.ref (He.ga K "BadName")) "__init__" = some (some (.ref (He.ma K (He.ga K "BadName") "__init__"))) := (T.ini (x := "BadName") (by decide +kernel)).1
theorem Tx.t_BadName (T : TX K mg) : PySem.W.typeIn K (.ref (He.ma K (He.ga K "BadName") "__init__")) = some (.type "function") := (T.ini (x := "BadName") (by decide +kernel)).2
theorem Tx.f_ini_BadNumber (T : TX K mg) : FunD K "__init__" "BadNumber.__init__" (defArgs s_ini_BadNumber) (defBody s_ini_BadNumber) (defScope s_ini_BadNumber) [] [] (He.ma K (He.ga K "BadNumber") "__init__") (fdOf K ("BadNumber", some "__init__")) := T.def_ 10
theorem Tx.b_BadNumber (T : TX K mg) : Binds K (fdOf K ("BadNumber", some "__init__")) ["self", "what", "number"] [] := T.f_ini_BadNumber.bindsN fun _ _ _ _ _ _ us hl => match us, hl with | [_, _, _], _ => rfl
theorem Tx.x_BadNumber (T : TX K mg) : ExK K (He.ga K "BadNumber") := kx_BadNumber T.kx
theorem Tx.i_BadNumber (T : TX K mg) : PySem.W.findIn K (.ref (He.ga K "BadNumber")) "__init__" = some (some (.ref (He.ma K (He.ga K "BadNumber") "__init__"))) := (T.ini (x := "BadNumber") (by decide +kernel)).1
theorem Tx.t_BadNumber (T : TX K mg) : PySem.W.typeIn K (.ref (He.ma K (He.ga K "BadNumber") "__init__")) = some (.type "function") := (T.ini (x := "BadNumber") (by decide +kernel)).2
theorem Tx.f_ini_BadSaying (T : TX K mg) : FunD K "__init__" "BadSaying.__init__" (defArgs s_ini_BadSaying) (defBody s_ini_BadSaying) (defScope s_ini_BadSaying) [] [] (He.ma K (He.ga K "BadSaying") "__init__") (fdOf K ("BadSaying", some "__init__")) := T.def_ 11
theorem Tx.b_BadSaying (T : TX K mg) : Binds K (fdOf K ("BadSaying", some "__init__")) ["self", "saying"] [] := T.f_ini_BadSaying.bindsN fun _ _ _ _ _ _ us hl => match us, hl with | [_, _], _ => rfl
theorem Tx.x_BadSaying (T : TX K mg) : ExK K (He.ga K "BadSaying") := kx_BadSaying T.kx
theorem Tx.i_BadSaying (T : TX K mg) : PySem.W.findIn K (.ref (He.ga K "BadSaying")) "__init__" = some (some (.ref (He.ma K (He.ga K "BadSaying") "__init__"))) := (T.ini (x := "BadSaying") (by decide +kernel)).1
theorem Tx.t_BadSaying (T : TX K mg) : PySem.W.typeIn K (.ref (He.ma K (He.ga K "BadSaying") "__init__")) = some (.type "function") := (T.ini (x := "BadSaying") (by decide +kernel)).2
theorem Tx.f_ini_BadLetter (T : TX K mg) : FunD K "__init__" "BadLetter.__init__" (defArgs s_ini_BadLetter) (defBody s_ini_BadLetter) (defScope s_ini_BadLetter) [] [] (He.ma K (He.ga K "BadLetter") "__init__") (fdOf K ("BadLetter", some "__init__")) := T.def_ 12
theorem Tx.b_BadLetter (T : TX K mg) : Binds K (fdOf K ("BadLetter", some "__init__")) ["self", "index"] [] := T.f_ini_BadLetter.bindsN fun _ _ _ _ _ _ us hl => match us, hl with | [_, _], _ => rfl
theorem Tx.x_BadLetter (T : TX K mg) : ExK K (He.ga K "BadLetter") := kx_BadLetter T.kx
theorem Tx.i_BadLetter (T : TX K mg) : PySem.W.findIn K (.ref (He.ga K "BadLetter")) "__init__" = some (some (.ref (He.ma K (He.ga K "BadLetter") "__init__"))) := (T.ini (x := "BadLetter") (by decide +kernel)).1
theorem Tx.t_BadLetter (T : TX K mg) : PySem.W.typeIn K (.ref (He.ma K (He.ga K "BadLetter") "__init__")) = some (.type "function") := (T.ini (x := "BadLetter") (by decide +kernel)).2
theorem Tx.f_ini_BadBody (T : TX K mg) : FunD K "__init__" "BadBody.__init__" (defArgs s_ini_BadBody) (defBody s_ini_BadBody) (defScope s_ini_BadBody) [] [] (He.ma K (He.ga K "BadBody") "__init__") (fdOf K ("BadBody", some "__init__")) := T.def_ 13
theorem Tx.b_BadBody (T : TX K mg) : Binds K (fdOf K ("BadBody", some "__init__")) ["self", "body"] [] := T.f_ini_BadBody.bindsN fun _ _ _ _ _ _ us hl => match us, hl with | [_, _], _ => rfl
theorem Tx.x_BadBody (T : TX K mg) : ExK K (He.ga K "BadBody") := kx_BadBody T.kx
theorem Tx.i_BadBody (T : TX K mg) : PySem.W.findIn K (.ref (He.ga K "BadBody")) "__init__" = some (some (.ref (He.ma K (He.ga K "BadBody") "__init__"))) := (T.ini (x := "BadBody") (by decide +kernel)).1
theorem Tx.t_BadBody (T : TX K mg) : PySem.W.typeIn K (.ref (He.ma K (He.ga K "BadBody") "__init__")) = some (.type "function") := (T.ini (x := "BadBody") (by decide +kernel)).2
theorem Tx.f_ini_BadAim (T : TX K mg) : FunD K "__init__" "BadAim.__init__" (defArgs s_ini_BadAim) (defBody s_ini_BadAim) (defScope s_ini_BadAim) [] [] (He.ma K (He.ga K "BadAim") "__init__") (fdOf K ("BadAim", some "__init__")) := T.def_ 14
theorem Tx.b_BadAim (T : TX K mg) : Binds K (fdOf K ("BadAim", some "__init__")) ["self", "index"] [] := T.f_ini_BadAim.bindsN fun _ _ _ _ _ _ us hl => match us, hl with | [_, _], _ => rfl
theorem Tx.x_BadAim (T : TX K mg) : ExK K (He.ga K "BadAim") := kx_BadAim T.kx
theorem Tx.i_BadAim (T : TX K mg) : PySem.W.findIn K (.ref (He.ga K "BadAim")) "__init__" = some (some (.ref (He.ma K (He.ga K "BadAim") "__init__"))) := (T.ini (x := "BadAim") (by decide +kernel)).1
theorem Tx.t_BadAim (T : TX K mg) : PySem.W.typeIn K (.ref (He.ma K (He.ga K "BadAim") "__init__")) = some (.type "function") := (T.ini (x := "BadAim") (by decide +kernel)).2
theorem Tx.f_ini_BadRow (T : TX K mg) : FunD K "__init__" "BadRow.__init__" (defArgs s_ini_BadRow) (defBody s_ini_BadRow) (defScope s_ini_BadRow) [] [] (He.ma K (He.ga K "BadRow") "__init__") (fdOf K ("BadRow", some "__init__")) := T.def_ 15
theorem Tx.b_BadRow (T : TX K mg) : Binds K (fdOf K ("BadRow", some "__init__")) ["self", "what", "row"] [] := T.f_ini_BadRow.bindsN fun _ _ _ _ _ _ us hl => match us, hl with | [_, _, _], _ => rfl
theorem Tx.x_BadRow (T : TX K mg) : ExK K (He.ga K "BadRow") := kx_BadRow T.kx
theorem Tx.i_BadRow (T : TX K mg) : PySem.W.findIn K (.ref (He.ga K "BadRow")) "__init__" = some (some (.ref (He.ma K (He.ga K "BadRow") "__init__"))) := (T.ini (x := "BadRow") (by decide +kernel)).1
theorem Tx.t_BadRow (T : TX K mg) : PySem.W.typeIn K (.ref (He.ma K (He.ga K "BadRow") "__init__")) = some (.type "function") := (T.ini (x := "BadRow") (by decide +kernel)).2
theorem Tx.f_ini_NoName (T : TX K mg) : FunD K "__init__" "NoName.__init__" (defArgs s_ini_NoName) (defBody s_ini_NoName) (defScope s_ini_NoName) [] [] (He.ma K (He.ga K "NoName") "__init__") (fdOf K ("NoName", some "__init__")) := T.def_ 16
theorem Tx.b_NoName (T : TX K mg) : Binds K (fdOf K ("NoName", some "__init__")) ["self", "name"] [] := T.f_ini_NoName.bindsN fun _ _ _ _ _ _ us hl => match us, hl with | [_, _], _ => rfl
theorem Tx.x_NoName (T : TX K mg) : ExK K (He.ga K "NoName") := kx_NoName T.kx
theorem Tx.i_NoName (T : TX K mg) : PySem.W.findIn K (.ref (He.ga K "NoName")) "__init__" = some (some (.ref (He.ma K (He.ga K "NoName") "__init__"))) := (T.ini (x := "NoName") (by decide +kernel)).1
theorem Tx.t_NoName (T : TX K mg) : PySem.W.typeIn K (.ref (He.ma K (He.ga K "NoName") "__init__")) = some (.type "function") := (T.ini (x := "NoName") (by decide +kernel)).2
theorem Tx.f_ini_TakenName (T : TX K mg) : FunD K "__init__" "TakenName.__init__" (defArgs s_ini_TakenName) (defBody s_ini_TakenName) (defScope s_ini_TakenName) [] [] (He.ma K (He.ga K "TakenName") "__init__") (fdOf K ("TakenName", some "__init__")) := T.def_ 17
theorem Tx.b_TakenName (T : TX K mg) : Binds K (fdOf K ("TakenName", some "__init__")) ["self", "name"] [] := T.f_ini_TakenName.bindsN fun _ _ _ _ _ _ us hl => match us, hl with | [_, _], _ => rfl
theorem Tx.x_TakenName (T : TX K mg) : ExK K (He.ga K "TakenName") := kx_TakenName T.kx
theorem Tx.i_TakenName (T : TX K mg) : PySem.W.findIn K (.ref (He.ga K "TakenName")) "__init__" = some (some (.ref (He.ma K (He.ga K "TakenName") "__init__"))) := (T.ini (x := "TakenName") (by decide +kernel)).1
theorem Tx.t_TakenName (T : TX K mg) : PySem.W.typeIn K (.ref (He.ma K (He.ga K "TakenName") "__init__")) = some (.type "function") := (T.ini (x := "TakenName") (by decide +kernel)).2
theorem Tx.f_ini_Unlike (T : TX K mg) : FunD K "__init__" "Unlike.__init__" (defArgs s_ini_Unlike) (defBody s_ini_Unlike) (defScope s_ini_Unlike) [] [] (He.ma K (He.ga K "Unlike") "__init__") (fdOf K ("Unlike", some "__init__")) := T.def_ 18
theorem Tx.b_Unlike (T : TX K mg) : Binds K (fdOf K ("Unlike", some "__init__")) ["self", "what"] [] := T.f_ini_Unlike.bindsN fun _ _ _ _ _ _ us hl => match us, hl with | [_, _], _ => rfl
theorem Tx.x_Unlike (T : TX K mg) : ExK K (He.ga K "Unlike") := kx_Unlike T.kx
theorem Tx.i_Unlike (T : TX K mg) : PySem.W.findIn K (.ref (He.ga K "Unlike")) "__init__" = some (some (.ref (He.ma K (He.ga K "Unlike") "__init__"))) := (T.ini (x := "Unlike") (by decide +kernel)).1
theorem Tx.t_Unlike (T : TX K mg) : PySem.W.typeIn K (.ref (He.ma K (He.ga K "Unlike") "__init__")) = some (.type "function") := (T.ini (x := "Unlike") (by decide +kernel)).2
theorem Tx.f_ini_NotThere (T : TX K mg) : FunD K "__init__" "NotThere.__init__" (defArgs s_ini_NotThere) (defBody s_ini_NotThere) (defScope s_ini_NotThere) [] [] (He.ma K (He.ga K "NotThere") "__init__") (fdOf K ("NotThere", some "__init__")) := T.def_ 19
theorem Tx.b_NotThere (T : TX K mg) : Binds K (fdOf K ("NotThere", some "__init__")) ["self", "what"] [] := T.f_ini_NotThere.bindsN fun _ _ _ _ _ _ us hl => match us, hl with | [_, _], _ => rfl
theorem Tx.x_NotThere (T : TX K mg) : ExK K (He.ga K "NotThere") := kx_NotThere T.kx
theorem Tx.i_NotThere (T : TX K mg) : PySem.W.findIn K (.ref (He.ga K "NotThere")) "__init__" = some (some (.ref (He.ma K (He.ga K "NotThere") "__init__"))) := (T.ini (x := "NotThere") (by decide +kernel)).1
theorem Tx.t_NotThere (T : TX K mg) : PySem.W.typeIn K (.ref (He.ma K (He.ga K "NotThere") "__init__")) = some (.type "function") := (T.ini (x := "NotThere") (by decide +kernel)).2
theorem Tx.f_ini_TooMany (T : TX K mg) : FunD K "__init__" "TooMany.__init__" (defArgs s_ini_TooMany) (defBody s_ini_TooMany) (defScope s_ini_TooMany) [] [] (He.ma K (He.ga K "TooMany") "__init__") (fdOf K ("TooMany", some "__init__")) := T.def_ 20
theorem Tx.b_TooMany (T : TX K mg) : Binds K (fdOf K ("TooMany", some "__init__")) ["self", "what", "many", "limit"] [] := T.f_ini_TooMany.bindsN fun _ _ _ _ _ _ us hl => match us, hl with | [_, _, _, _], _ => rfl
theorem Tx.x_TooMany (T : TX K mg) : ExK K (He.ga K "TooMany") := kx_TooMany T.kx
theorem Tx.i_TooMany (T : TX K mg) : PySem.W.findIn K (.ref (He.ga K "TooMany")) "__init__" = some (some (.ref (He.ma K (He.ga K "TooMany") "__init__"))) := (T.ini (x := "TooMany") (by decide +kernel)).1
theorem Tx.t_TooMany (T : TX K mg) : PySem.W.typeIn K (.ref (He.ma K (He.ga K "TooMany") "__init__")) = some (.type "function") := (T.ini (x := "TooMany") (by decide +kernel)).2
theorem Tx.f_ini_NotKept (T : TX K mg) : FunD K "__init__" "NotKept.__init__" (defArgs s_ini_NotKept) (defBody s_ini_NotKept) (defScope s_ini_NotKept) [] [] (He.ma K (He.ga K "NotKept") "__init__") (fdOf K ("NotKept", some "__init__")) := T.def_ 21
theorem Tx.b_NotKept (T : TX K mg) : Binds K (fdOf K ("NotKept", some "__init__")) ["self", "promise", "witness"] [] := T.f_ini_NotKept.bindsN fun _ _ _ _ _ _ us hl => match us, hl with | [_, _, _], _ => rfl
theorem Tx.x_NotKept (T : TX K mg) : ExK K (He.ga K "NotKept") := kx_NotKept T.kx
theorem Tx.i_NotKept (T : TX K mg) : PySem.W.findIn K (.ref (He.ga K "NotKept")) "__init__" = some (some (.ref (He.ma K (He.ga K "NotKept") "__init__"))) := (T.ini (x := "NotKept") (by decide +kernel)).1
theorem Tx.t_NotKept (T : TX K mg) : PySem.W.typeIn K (.ref (He.ma K (He.ga K "NotKept") "__init__")) = some (.type "function") := (T.ini (x := "NotKept") (by decide +kernel)).2
theorem Tx.x_NothingToUndo (T : TX K mg) : ExK K (He.ga K "NothingToUndo") := kx_NothingToUndo T.kx
theorem Tx.e_NothingToUndo (T : TX K mg) : PySem.W.excIn K (He.ga K "NothingToUndo") He.veBase "ValueError.__new__" = true := T.no (x := "NothingToUndo") (by decide +kernel)
theorem Tx.kc_NothingToUndo (T : TX K mg) : PySem.W.keepIn K (.ref (He.ga K "NothingToUndo")) = true := T.x_NothingToUndo.oex.kC
theorem Tx.x_NothingToRedo (T : TX K mg) : ExK K (He.ga K "NothingToRedo") := kx_NothingToRedo T.kx
theorem Tx.e_NothingToRedo (T : TX K mg) : PySem.W.excIn K (He.ga K "NothingToRedo") He.veBase "ValueError.__new__" = true := T.no (x := "NothingToRedo") (by decide +kernel)
theorem Tx.kc_NothingToRedo (T : TX K mg) : PySem.W.keepIn K (.ref (He.ga K "NothingToRedo")) = true := T.x_NothingToRedo.oex.kC
theorem sc_ini_BadText : FnScope ["self", "line", "word"] ["self", "line", "word"] (defScope s_ini_BadText) := ⟨rfl, rfl, rfl, by decide +kernel, rfl, by decide +kernel, by decide +kernel⟩
theorem ok_ini_BadText (T : TX K mg) : FnOk P w K mg base CX0 1 (He.ma K (He.ga K "BadText") "__init__") (fdOf K ("BadText", some "__init__")) ["self", "line", "word"] (sp_ini2 K "line" "word") := by
  refine T.f_ini_BadText.ok sc_ini_BadText (fun vs H Q E h => ?_) (fun cdv A outer s H vs Q E hr h => ⟨t_ini2 K "line" "word", PSs.nox ?_, rd_ini2 vs h⟩)
  · obtain ⟨_, _, _, _, rfl, _⟩ := h
    rfl
  · exact pss_cons (ps_ost (pv 0) (pv 1)) (pss_one (ps_ost (pv 0) (pv 2)))
theorem sc_ini_BadName : FnScope ["self", "name"] ["self", "name"] (defScope s_ini_BadName) := ⟨rfl, rfl, rfl, by decide +kernel, rfl, by decide +kernel, by decide +kernel⟩
theorem ok_ini_BadName (T : TX K mg) : FnOk P w K mg base CX0 1 (He.ma K (He.ga K "BadName") "__init__") (fdOf K ("BadName", some "__init__")) ["self", "name"] (sp_ini1 K "name") := by
  refine T.f_ini_BadName.ok sc_ini_BadName (fun vs H Q E h => ?_) (fun cdv A outer s H vs Q E hr h => ⟨t_ini1 K "name", PSs.nox ?_, rd_ini1 vs h⟩)
  · obtain ⟨_, _, _, rfl, _⟩ := h
    rfl
  · exact pss_one (ps_ost (pv 0) (pv 1))
theorem sc_ini_BadNumber : FnScope ["self", "what", "number"] ["self", "what", "number"] (defScope s_ini_BadNumber) := ⟨rfl, rfl, rfl, by decide +kernel, rfl, by decide +kernel, by decide +kernel⟩
theorem ok_ini_BadNumber (T : TX K mg) : FnOk P w K mg base CX0 1 (He.ma K (He.ga K "BadNumber") "__init__") (fdOf K ("BadNumber", some "__init__")) ["self", "what", "number"] (sp_ini2 K "what" "number") := by
  refine T.f_ini_BadNumber.ok sc_ini_BadNumber (fun vs H Q E h => ?_) (fun cdv A outer s H vs Q E hr h => ⟨t_ini2 K "what" "number", PSs.nox ?_, rd_ini2 vs h⟩)
  · obtain ⟨_, _, _, _, rfl, _⟩ := h
    rfl
  · exact pss_cons (ps_ost (pv 0) (pv 1)) (pss_one (ps_ost (pv 0) (pv 2)))
theorem sc_ini_BadSaying : FnScope ["self", "saying"] ["self", "saying"] (defScope s_ini_BadSaying) := ⟨rfl, rfl, rfl, by decide +kernel, rfl, by decide +kernel, by decide +kernel⟩
theorem ok_ini_BadSaying (T : TX K mg) : FnOk P w K mg base CX0 1 (He.ma K (He.ga K "BadSaying") "__init__") (fdOf K ("BadSaying", some "__init__")) ["self", "saying"] (sp_ini1 K "saying") := by
  refine T.f_ini_BadSaying.ok sc_ini_BadSaying (fun vs H Q E h => ?_) (fun cdv A outer s H vs Q E hr h => ⟨t_ini1 K "saying", PSs.nox ?_, rd_ini1 vs h⟩)
  · obtain ⟨_, _, _, rfl, _⟩ := h
    rfl
  · exact pss_one (ps_ost (pv 0) (pv 1))
theorem sc_ini_BadLetter : FnScope ["self", "index"] ["self", "index"] (defScope s_ini_BadLetter) := ⟨rfl, rfl, rfl, by decide +kernel, rfl, by decide +kernel, by decide +kernel⟩
theorem ok_ini_BadLetter (T : TX K mg) : FnOk P w K mg base CX0 1 (He.ma K (He.ga K "BadLetter") "__init__") (fdOf K ("BadLetter", some "__init__")) ["self", "index"] (sp_ini1 K "index") := by
  refine T.f_ini_BadLetter.ok sc_ini_BadLetter (fun vs H Q E h => ?_) (fun cdv A outer s H vs Q E hr h => ⟨t_ini1 K "index", PSs.nox ?_, rd_ini1 vs h⟩)
  · obtain ⟨_, _, _, rfl, _⟩ := h
    rfl
  · exact pss_one (ps_ost (pv 0) (pv 1))
theorem sc_ini_BadBody : FnScope ["self", "body"] ["self", "body"] (defScope s_ini_BadBody) := ⟨rfl, rfl, rfl, by decide +kernel, rfl, by decide +kernel, by decide +kernel⟩
theorem ok_ini_BadBody (T : TX K mg) : FnOk P w K mg base CX0 1 (He.ma K (He.ga K "BadBody") "__init__") (fdOf K ("BadBody", some "__init__")) ["self", "body"] (sp_ini1 K "body") := by
  refine T.f_ini_BadBody.ok sc_ini_BadBody (fun vs H Q E h => ?_) (fun cdv A outer s H vs Q E hr h => ⟨t_ini1 K "body", PSs.nox ?_, rd_ini1 vs h⟩)
  · obtain ⟨_, _, _, rfl, _⟩ := h
    rfl
  · exact pss_one (ps_ost (pv 0) (pv 1))
theorem sc_ini_BadAim : FnScope ["self", "index"] ["self", "index"] (defScope s_ini_BadAim) := ⟨rfl, rfl, rfl, by decide +kernel, rfl, by decide +kernel, by decide +kernel⟩
theorem ok_ini_BadAim (T : TX K mg) : FnOk P w K mg base CX0 1 (He.ma K (He.ga K "BadAim") "__init__") (fdOf K ("BadAim", some "__init__")) ["self", "index"] (sp_ini1 K "index") := by
  refine T.f_ini_BadAim.ok sc_ini_BadAim (fun vs H Q E h => ?_) (fun cdv A outer s H vs Q E hr h => ⟨t_ini1 K "index", PSs.nox ?_, rd_ini1 vs h⟩)
  · obtain ⟨_, _, _, rfl, _⟩ := h
    rfl
  · exact pss_one (ps_ost (pv 0) (pv 1))
theorem sc_ini_BadRow : FnScope ["self", "what", "row"] ["self", "what", "row"] (defScope s_ini_BadRow) := ⟨rfl, rfl, rfl, by decide +kernel, rfl, by decide +kernel, by decide +kernel⟩
theorem ok_ini_BadRow (T : TX K mg) : FnOk P w K mg base CX0 1 (He.ma K (He.ga K "BadRow") "__init__") (fdOf K ("BadRow", some "__init__")) ["self", "what", "row"] (sp_ini2 K "what" "row") := by
  refine T.f_ini_BadRow.ok sc_ini_BadRow (fun vs H Q E h => ?_) (fun cdv A outer s H vs Q E hr h => ⟨t_ini2 K "what" "row", PSs.nox ?_, rd_ini2 vs h⟩)
  · obtain ⟨_, _, _, _, rfl, _⟩ := h
    rfl
  · exact pss_cons (ps_ost (pv 0) (pv 1)) (pss_one (ps_ost (pv 0) (pv 2)))
theorem sc_ini_NoName : FnScope ["self", "name"] ["self", "name"] (defScope s_ini_NoName) := ⟨rfl, rfl, rfl, by decide +kernel, rfl, by decide +kernel, by decide +kernel⟩
theorem ok_ini_NoName (T : TX K mg) : FnOk P w K mg base CX0 1 (He.ma K (He.ga K "NoName") "__init__") (fdOf K ("NoName", some "__init__")) ["self", "name"] (sp_ini1 K "name") := by
  refine T.f_ini_NoName.ok sc_ini_NoName (fun vs H Q E h => ?_) (fun cdv A outer s H vs Q E hr h => ⟨t_ini1 K "name", PSs.nox ?_, rd_ini1 vs h⟩)
  · obtain ⟨_, _, _, rfl, _⟩ := h
    rfl
  · exact pss_one (ps_ost (pv 0) (pv 1))
theorem sc_ini_TakenName : FnScope ["self", "name"] ["self", "name"] (defScope s_ini_TakenName) := ⟨rfl, rfl, rfl, by decide +kernel, rfl, by decide +kernel, by decide +kernel⟩
theorem ok_ini_TakenName (T : TX K mg) : FnOk P w K mg base CX0 1 (He.ma K (He.ga K "TakenName") "__init__") (fdOf K ("TakenName", some "__init__")) ["self", "name"] (sp_ini1 K "name") := by
  refine T.f_ini_TakenName.ok sc_ini_TakenName (fun vs H Q E h => ?_) (fun cdv A outer s H vs Q E hr h => ⟨t_ini1 K "name", PSs.nox ?_, rd_ini1 vs h⟩)
  · obtain ⟨_, _, _, rfl, _⟩ := h
    rfl
  · exact pss_one (ps_ost (pv 0) (pv 1))
theorem sc_ini_Unlike : FnScope ["self", "what"] ["self", "what"] (defScope s_ini_Unlike) := ⟨rfl, rfl, rfl, by decide +kernel, rfl, by decide +kernel, by decide +kernel⟩
theorem ok_ini_Unlike (T : TX K mg) : FnOk P w K mg base CX0 1 (He.ma K (He.ga K "Unlike") "__init__") (fdOf K ("Unlike", some "__init__")) ["self", "what"] (sp_ini1 K "what") := by
  refine T.f_ini_Unlike.ok sc_ini_Unlike (fun vs H Q E h => ?_) (fun cdv A outer s H vs Q E hr h => ⟨t_ini1 K "what", PSs.nox ?_, rd_ini1 vs h⟩)
  · obtain ⟨_, _, _, rfl, _⟩ := h
    rfl
  · exact pss_one (ps_ost (pv 0) (pv 1))
theorem sc_ini_NotThere : FnScope ["self", "what"] ["self", "what"] (defScope s_ini_NotThere) := ⟨rfl, rfl, rfl, by decide +kernel, rfl, by decide +kernel, by decide +kernel⟩
theorem ok_ini_NotThere (T : TX K mg) : FnOk P w K mg base CX0 1 (He.ma K (He.ga K "NotThere") "__init__") (fdOf K ("NotThere", some "__init__")) ["self", "what"] (sp_ini1 K "what") := by
  refine T.f_ini_NotThere.ok sc_ini_NotThere (fun vs H Q E h => ?_) (fun cdv A outer s H vs Q E hr h => ⟨t_ini1 K "what", PSs.nox ?_, rd_ini1 vs h⟩)
  · obtain ⟨_, _, _, rfl, _⟩ := h
    rfl
  · exact pss_one (ps_ost (pv 0) (pv 1))
theorem sc_ini_TooMany : FnScope ["self", "what", "many", "limit"] ["self", "what", "many", "limit"] (defScope s_ini_TooMany) := ⟨rfl, rfl, rfl, by decide +kernel, rfl, by decide +kernel, by decide +kernel⟩
theorem ok_ini_TooMany (T : TX K mg) : FnOk P w K mg base CX0 1 (He.ma K (He.ga K "TooMany") "__init__") (fdOf K ("TooMany", some "__init__")) ["self", "what", "many", "limit"] (sp_ini3 K "what" "many" "limit") := by
  refine T.f_ini_TooMany.ok sc_ini_TooMany (fun vs H Q E h => ?_) (fun cdv A outer s H vs Q E hr h => ⟨t_ini3 K "what" "many" "limit", PSs.nox ?_, rd_ini3 vs h⟩)
  · obtain ⟨_, _, _, _, _, rfl, _⟩ := h
    rfl
  · exact pss_cons (ps_ost (pv 0) (pv 1)) (pss_cons (ps_ost (pv 0) (pv 2)) (pss_one (ps_ost (pv 0) (pv 3))))
theorem sc_ini_NotKept : FnScope ["self", "promise", "witness"] ["self", "promise", "witness"] (defScope s_ini_NotKept) := ⟨rfl, rfl, rfl, by decide +kernel, rfl, by decide +kernel, by decide +kernel⟩
theorem ok_ini_NotKept (T : TX K mg) : FnOk P w K mg base CX0 1 (He.ma K (He.ga K "NotKept") "__init__") (fdOf K ("NotKept", some "__init__")) ["self", "promise", "witness"] (sp_ini2 K "promise" "witness") := by
  refine T.f_ini_NotKept.ok sc_ini_NotKept (fun vs H Q E h => ?_) (fun cdv A outer s H vs Q E hr h => ⟨t_ini2 K "promise" "witness", PSs.nox ?_, rd_ini2 vs h⟩)
  · obtain ⟨_, _, _, _, rfl, _⟩ := h
    rfl
  · exact pss_cons (ps_ost (pv 0) (pv 1)) (pss_one (ps_ost (pv 0) (pv 2)))
theorem sc__law_pen : FnScope ["script", "fold", "cell"] ["script"] (defScope s__law_pen) := ⟨rfl, rfl, rfl, by decide +kernel, rfl, by decide +kernel, by decide +kernel⟩
theorem ok__law_pen (T : TX K mg) : FnOk P w K mg base CX0 1 (He.ga K "_law_pen") (fdOf K ("_law_pen", none)) ["script"] (sp__law_pen K) := by
  refine T.f__law_pen.ok sc__law_pen (fun vs H Q E h => ?_) (fun cdv A outer s H vs Q E hr h => ⟨t_pen K, PSs.nox ?_, rd_pen vs H Q E h⟩)
  · obtain ⟨_, _, rfl, _⟩ := h
    rfl
  · have sc := sc__law_pen
    have hu := hu_of hr
    have hu64 := hr.units
    exact (pss_cons (ps_set (i := 1) sc.nd rfl (Or.inl rfl) pe_int)
  (pss_cons (ps_for PassesOwn.never rfl (pi_list (pv 0)) (pg_name (i := 2) sc.nd rfl (Or.inl rfl)) (pss_one (ps_set (i := 1) sc.nd rfl (Or.inl rfl) (pe_op op_mod (pe_callTy call_int1 (by rfl) T.n_int (by decide +kernel) (pa_cons (pe_op op_add (pe_op op_mul (pv 1) pe_int) (pv 2)) pa_nil)) pe_int))))
  (pss_one (ps_ret (pe_disp (pps_cons pe_str (pe_callTy call_list_of (by rfl) T.n_list (by decide +kernel) (pa_cons (pv 0) pa_nil)) (pps_cons pe_str pe_int (pps_cons pe_str pe_int (pps_cons pe_str pe_int (pps_cons pe_str (pv 1) pps_nil))))) (by rfl) (by rfl) (fun z => by cases z) (by decide))))))
theorem sc__law_draw : FnScope ["pen", "many", "cell", "digit", "blend"] ["pen", "many"] (defScope s__law_draw) := ⟨rfl, rfl, rfl, by decide +kernel, rfl, by decide +kernel, by decide +kernel⟩
theorem ok__law_draw (T : TX K mg) : FnOk P w K mg base CX0 1 (He.ga K "_law_draw") (fdOf K ("_law_draw", none)) ["pen", "many"] (sp__law_draw K) := by
  refine T.f__law_draw.ok sc__law_draw (fun vs H Q E h => ?_) (fun cdv A outer s H vs Q E hr h => ⟨t_draw K, PSs.nox ?_, rd_draw vs H Q E h⟩)
  · obtain ⟨_, _, _, rfl, _⟩ := h
    rfl
  · have sc := sc__law_draw
    have hu := hu_of hr
    have hu64 := hr.units
    exact (pss_cons (ps_dput hu (pv 0) pe_str (pe_op op_add (pe_dget hu (pv 0) pe_str (fun _ _ => rfl)) pe_int) rfl)
  (Evl.pss_cut (ps_if (PW.pt (pw_and (pt_cmpR op_eq (pe_dget hu (pv 0) pe_str (fun _ _ => rfl)) pe_int (nomark _)) (pw_and1 (pt_cmpR op_lt (pe_dget hu (pv 0) pe_str (fun _ _ => rfl)) (pe_callB call_len (by rfl) T.n_len (by decide +kernel) (pa_cons (pe_dget hu (pv 0) pe_str (fun _ _ => rfl)) pa_nil)) (nomark _))))) (pss_cons (ps_set (i := 2) sc.nd rfl (Or.inl rfl) (pe_ix ix_list (pe_dget hu (pv 0) pe_str (fun _ _ => rfl)) (pe_dget hu (pv 0) pe_str (fun _ _ => rfl)) (fun _ _ => rfl)))
  (pss_cons (ps_dput hu (pv 0) pe_str (pe_op op_add (pe_dget hu (pv 0) pe_str (fun _ _ => rfl)) pe_int) rfl)
  (pss_one (ps_if (pt_cmpR op_ge (pv 2) (pe_op op_pow pe_int pe_int) (nomark _)) (pss_one (ps_dput hu (pv 0) pe_str (pe_op op_sub (pv 2) (pe_op op_pow pe_int pe_int)) rfl)) (pss_one (ps_dput hu (pv 0) pe_str (pe_op op_mod (pe_callTy call_int1 (by rfl) T.n_int (by decide +kernel) (pa_cons (pe_op op_add (pe_op op_mul (pe_dget hu (pv 0) pe_str (fun _ _ => rfl)) pe_int) (pv 2)) pa_nil)) pe_int) rfl)))))) pss_nil)
  (pss_cons (ps_if (pt_cmpR op_gt (pe_dget hu (pv 0) pe_str (fun _ _ => rfl)) pe_int (nomark _)) (pss_cons (ps_set (i := 3) sc.nd rfl (Or.inl rfl) (pe_op op_mod (pe_callTy call_int1 (by rfl) T.n_int (by decide +kernel) (pa_cons (pe_dget hu (pv 0) pe_str (fun _ _ => rfl)) pa_nil)) (pv 1)))
  (pss_cons (ps_dput hu (pv 0) pe_str (pe_op op_fdivW (pe_dget hu (pv 0) pe_str (fun _ _ => rfl)) (pv 1)) rfl)
  (pss_one (ps_ret (pv 3))))) pss_nil)
  (pss_cons (ps_set (i := 4) sc.nd rfl (Or.inl rfl) (pe_op op_add (pe_op op_add (pe_dget hu (pv 0) pe_str (fun _ _ => rfl)) (pe_op op_mul (pe_dget hu (pv 0) pe_str (fun _ _ => rfl)) pe_int)) pe_int))
  (pss_one (ps_ret (pe_op op_mod (pe_op op_fdivW (pe_callTy call_int1 (by rfl) T.n_int (by decide +kernel) (pa_cons (pe_op op_mod (pe_op op_pow (pv 4) pe_int) pe_int) pa_nil)) pe_int) (pv 1))))))))
theorem sc__law_pick : FnScope ["pen", "some"] ["pen", "some"] (defScope s__law_pick) := ⟨rfl, rfl, rfl, by decide +kernel, rfl, by decide +kernel, by decide +kernel⟩
theorem ok__law_pick (T : TX K mg) : FnOk P w K mg base CX0 2 (He.ga K "_law_pick") (fdOf K ("_law_pick", none)) ["pen", "some"] (sp__law_pick K) := by
  refine T.f__law_pick.ok sc__law_pick (fun vs H Q E h => ?_) (fun cdv A outer s H vs Q E hr h => ⟨t__law_pick K, PSs.nox ?_, rd_pick vs H Q E h⟩)
  · obtain ⟨_, _, _, _, rfl, _⟩ := h
    rfl
  · have sc := sc__law_pick
    have hu := hu_of hr
    have hu64 := hr.units
    exact (pss_one (ps_ret (pe_ix ix_seq (pv 1) (pe_call (ok__law_draw T) (hr.mono (by decide)) (by rfl) T.g__law_draw T.k__law_draw (T.b__law_draw) .nil pass0 (pa_cons (pv 0) (pa_cons (pe_callB call_len (by rfl) T.n_len (by decide +kernel) (pa_cons (pv 1) pa_nil)) pa_nil))) (fun _ _ => rfl))))
theorem sc__law_thing : FnScope ["pen"] ["pen"] (defScope s__law_thing) := ⟨rfl, rfl, rfl, by decide +kernel, rfl, by decide +kernel, by decide +kernel⟩
theorem ok__law_thing (T : TX K mg) : FnOk P w K mg base CX0 3 (He.ga K "_law_thing") (fdOf K ("_law_thing", none)) ["pen"] (sp__law_thing K) := by
  refine T.f__law_thing.ok sc__law_thing (fun vs H Q E h => ?_) (fun cdv A outer s H vs Q E hr h => ⟨t__law_thing K, PSs.nox ?_, rd_thing vs H Q E h⟩)
  · obtain ⟨_, _, rfl, _⟩ := h
    rfl
  · have sc := sc__law_thing
    have hu := hu_of hr
    have hu64 := hr.units
    exact (pss_one (ps_ret (pe_call (ok__law_pick T) (hr.mono (by decide)) (by rfl) T.g__law_pick T.k__law_pick (T.b__law_pick) .nil pass0 (pa_cons (pv 0) (pa_cons (pe_lst (pa_cons pe_non (pa_cons pe_int (pa_cons (pe_un un_neg pe_int) (pa_cons pe_bl (pa_cons pe_str (pa_cons pe_str (pa_cons (pe_tup (pa_cons pe_int (pa_cons pe_str pa_nil))) (pa_cons (pe_lst (pa_cons pe_int (pa_cons (pe_lst (pa_cons pe_int pa_nil)) pa_nil))) (pa_cons (pe_lst pa_nil) (pa_cons (pe_op op_pow pe_int pe_int) (pa_cons (pe_tup (pa_cons pe_str (pa_cons pe_non pa_nil))) (pa_cons pe_int pa_nil))))))))))))) pa_nil)))))
theorem sc__law_classes : FnScope ["error", "found"] ["error"] (defScope s__law_classes) := ⟨rfl, rfl, rfl, by decide +kernel, rfl, by decide +kernel, by decide +kernel⟩
theorem ok__law_classes (T : TX K mg) : FnOk P w K mg base CX0 1 (He.ga K "_law_classes") (fdOf K ("_law_classes", none)) ["error"] (sp__law_classes K) := by
  refine T.f__law_classes.ok sc__law_classes (fun vs H Q E h => ?_) (fun cdv A outer s H vs Q E hr h => ⟨t__law_classes K, PSs.nox ?_, rd_classes T.kx vs H Q E h⟩)
  · obtain ⟨_, _, rfl, _⟩ := h
    rfl
  · have sc := sc__law_classes
    have hu := hu_of hr
    have hu64 := hr.units
    exact (pss_cons (ps_set (i := 1) sc.nd rfl (Or.inl rfl) (pe_lst (pa_cons (pe_callB call_isX (by rfl) T.n_isinstance (by decide +kernel) (pa_cons (pv 0) (pa_cons (pe_glob (by rfl) T.g_BadText rfl) pa_nil))) (pa_cons (pe_callB call_isX (by rfl) T.n_isinstance (by decide +kernel) (pa_cons (pv 0) (pa_cons (pe_glob (by rfl) T.g_BadName rfl) pa_nil))) (pa_cons (pe_callB call_isX (by rfl) T.n_isinstance (by decide +kernel) (pa_cons (pv 0) (pa_cons (pe_glob (by rfl) T.g_BadNumber rfl) pa_nil))) pa_nil)))))
  (pss_cons (ps_set (i := 1) sc.nd rfl (Or.inl rfl) (pe_op op_cat (pv 1) (pe_lst (pa_cons (pe_callB call_isX (by rfl) T.n_isinstance (by decide +kernel) (pa_cons (pv 0) (pa_cons (pe_glob (by rfl) T.g_BadSaying rfl) pa_nil))) (pa_cons (pe_callB call_isX (by rfl) T.n_isinstance (by decide +kernel) (pa_cons (pv 0) (pa_cons (pe_glob (by rfl) T.g_BadLetter rfl) pa_nil))) (pa_cons (pe_callB call_isX (by rfl) T.n_isinstance (by decide +kernel) (pa_cons (pv 0) (pa_cons (pe_glob (by rfl) T.g_BadBody rfl) pa_nil))) pa_nil))))))
  (pss_cons (ps_set (i := 1) sc.nd rfl (Or.inl rfl) (pe_op op_cat (pv 1) (pe_lst (pa_cons (pe_callB call_isX (by rfl) T.n_isinstance (by decide +kernel) (pa_cons (pv 0) (pa_cons (pe_glob (by rfl) T.g_BadAim rfl) pa_nil))) (pa_cons (pe_callB call_isX (by rfl) T.n_isinstance (by decide +kernel) (pa_cons (pv 0) (pa_cons (pe_glob (by rfl) T.g_BadRow rfl) pa_nil))) (pa_cons (pe_callB call_isX (by rfl) T.n_isinstance (by decide +kernel) (pa_cons (pv 0) (pa_cons (pe_glob (by rfl) T.g_NoName rfl) pa_nil))) pa_nil))))))
  (pss_cons (ps_set (i := 1) sc.nd rfl (Or.inl rfl) (pe_op op_cat (pv 1) (pe_lst (pa_cons (pe_callB call_isX (by rfl) T.n_isinstance (by decide +kernel) (pa_cons (pv 0) (pa_cons (pe_glob (by rfl) T.g_TakenName rfl) pa_nil))) (pa_cons (pe_callB call_isX (by rfl) T.n_isinstance (by decide +kernel) (pa_cons (pv 0) (pa_cons (pe_glob (by rfl) T.g_Unlike rfl) pa_nil))) (pa_cons (pe_callB call_isX (by rfl) T.n_isinstance (by decide +kernel) (pa_cons (pv 0) (pa_cons (pe_glob (by rfl) T.g_NotThere rfl) pa_nil))) pa_nil))))))
  (pss_cons (ps_set (i := 1) sc.nd rfl (Or.inl rfl) (pe_op op_cat (pv 1) (pe_lst (pa_cons (pe_callB call_isX (by rfl) T.n_isinstance (by decide +kernel) (pa_cons (pv 0) (pa_cons (pe_glob (by rfl) T.g_TooMany rfl) pa_nil))) (pa_cons (pe_callB call_isX (by rfl) T.n_isinstance (by decide +kernel) (pa_cons (pv 0) (pa_cons (pe_glob (by rfl) T.g_NotKept rfl) pa_nil))) (pa_cons (pe_callB call_isX (by rfl) T.n_isinstance (by decide +kernel) (pa_cons (pv 0) (pa_cons (pe_glob (by rfl) T.g_NothingToUndo rfl) pa_nil))) pa_nil))))))
  (pss_one (ps_ret (pe_op op_cat (pv 1) (pe_lst (pa_cons (pe_callB call_isX (by rfl) T.n_isinstance (by decide +kernel) (pa_cons (pv 0) (pa_cons (pe_glob (by rfl) T.g_NothingToRedo rfl) pa_nil))) pa_nil))))))))))
theorem sc__law_raised_right : FnScope ["one", "found", "error"] ["one"] (defScope s__law_raised_right) := ⟨rfl, rfl, rfl, by decide +kernel, rfl, by decide +kernel, by decide +kernel⟩
theorem ok__law_raised_right (T : TX K mg) : FnOk P w K mg base CX0 3 (He.ga K "_law_raised_right") (fdOf K ("_law_raised_right", none)) ["one"] (sp__law_raised_right K) := by
  refine T.f__law_raised_right.ok sc__law_raised_right (fun vs H Q E h => ?_) (fun cdv A outer s H vs Q E hr h => ⟨t__law_raised_right K, PSs.nox ?_, rd_raised T.kx vs H Q E h⟩)
  · obtain ⟨_, _, rfl, _⟩ := h
    rfl
  · have sc := sc__law_raised_right
    have hu := hu_of hr
    have hu64 := hr.units
    exact (pss_cons (ps_set (i := 1) sc.nd rfl (Or.inl rfl) (pe_lst pa_nil))
  (pss_cons (ps_try_as (i := 2) (tb := fun W => (fun _ σ H => tMkO (He.ga K "TooMany") (sp_ini3 K "what" "many" "limit") [] (tCons (tC (.str "a")) (tCons (tVar 0) (tCons (tC (.int 3)) tNil))) σ H fun cls d H' => W cls d σ H' : TS)) (ts := fun a cls d => tDrop (tBM K "list" rAppend (tVar 1) (tCons (tXf a cls d (He.ga K "TooMany") "many" (tVar 2)) tNil))) (Wout := fun _ _ _ _ => False) rfl rfl sc.nd rfl rfl ⟨rfl, by decide, Or.inl T.g_ForumError⟩ takes0
      (fun W pn xe tk _ => pss_one (ps_raise rfl tk (by exact (pmk_oex T.x_TooMany.oex T.i_TooMany T.t_TooMany (ok_ini_TooMany T) (hr.mono (by decide)) T.b_TooMany .nil pass0 (by rfl) T.g_TooMany (by exact (pa_cons pe_str (pa_cons (pv 0) (pa_cons pe_int pa_nil))))))))
      (fun a oe cls d pn hz hf => pss_one (ps_expr (by exact (pe_bm PySem.F.plainAttrs_list PySem.F.slot_list_append PySem.F.type_list_append mt_append (pv 1) (pa_cons (pe_xf T.x_TooMany.xf (kn_TooMany_many T.kx) hz hf (pv 2)) pa_nil))))))
  (pss_cons (ps_try_many (tb := fun W => (fun _ σ H => W (.ref (He.ga K "NothingToRedo")) none σ H : TS)) (Wout := fun _ _ _ _ => False) rfl rfl takes0
      (fun W pn xe tk _ => pss_one (by exact (ps_raise (t := fun _ H Q => Q (.ref (He.ga K "NothingToRedo")) none H) rfl tk (pmk_mkE0 T.e_NothingToRedo T.g_NothingToRedo T.kc_NothingToRedo (raises_own T.x_NothingToRedo.oex.exC T.x_NothingToRedo.oex.tyC) (by rfl)))))
      (.cons ⟨rfl, by decide, Or.inl T.g_NothingToUndo⟩ (fun a oe cls d pn hz hf => pss_one (ps_expr (by exact (pe_bm PySem.F.plainAttrs_list PySem.F.slot_list_append PySem.F.type_list_append mt_append (pv 1) (pa_cons pe_int pa_nil)))))
        (.cons ⟨rfl, by decide, Or.inl T.g_ForumError⟩ (fun a oe cls d pn hz hf => pss_one (ps_expr (by exact (pe_bm PySem.F.plainAttrs_list PySem.F.slot_list_append PySem.F.type_list_append mt_append (pv 1) (pa_cons pe_non pa_nil))))) .nil)))
  (pss_cons (ps_try_as (i := 2) (tb := fun W => (fun _ σ H => tMkO (He.ga K "NoName") (sp_ini1 K "name") [] (tCons (tVar 0) tNil) σ H fun cls d H' => W cls d σ H' : TS)) (ts := fun a cls d => tDrop (tBM K "list" rAppend (tVar 1) (tCons (tIf (tB (tCB (rIsEd K a cls d) (tCons (tVar 2) (tCons (tC (.ty "ValueError")) tNil)))) (tC (.int 8)) (tC (.int 0))) tNil))) (Wout := fun _ _ _ _ => False) rfl rfl sc.nd rfl rfl ⟨rfl, by decide, Or.inl T.g_ForumError⟩ takes0
      (fun W pn xe tk _ => pss_one (ps_raise rfl tk (by exact (pmk_oex T.x_NoName.oex T.i_NoName T.t_NoName (ok_ini_NoName T) (hr.mono (by decide)) T.b_NoName .nil pass0 (by rfl) T.g_NoName (by exact (pa_cons (pv 0) pa_nil))))))
      (fun a oe cls d pn hz hf => pss_one (ps_expr (by exact (pe_bm PySem.F.plainAttrs_list PySem.F.slot_list_append PySem.F.type_list_append mt_append (pv 1) (pa_cons (pe_ifExp (pt_val (pe_callB (call_isEd hz hf) (by rfl) T.n_isinstance (by decide +kernel) (pa_cons (pv 2) (pa_cons (pe_bltn (by rfl) T.n_ValueError (by decide +kernel) rfl) pa_nil)))) pe_int pe_int) pa_nil))))))
  (pss_one (ps_ret (pe_cmpR (op_eqD hu64) (pv 1) (pe_lst (pa_cons (pv 0) (pa_cons pe_non (pa_cons pe_int pa_nil)))) (nomark _))))))))
theorem sc__law_fields_right : FnScope ["one", "other", "text", "number", "row", "kept", "many"] ["one", "other"] (defScope s__law_fields_right) := ⟨rfl, rfl, rfl, by decide +kernel, rfl, by decide +kernel, by decide +kernel⟩
theorem ok__law_fields_right (T : TX K mg) : FnOk P w K mg base CX0 3 (He.ga K "_law_fields_right") (fdOf K ("_law_fields_right", none)) ["one", "other"] (sp__law_fields_right K) := by
  refine T.f__law_fields_right.ok sc__law_fields_right (fun vs H Q E h => ?_) (fun cdv A outer s H vs Q E hr h => ⟨t__law_fields_right K, PSs.nox ?_, rd_fields T.kx vs H Q E h⟩)
  · obtain ⟨_, _, _, _, rfl, _⟩ := h
    rfl
  · have sc := sc__law_fields_right
    have hu := hu_of hr
    have hu64 := hr.units
    exact (pss_cons (ps_asg (pe_tup (pa_cons (pe_mkE T.x_BadText.oex T.i_BadText T.t_BadText (ok_ini_BadText T) (hr.mono (by decide)) T.b_BadText pass0 (by rfl) T.g_BadText (pa_cons (pv 0) (pa_cons (pv 1) pa_nil))) (pa_cons (pe_mkE T.x_BadNumber.oex T.i_BadNumber T.t_BadNumber (ok_ini_BadNumber T) (hr.mono (by decide)) T.b_BadNumber pass0 (by rfl) T.g_BadNumber (pa_cons (pv 0) (pa_cons (pv 1) pa_nil))) (pa_cons (pe_mkE T.x_BadRow.oex T.i_BadRow T.t_BadRow (ok_ini_BadRow T) (hr.mono (by decide)) T.b_BadRow pass0 (by rfl) T.g_BadRow (pa_cons (pv 0) (pa_cons (pv 1) pa_nil))) (pa_cons (pe_mkE T.x_NotKept.oex T.i_NotKept T.t_NotKept (ok_ini_NotKept T) (hr.mono (by decide)) T.b_NotKept pass0 (by rfl) T.g_NotKept (pa_cons (pv 0) (pa_cons (pv 1) pa_nil))) pa_nil))))) (pg_tup rfl (pgs_cons (pg_name (i := 2) sc.nd rfl (Or.inl rfl)) (pgs_cons (pg_name (i := 3) sc.nd rfl (Or.inl rfl)) (pgs_cons (pg_name (i := 4) sc.nd rfl (Or.inl rfl)) (pgs_cons (pg_name (i := 5) sc.nd rfl (Or.inl rfl)) pgs_nil))))))
  (pss_cons (ps_if (pt_cmpR (op_neD hu64) (pe_lst (pa_cons (pe_xfv (pv 2)) (pa_cons (pe_xfv (pv 2)) (pa_cons (pe_xfv (pv 3)) (pa_cons (pe_xfv (pv 3)) pa_nil))))) (pe_lst (pa_cons (pv 0) (pa_cons (pv 1) (pa_cons (pv 0) (pa_cons (pv 1) pa_nil))))) (nomark _)) (pss_one (ps_ret pe_bl)) pss_nil)
  (pss_cons (ps_if (pt_cmpR (op_neD hu64) (pe_lst (pa_cons (pe_xfv (pv 4)) (pa_cons (pe_xfv (pv 4)) (pa_cons (pe_xfv (pv 5)) (pa_cons (pe_xfv (pv 5)) pa_nil))))) (pe_lst (pa_cons (pv 0) (pa_cons (pv 1) (pa_cons (pv 0) (pa_cons (pv 1) pa_nil))))) (nomark _)) (pss_one (ps_ret pe_bl)) pss_nil)
  (pss_cons (ps_set (i := 6) sc.nd rfl (Or.inl rfl) (pe_mkE T.x_TooMany.oex T.i_TooMany T.t_TooMany (ok_ini_TooMany T) (hr.mono (by decide)) T.b_TooMany pass0 (by rfl) T.g_TooMany (pa_cons (pv 0) (pa_cons (pv 1) (pa_cons pe_int pa_nil)))))
  (pss_cons (ps_if (pt_cmpR (op_neD hu64) (pe_lst (pa_cons (pe_xfv (pv 6)) (pa_cons (pe_xfv (pv 6)) (pa_cons (pe_xfv (pv 6)) pa_nil)))) (pe_lst (pa_cons (pv 0) (pa_cons (pv 1) (pa_cons pe_int pa_nil)))) (nomark _)) (pss_one (ps_ret pe_bl)) pss_nil)
  (pss_cons (ps_if (pt_cmpR (op_neD hu64) (pe_lst (pa_cons (pe_xfv (pe_mkE T.x_BadName.oex T.i_BadName T.t_BadName (ok_ini_BadName T) (hr.mono (by decide)) T.b_BadName pass0 (by rfl) T.g_BadName (pa_cons (pv 0) pa_nil))) (pa_cons (pe_xfv (pe_mkE T.x_BadSaying.oex T.i_BadSaying T.t_BadSaying (ok_ini_BadSaying T) (hr.mono (by decide)) T.b_BadSaying pass0 (by rfl) T.g_BadSaying (pa_cons (pv 0) pa_nil))) (pa_cons (pe_xfv (pe_mkE T.x_BadLetter.oex T.i_BadLetter T.t_BadLetter (ok_ini_BadLetter T) (hr.mono (by decide)) T.b_BadLetter pass0 (by rfl) T.g_BadLetter (pa_cons (pv 0) pa_nil))) (pa_cons (pe_xfv (pe_mkE T.x_BadBody.oex T.i_BadBody T.t_BadBody (ok_ini_BadBody T) (hr.mono (by decide)) T.b_BadBody pass0 (by rfl) T.g_BadBody (pa_cons (pv 0) pa_nil))) (pa_cons (pe_xfv (pe_mkE T.x_BadAim.oex T.i_BadAim T.t_BadAim (ok_ini_BadAim T) (hr.mono (by decide)) T.b_BadAim pass0 (by rfl) T.g_BadAim (pa_cons (pv 0) pa_nil))) pa_nil)))))) (pe_op op_rep (pe_lst (pa_cons (pv 0) pa_nil)) pe_int) (nomark _)) (pss_one (ps_ret pe_bl)) pss_nil)
  (pss_one (ps_ret (pe_cmpR (op_eqD hu64) (pe_lst (pa_cons (pe_xfv (pe_mkE T.x_NoName.oex T.i_NoName T.t_NoName (ok_ini_NoName T) (hr.mono (by decide)) T.b_NoName pass0 (by rfl) T.g_NoName (pa_cons (pv 0) pa_nil))) (pa_cons (pe_xfv (pe_mkE T.x_TakenName.oex T.i_TakenName T.t_TakenName (ok_ini_TakenName T) (hr.mono (by decide)) T.b_TakenName pass0 (by rfl) T.g_TakenName (pa_cons (pv 0) pa_nil))) (pa_cons (pe_xfv (pe_mkE T.x_Unlike.oex T.i_Unlike T.t_Unlike (ok_ini_Unlike T) (hr.mono (by decide)) T.b_Unlike pass0 (by rfl) T.g_Unlike (pa_cons (pv 0) pa_nil))) (pa_cons (pe_xfv (pe_mkE T.x_NotThere.oex T.i_NotThere T.t_NotThere (ok_ini_NotThere T) (hr.mono (by decide)) T.b_NotThere pass0 (by rfl) T.g_NotThere (pa_cons (pv 0) pa_nil))) pa_nil))))) (pe_op op_rep (pe_lst (pa_cons (pv 0) pa_nil)) pe_int) (nomark _))))))))))
theorem sc_law : FnScope ["script", "pen", "lap", "number", "rows", "due", "kept", "one", "other", "found", "k", "error", "j"] ["script"] (defScope s_law) := ⟨rfl, rfl, rfl, by decide +kernel, rfl, by decide +kernel, by decide +kernel⟩
theorem ok_law (T : TX K mg) : FnOk P w K mg base CX0 4 (He.ga K "law") (fdOf K ("law", none)) ["script"] (sp_law K) := by
  refine T.f_law.ok sc_law (fun vs H Q E h => ?_) (fun cdv A outer s H vs Q E hr h => ⟨t_law K, PSs.nox ?_, rd_law T.kx vs H Q E h⟩)
  · obtain ⟨_, _, rfl, _⟩ := h
    rfl
  · have sc := sc_law
    have hu := hu_of hr
    have hu64 := hr.units
    exact (pss_cons (ps_set (i := 1) sc.nd rfl (Or.inl rfl) (pe_call (ok__law_pen T) (hr.mono (by decide)) (by rfl) T.g__law_pen T.k__law_pen (T.b__law_pen) .nil pass0 (pa_cons (pv 0) pa_nil)))
  (pss_cons (ps_for PassesOwn.never rfl (pi_range1 (by rfl) T.n_range (pa_cons pe_int pa_nil)) (pg_name (i := 2) sc.nd rfl (Or.inl rfl)) (pss_one (ps_if (pt_not (pt_val (pe_call (ok__law_fields_right T) (hr.mono (by decide)) (by rfl) T.g__law_fields_right T.k__law_fields_right (T.b__law_fields_right) .nil pass0 (pa_cons (pe_call (ok__law_thing T) (hr.mono (by decide)) (by rfl) T.g__law_thing T.k__law_thing (T.b__law_thing) .nil pass0 (pa_cons (pv 1) pa_nil)) (pa_cons (pe_call (ok__law_thing T) (hr.mono (by decide)) (by rfl) T.g__law_thing T.k__law_thing (T.b__law_thing) .nil pass0 (pa_cons (pv 1) pa_nil)) pa_nil))))) (pss_one (ps_ret pe_bl)) pss_nil)))
  (pss_cons (ps_set (i := 3) sc.nd rfl (Or.inl rfl) (pe_call (ok__law_draw T) (hr.mono (by decide)) (by rfl) T.g__law_draw T.k__law_draw (T.b__law_draw) .nil pass0 (pa_cons (pv 1) (pa_cons pe_int pa_nil))))
  (pss_cons (ps_par (by rfl) sc.nd rfl rfl (by decide) rfl rfl (pa_cons (pe_lst (pa_cons (pe_lst (pa_cons pe_int (pa_cons pe_int pa_nil))) (pa_cons (pe_lst (pa_cons (pv 3) pa_nil)) pa_nil))) (pa_cons (pe_lst (pa_cons (pe_lst (pa_cons pe_int (pa_cons pe_int pa_nil))) (pa_cons (pe_lst (pa_cons (pv 3) pa_nil)) (pa_cons pe_int pa_nil)))) pa_nil)) (by rfl))
  (pss_cons (ps_set (i := 6) sc.nd rfl (Or.inl rfl) (pe_lst (pa_cons (pe_mkE T.x_BadRow.oex T.i_BadRow T.t_BadRow (ok_ini_BadRow T) (hr.mono (by decide)) T.b_BadRow pass0 (by rfl) T.g_BadRow (pa_cons pe_str (pa_cons (pv 4) pa_nil))) (pa_cons (pe_mkE T.x_BadText.oex T.i_BadText T.t_BadText (ok_ini_BadText T) (hr.mono (by decide)) T.b_BadText pass0 (by rfl) T.g_BadText (pa_cons pe_int (pa_cons (pv 4) pa_nil))) (pa_cons (pe_mkE T.x_NotKept.oex T.i_NotKept T.t_NotKept (ok_ini_NotKept T) (hr.mono (by decide)) T.b_NotKept pass0 (by rfl) T.g_NotKept (pa_cons pe_str (pa_cons (pv 4) pa_nil))) (pa_cons (pe_mkE T.x_BadSaying.oex T.i_BadSaying T.t_BadSaying (ok_ini_BadSaying T) (hr.mono (by decide)) T.b_BadSaying pass0 (by rfl) T.g_BadSaying (pa_cons (pv 4) pa_nil)) (pa_cons (pe_mkE T.x_TooMany.oex T.i_TooMany T.t_TooMany (ok_ini_TooMany T) (hr.mono (by decide)) T.b_TooMany pass0 (by rfl) T.g_TooMany (pa_cons pe_str (pa_cons (pv 4) (pa_cons pe_int pa_nil)))) pa_nil)))))))
  (pss_cons (ps_expr (pe_bm PySem.F.plainAttrs_list PySem.F.slot_list_append PySem.F.type_list_append mt_append (pv 4) (pa_cons pe_int pa_nil)))
  (pss_cons (ps_if (pt_cmpR (op_neD hu64) (pe_lst (pa_cons (pe_xfv (pe_ix ix_list (pv 6) pe_int (fun _ _ => rfl))) (pa_cons (pe_xfv (pe_ix ix_list (pv 6) pe_int (fun _ _ => rfl))) (pa_cons (pe_xfv (pe_ix ix_list (pv 6) pe_int (fun _ _ => rfl))) (pa_cons (pe_xfv (pe_ix ix_list (pv 6) pe_int (fun _ _ => rfl))) (pa_cons (pe_xfv (pe_ix ix_list (pv 6) pe_int (fun _ _ => rfl))) pa_nil)))))) (pe_op op_rep (pe_lst (pa_cons (pv 5) pa_nil)) pe_int) (nomark _)) (pss_one (ps_ret pe_bl)) pss_nil)
  (pss_cons (ps_par (by rfl) sc.nd rfl rfl (by decide) rfl rfl (pa_cons (pe_call (ok__law_thing T) (hr.mono (by decide)) (by rfl) T.g__law_thing T.k__law_thing (T.b__law_thing) .nil pass0 (pa_cons (pv 1) pa_nil)) (pa_cons (pe_call (ok__law_thing T) (hr.mono (by decide)) (by rfl) T.g__law_thing T.k__law_thing (T.b__law_thing) .nil pass0 (pa_cons (pv 1) pa_nil)) pa_nil)) (by rfl))
  (pss_cons (ps_set (i := 9) sc.nd rfl (Or.inl rfl) (pe_lst (pa_cons (pe_mkE T.x_BadText.oex T.i_BadText T.t_BadText (ok_ini_BadText T) (hr.mono (by decide)) T.b_BadText pass0 (by rfl) T.g_BadText (pa_cons (pv 7) (pa_cons (pv 8) pa_nil))) (pa_cons (pe_mkE T.x_BadName.oex T.i_BadName T.t_BadName (ok_ini_BadName T) (hr.mono (by decide)) T.b_BadName pass0 (by rfl) T.g_BadName (pa_cons (pv 7) pa_nil)) (pa_cons (pe_mkE T.x_BadNumber.oex T.i_BadNumber T.t_BadNumber (ok_ini_BadNumber T) (hr.mono (by decide)) T.b_BadNumber pass0 (by rfl) T.g_BadNumber (pa_cons (pv 7) (pa_cons (pv 8) pa_nil))) (pa_cons (pe_mkE T.x_BadSaying.oex T.i_BadSaying T.t_BadSaying (ok_ini_BadSaying T) (hr.mono (by decide)) T.b_BadSaying pass0 (by rfl) T.g_BadSaying (pa_cons (pv 7) pa_nil)) (pa_cons (pe_mkE T.x_BadLetter.oex T.i_BadLetter T.t_BadLetter (ok_ini_BadLetter T) (hr.mono (by decide)) T.b_BadLetter pass0 (by rfl) T.g_BadLetter (pa_cons (pv 7) pa_nil)) (pa_cons (pe_mkE T.x_BadBody.oex T.i_BadBody T.t_BadBody (ok_ini_BadBody T) (hr.mono (by decide)) T.b_BadBody pass0 (by rfl) T.g_BadBody (pa_cons (pv 7) pa_nil)) pa_nil))))))))
  (pss_cons (ps_set (i := 9) sc.nd rfl (Or.inl rfl) (pe_op op_cat (pv 9) (pe_lst (pa_cons (pe_mkE T.x_BadAim.oex T.i_BadAim T.t_BadAim (ok_ini_BadAim T) (hr.mono (by decide)) T.b_BadAim pass0 (by rfl) T.g_BadAim (pa_cons (pv 7) pa_nil)) (pa_cons (pe_mkE T.x_BadRow.oex T.i_BadRow T.t_BadRow (ok_ini_BadRow T) (hr.mono (by decide)) T.b_BadRow pass0 (by rfl) T.g_BadRow (pa_cons (pv 7) (pa_cons (pv 8) pa_nil))) (pa_cons (pe_mkE T.x_NoName.oex T.i_NoName T.t_NoName (ok_ini_NoName T) (hr.mono (by decide)) T.b_NoName pass0 (by rfl) T.g_NoName (pa_cons (pv 7) pa_nil)) (pa_cons (pe_mkE T.x_TakenName.oex T.i_TakenName T.t_TakenName (ok_ini_TakenName T) (hr.mono (by decide)) T.b_TakenName pass0 (by rfl) T.g_TakenName (pa_cons (pv 7) pa_nil)) (pa_cons (pe_mkE T.x_Unlike.oex T.i_Unlike T.t_Unlike (ok_ini_Unlike T) (hr.mono (by decide)) T.b_Unlike pass0 (by rfl) T.g_Unlike (pa_cons (pv 7) pa_nil)) (pa_cons (pe_mkE T.x_NotThere.oex T.i_NotThere T.t_NotThere (ok_ini_NotThere T) (hr.mono (by decide)) T.b_NotThere pass0 (by rfl) T.g_NotThere (pa_cons (pv 7) pa_nil)) pa_nil)))))))))
  (pss_cons (ps_set (i := 9) sc.nd rfl (Or.inl rfl) (pe_op op_cat (pv 9) (pe_lst (pa_cons (pe_mkE T.x_TooMany.oex T.i_TooMany T.t_TooMany (ok_ini_TooMany T) (hr.mono (by decide)) T.b_TooMany pass0 (by rfl) T.g_TooMany (pa_cons (pv 7) (pa_cons (pv 8) (pa_cons (pv 7) pa_nil)))) (pa_cons (pe_mkE T.x_NotKept.oex T.i_NotKept T.t_NotKept (ok_ini_NotKept T) (hr.mono (by decide)) T.b_NotKept pass0 (by rfl) T.g_NotKept (pa_cons (pv 7) (pa_cons (pv 8) pa_nil))) (pa_cons (pe_mkE0 T.e_NothingToUndo T.g_NothingToUndo T.kc_NothingToUndo (by rfl)) (pa_cons (pe_mkE0 T.e_NothingToRedo T.g_NothingToRedo T.kc_NothingToRedo (by rfl)) pa_nil)))))))
  (pss_cons (ps_for PassesOwn.never rfl (pi_enum (by rfl) T.n_enumerate (pa_cons (pv 9) pa_nil)) (pg_tup rfl (pgs_cons (pg_name (i := 10) sc.nd rfl (Or.inr rfl)) (pgs_cons (pg_name (i := 11) sc.nd rfl (Or.inl rfl)) pgs_nil))) (pss_cons (ps_if (pt_cmpR (op_neD hu64) (pe_call (ok__law_classes T) (hr.mono (by decide)) (by rfl) T.g__law_classes T.k__law_classes (T.b__law_classes) .nil pass0 (pa_cons (pv 11) pa_nil)) (pe_lc (own := [("j", 12)]) rfl sc.nd (pi_range1 (by rfl) T.n_range (pa_cons pe_int pa_nil)) (blkOk_by (by kernel_rfl)) (fun _ _ _ _ _ => (pg_name (i := 12) sc.nd rfl (by first | exact Or.inl rfl | exact Or.inr rfl))) (fun _ _ _ _ _ => pts_nil) (fun _ _ _ _ _ => (pe_cmpR op_eq (pv 10) (pv 12) (nomark _)))) (nomark _)) (pss_one (ps_ret pe_bl)) pss_nil)
  (pss_one (ps_if (PW.pt (pw_or (pt_not (pt_val (pe_callB call_isX (by rfl) T.n_isinstance (by decide +kernel) (pa_cons (pv 11) (pa_cons (pe_glob (by rfl) T.g_ForumError rfl) pa_nil))))) (pw_or1 (pt_not (pt_val (pe_callB call_isX (by rfl) T.n_isinstance (by decide +kernel) (pa_cons (pv 11) (pa_cons (pe_bltn (by rfl) T.n_ValueError (by decide +kernel) rfl) pa_nil)))))))) (pss_one (ps_ret pe_bl)) pss_nil))))
  (pss_one (ps_ret (pe_call (ok__law_raised_right T) (hr.mono (by decide)) (by rfl) T.g__law_raised_right T.k__law_raised_right (T.b__law_raised_right) .nil pass0 (pa_cons (pe_call (ok__law_thing T) (hr.mono (by decide)) (by rfl) T.g__law_thing T.k__law_thing (T.b__law_thing) .nil pass0 (pa_cons (pv 1) pa_nil)) pa_nil))))))))))))))))
end
abbrev R : PySem.W.OpenRow := PySem.W.OpenLaw.row PySem.Challenge.rw_voicesboth_k01_errors
abbrev hk : PySem.W.Hook := hookM 5 fa fn exB
def ob (s : PySem.W.SharedT) : AlM := obsMG 5 fa fn exB (HandSHeadRun.getT s)
theorem ob_eq (s : PySem.W.SharedT) : ob s = hk.obs s.abs := obsMG_eq (HandSHeadRun.getT_eq s)
def otherN : List Str := ["__name__", "ForumError", "BadText", "BadName", "BadNumber", "BadSaying", "BadLetter", "BadBody", "BadAim", "BadRow", "NoName", "TakenName", "Unlike", "NotThere", "TooMany", "NotKept", "NothingToUndo", "NothingToRedo", "_law_pen", "_law_draw", "_law_pick", "_law_thing", "_law_classes", "_law_raised_right", "_law_fields_right"]
theorem run (w : World) : HandSHeadRun.RunEq R (PySem.W.view R.prog [26]) hk ob 9000 otherN w := by
  intro os
  kernel_rfl
theorem facts {P : Program} {w : World} {K : PySem.W.Frag} {h : Heap} {mg : Str → Option Value} {f : Addr} (X : K.In h) (G : h.Ns mainGlobals mg) (hfa : mg ("law" : Str) = some (.ref f)) (c : obsM fa fn exB K = valM fn) :
    ∃ fd : FuncData, (∀ (s : Shared) (v : Value), BindsTo s fd ⟨[v], []⟩ [("script", v)]) ∧ ∀ base : Heap, K.In base → base.Ns mainGlobals mg → FnOk P w K mg base CX0 4 f fd ["script"] (sp_law K) := by
  have T : TX K mg := tx_of X G c
  have e := hfa.symm.trans T.g_law
  cases e
  have b := FunD.bindsA (ps := ["script"]) T.f_law fun _ _ _ _ _ _ us hl => match us, hl with | [_], _ => rfl
  exact ⟨_, fun s v => b s [v] rfl, fun base _ _ => ok_law T⟩
end VB
open PySem PySem.W PySem.Calls PyProof.Rows
set_option maxRecDepth 100000 in
set_option maxHeartbeats 0 in
theorem PySem.Challenge.cw_voicesboth_k01_errors_holds : PySem.Challenge.rw_voicesboth_k01_errors.Holds := by
  w_on; o_law
  refine HandSHeadRun.head_any (r := OpenLaw.row PySem.Challenge.rw_voicesboth_k01_errors) (q := view (OpenLaw.row PySem.Challenge.rw_voicesboth_k01_errors).prog [26]) (H := VB.hk) (ob := VB.ob) (M := 9000) (loose := VB.otherN) (d := HandSHeadRun.topDef (OpenLaw.row PySem.Challenge.rw_voicesboth_k01_errors).prog 26) (kwd := []) VB.ob_eq
    (by kernel_rfl) (fun s => by kernel_rfl) VB.run (by kernel_rfl) (by kernel_rfl) (by kernel_rfl) (by rfl) (by first | assumption | decide +kernel) (by decide +kernel) ⟨rfl, rfl, rfl, rfl, rfl, by decide +kernel⟩ ?hw ?hc
  case hw => w_witness2
  case hc =>
    refine L2.walk_ofE (l := PySem.Challenge.rw_voicesboth_k01_errors) (n := 63) (k := 4) (x := "script") (CX := L2.CX0) rfl (by decide) (by kernel_rfl) ⟨rfl, by decide, by decide⟩ ?F (fun _ _ _ _ z => z)
    intro w mg fa h Y G hmg0
    obtain ⟨K, KX, c⟩ := Y
    have hmg : mg ("law" : PySem.Str) = some (.ref fa) := by
      have e : (HandSHeadRun.topDef (OpenLaw.row PySem.Challenge.rw_voicesboth_k01_errors).prog 26).name = ("law" : PySem.Str) := by kernel_rfl
      rw [← e]
      exact hmg0
    obtain ⟨fd, hb, hF⟩ := VB.facts (P := (PySem.Challenge.rw_voicesboth_k01_errors).prog) (w := w) KX G hmg c
    exact ⟨K, fd, VB.sp_law K, KX, hb, fun H a ns hl _ hS => ⟨a, ns, rfl, hS, hl, fun _ => rfl⟩, hF⟩
